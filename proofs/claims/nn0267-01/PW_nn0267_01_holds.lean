import PyProof.Rows.All
import PyProof.ExcBaseAll.Exception
import PyProof.ExcAttrAll.Exception
import OpenK.KCls
import Open.Line
import OpenK.KLine
import KE.KUnpack
import KE.KFromBytes
import KE.KRevIter
import ObjForm.ListNI
import Wide.FinOn
import OpenK.AllK
import Wide.All
import Lean
import PySem.Challenge.RW_nn0267_01
set_option Elab.async false
section
open PySem PySem.W PyProof.Rows PySem.Calls PySem.Spec
set_option Elab.async false
set_option autoImplicit false
set_option maxRecDepth 100000

namespace NN
/-- what is handled: nothing, or an exception without a context -/
noncomputable def Hd (A : Around) (h : Heap) : Prop := A.handled = none ∨ ∃ a o vs, A.handled = some (.ref a) ∧ h.get? a = some o ∧ o.data = .fields vs ∧ vs[2]? = some .none
noncomputable def hx (A : Around) : List Addr := match A.handled with
  | some (.ref a) => [a]
  | _ => []
section
variable {A : Around} {h h' : Heap}
theorem Hd.frame (H : Hd A h) (k : ∀ b ∈ hx A, ∀ o, h.get? b = some o → h'.get? b = some o) : Hd A h' := by
  rcases H with H | ⟨a, o, vs, h1, h2, h3, h4⟩
  · exact .inl H
  · exact .inr ⟨a, o, vs, h1, k a (by simp [hx, h1]) o h2, h3, h4⟩
theorem Hd.keeps (H : Hd A h) (k : ∀ b o, h.get? b = some o → h'.get? b = some o) : Hd A h' := H.frame fun b _ o e => k b o e
theorem Hd.there (H : Hd A h) : ∀ b ∈ hx A, ∃ o, h.get? b = some o := by
  rcases H with H | ⟨a, o, vs, h1, h2, h3, h4⟩
  · intro b m; simp [hx, H] at m
  · intro b m
    simp only [hx, h1, List.mem_singleton] at m
    subst m
    exact ⟨o, h2⟩
theorem Hd.but {x : Addr} (H : Hd A h) (hI : x ∉ hx A) (k : ∀ b o, b ≠ x → h.get? b = some o → h'.get? b = some o) : Hd A h' := H.frame fun b m o e => k b o (fun q => hI (q ▸ m)) e
end

theorem entry_unchain : entryFor table "proto.unchain" = some Builtin.«proto.unchain» := entryFor_of_tree (by kernel_rfl)

section
variable {prog : Program} {w : World} {A : Around} {E : Value → Shared → Prop} {s : Shared}

/-- a StopIteration is raised -/
theorem stop_any {α : Type} {Q : α → Shared → Prop} (H : Hd A s.heap) (h : ∀ h' x, (∀ b o, s.heap.get? b = some o → h'.get? b = some o) → (∃ o, h'.get? x = some o ∧ o.cls = .type "StopIteration") → E (.ref x) { s with heap := h' }) :
    wpAny (model prog w) A ((newExc (.type "StopIteration") [] >>= fun e => raiseNew e : Sem α)) Q E s := by
  refine wpAny_bind ?_
  simp only [newExc, newTuple]
  refine wpAny_bind (wpAny_newObj_type ?_ (by size_fits))
  refine wpAny_bind (m := firstArgMember _ _) (wpAny_of_eq (a := Value.none) (by first | rfl | (simp only [firstArgMember]; rfl)) ?_)
  refine wpAny_newObj_type ?_ (by size_fits)
  simp only [raiseNew]
  refine wpAny_bind (wpAny_handled ?_)
  have k1 : ∀ b o, s.heap.get? b = some o → ((s.heap.push { cls := .type "tuple", data := .seq ([] : List Value).toArray }).push { cls := .type "StopIteration", data := .fields (#[.ref s.heap.objs.size, .none, .none, .none, .bool false, .none] ++ ownMembersOf (.type "StopIteration") []) }).get? b = some o := fun b o e => Heap.get?_push_of_some _ (Heap.get?_push_of_some _ e)
  rcases H with hh | ⟨a, o, vs, h1, h2, h3, h4⟩
  · rw [show A.handled = none from hh]
    refine wpAny_bind (wpAny_pure (wpAny_throw ?_))
    exact h _ _ k1 ⟨_, Heap.get?_push_size _ rfl, rfl⟩
  · rw [h1]
    dsimp only
    have hne : a ≠ (s.heap.push { cls := .type "tuple", data := .seq ([] : List Value).toArray }).objs.size := by
      have := Heap.lt_size h2
      rw [Heap.size_push]
      exact Nat.ne_of_lt (Nat.lt_succ_of_lt this)
    rw [if_pos (by simpa using hne)]
    refine wpAny_bind (wpAny_holding (wpAny_runValue (codeAny_builtin entry_unchain ?_)))
    unfold Builtin.«proto.unchain»
    dsimp only
    refine wpAny_bind (wpAny_field (k1 _ _ h2) h3 h4 ?_)
    rw [if_pos (by decide)]
    refine wpAny_pure ?_
    dsimp only
    refine wpAny_bind ?_
    show wpAny _ _ (setField (.ref _) 2 (.ref a)) _ _ _
    have hget := Heap.get?_push_size (s.heap.push { cls := .type "tuple", data := .seq ([] : List Value).toArray }) (o := { cls := .type "StopIteration", data := .fields (#[.ref s.heap.objs.size, .none, .none, .none, .bool false, .none] ++ ownMembersOf (.type "StopIteration") []) }) rfl
    refine wpAny_setField hget rfl (by rw [Array.size_append]; exact Nat.lt_of_lt_of_le (by decide : 2 < 6) (Nat.le_add_right _ _)) (wpAny_throw ?_)
    refine h _ _ (fun b o e => ?_) ⟨_, Heap.get?_update_self _ hget (Obj.isFreed_of_fields (Obj.data_mapFields rfl _)), Obj.cls_mapFields _ _⟩
    have hb : (s.heap.push { cls := .type "tuple", data := .seq ([] : List Value).toArray }).objs.size ≠ b := by
      have := Heap.lt_size e
      rw [Heap.size_push]
      exact Nat.ne_of_gt (Nat.lt_succ_of_lt this)
    exact (Heap.get?_update_other _ _ hb).trans (k1 b o e)

theorem stop_end {x : Addr} {Q : Option Value → Shared → Prop} {s' : Shared} (hc : ∃ o, s'.heap.get? x = some o ∧ o.cls = .type "StopIteration") (h : Q none s') :
    wpAny (model prog w) A (do if ← isInstance (.ref x) (.type "StopIteration") then pure none else throw (.ref x)) Q E s' := by
  obtain ⟨o, ho, hc⟩ := hc
  refine wpAny_bind (wpAny_isInstance (T := "StopIteration") (b := true) ⟨o, ho, hc⟩ isSubtype_stop ?_)
  exact wpAny_pure h

theorem list_end {it l : Addr} {i : Nat} {items : Array Value} {Q : Option Value → Shared → Prop} (H : Hd A s.heap) (hI : it ∉ hx A)
    (hit : s.heap.IsListIter it l i) (hl : s.heap.IsList l items) (hx : items[i]? = none)
    (hQ : ∀ h', Heap.ExtBut it s.heap h' → Q none { s with heap := h' }) : wpAny (model prog w) A (pyNext (.ref it)) Q E s := by
  obtain ⟨o, ho, hc, hd⟩ := id hit
  obtain ⟨ol, hol, _, nl, hdl⟩ := hl
  unfold pyNext
  refine wpAny_bind (wpAny_attempt (wpAny_callSpecial?_slot (name := Str.ofString "__next__") hit.typeIs slot_listiter_next
    (wpAny_call_entry slot_listiter_next hit.typeIs entry_listiter_next ?_ (args_listiter_next _))))
  show wpAny _ _ (field (.ref it) 0 >>= _) _ _ s
  refine wpAny_bind (wpAny_field ho hd (x := .ref l) rfl ?_)
  show wpAny _ _ (if (Value.ref l == Value.none) = true then _ else _) _ _ s
  rw [if_neg (show ¬ ((Value.ref l == Value.none) = true) from Bool.false_ne_true)]
  show wpAny _ _ (field (.ref it) 1 >>= _) _ _ s
  refine wpAny_bind (wpAny_field ho hd (x := .int i 0) rfl ?_)
  show wpAny _ _ (seqItems? (.ref l) >>= _) _ _ s
  refine wpAny_bind (wpAny_seqItems hol hdl ?_)
  simp only [Int.toNat_natCast, hx]
  refine wpAny_bind (wpAny_rule (wpAny_bind (wpAny_setField ho hd (by simp) ?_)))
  have e1 : ∀ b o, b ≠ it → s.heap.get? b = some o → (s.heap.update it (Obj.mapFields (·.setIfInBounds 0 Value.none))).get? b = some o := fun b o n e => (Heap.get?_update_other _ _ (Ne.symm n)).trans e
  refine stop_any (A := A.in1) (s := { s with heap := s.heap.update it (Obj.mapFields (·.setIfInBounds 0 Value.none)) }) (Hd.but (A := A) H hI e1) fun h' x hk hc' => ?_
  exact stop_end hc' (hQ h' fun b o n e => hk b o (e1 b o n e))

theorem tuple_end {it l : Addr} {i : Nat} {items : Array Value} {Q : Option Value → Shared → Prop} (H : Hd A s.heap) (hI : it ∉ hx A)
    (hit : s.heap.IsTupleIter it l i) (hl : s.heap.IsTuple l items) (hx : items[i]? = none)
    (hQ : ∀ h', Heap.ExtBut it s.heap h' → Q none { s with heap := h' }) : wpAny (model prog w) A (pyNext (.ref it)) Q E s := by
  obtain ⟨o, ho, hc, hd⟩ := id hit
  obtain ⟨ol, hol, _, nl, hdl⟩ := hl
  unfold pyNext
  refine wpAny_bind (wpAny_attempt (wpAny_callSpecial?_slot (name := Str.ofString "__next__") hit.typeIs PySem.F.slot_tuple_iterator_next
    (wpAny_call_entry PySem.F.slot_tuple_iterator_next hit.typeIs PySem.F.entry_tuple_iterator_next ?_ (PySem.F.args_tuple_iterator_next_1 _))))
  show wpAny _ _ (field (.ref it) 0 >>= _) _ _ s
  refine wpAny_bind (wpAny_field ho hd (x := .ref l) rfl ?_)
  show wpAny _ _ (if (Value.ref l == Value.none) = true then _ else _) _ _ s
  rw [if_neg (show ¬ ((Value.ref l == Value.none) = true) from Bool.false_ne_true)]
  show wpAny _ _ (field (.ref it) 1 >>= _) _ _ s
  refine wpAny_bind (wpAny_field ho hd (x := .int i 0) rfl ?_)
  show wpAny _ _ (seqItems? (.ref l) >>= _) _ _ s
  refine wpAny_bind (wpAny_seqItems hol hdl ?_)
  simp only [Int.toNat_natCast, hx]
  refine wpAny_bind (wpAny_rule (wpAny_bind (wpAny_setField ho hd (by simp) ?_)))
  have e1 : ∀ b o, b ≠ it → s.heap.get? b = some o → (s.heap.update it (Obj.mapFields (·.setIfInBounds 0 Value.none))).get? b = some o := fun b o n e => (Heap.get?_update_other _ _ (Ne.symm n)).trans e
  refine stop_any (A := A.in1) (s := { s with heap := s.heap.update it (Obj.mapFields (·.setIfInBounds 0 Value.none)) }) (Hd.but (A := A) H hI e1) fun h' x hk hc' => ?_
  exact stop_end hc' (hQ h' fun b o n e => hk b o (e1 b o n e))

theorem range_end {it : Addr} {x left step : Int} {Q : Option Value → Shared → Prop} (H : Hd A s.heap) (hit : IsRangeIter s.heap it x left step) (hleft : left ≤ 0)
    (hQ : ∀ h', Heap.ExtBut it s.heap h' → Q none { s with heap := h' }) : wpAny (model prog w) A (pyNext (.ref it)) Q E s := by
  have hT : s.TypeIs (.ref it) "range_iterator" := ⟨_, hit, rfl⟩
  unfold pyNext
  refine wpAny_bind (wpAny_attempt (wpAny_callSpecial?_slot (name := Str.ofString "__next__") hT PySem.F.slot_range_iterator_next
    (wpAny_call_entry PySem.F.slot_range_iterator_next hT PySem.F.entry_range_iterator_next ?_ (PySem.F.args_range_iterator_next_1 _))))
  show wpAny _ _ (field (.ref it) 0 >>= _) _ _ s
  refine wpAny_bind (wpAny_field hit rfl (x := rawInt x) rfl ?_)
  show wpAny _ _ (field (.ref it) 1 >>= _) _ _ s
  refine wpAny_bind (wpAny_field hit rfl (x := rawInt left) rfl ?_)
  show wpAny _ _ (field (.ref it) 2 >>= _) _ _ s
  refine wpAny_bind (wpAny_field hit rfl (x := rawInt step) rfl ?_)
  show wpAny _ _ (if left ≤ 0 then _ else _) _ _ s
  rw [if_pos hleft]
  refine wpAny_bind (wpAny_rule ?_)
  refine wpAny_bind ?_
  refine stop_any (A := A.in1) (s := s) H fun h' x hk hc' => ?_
  exact stop_end hc' (hQ h' fun b o _ e => hk b o e)

theorem rev_end {it l : Addr} {Q : Option Value → Shared → Prop} (H : Hd A s.heap) (hit : s.heap.IsRevIter it l (-1))
    (hQ : ∀ h', Heap.ExtBut it s.heap h' → Q none { s with heap := h' }) : wpAny (model prog w) A (pyNext (.ref it)) Q E s := by
  obtain ⟨o, ho, hc, hd⟩ := id hit
  unfold pyNext
  refine wpAny_bind (wpAny_attempt (wpAny_callSpecial?_slot (name := Str.ofString "__next__") hit.typeIs PySem.F.slot_lri_next
    (wpAny_call_entry PySem.F.slot_lri_next hit.typeIs PySem.F.entry_lri_next ?_ (PySem.F.args_lri_next_1 _))))
  unfold Builtin.«list_reverseiterator.__next__»
  refine wpAny_bind (wpAny_of_eq (a := (Value.ref it, [])) rfl ?_)
  try dsimp only
  refine wpAny_bind (wpAny_field ho hd (x := rawInt (-1)) rfl ?_)
  show wpAny _ _ (if (-1 : Int) < 0 then _ else _) _ _ s
  rw [if_pos (by decide)]
  refine wpAny_bind (wpAny_rule ?_)
  first
    | refine stop_any (A := A.in1) (s := s) H fun h' x hk hc' => ?_
    | (refine wpAny_bind ?_; refine stop_any (A := A.in1) (s := s) H fun h' x hk hc' => ?_)
  exact stop_end hc' (hQ h' fun b o _ e => hk b o e)

theorem next_list_end {it l : Addr} {i : Nat} {items : Array Value} {Q : Value → Shared → Prop} (H : Hd A s.heap) (hI : it ∉ hx A)
    (hit : s.heap.IsListIter it l i) (hl : s.heap.IsList l items) (hx : items[i]? = none)
    (hE : ∀ h' e, Heap.ExtBut it s.heap h' → (∃ o, h'.get? e = some o ∧ o.cls = .type "StopIteration") → E (.ref e) { s with heap := h' }) :
    wpAny (model prog w) A (Builtin.SmallTypes.nextOf (.ref it)) Q E s := by
  obtain ⟨o, ho, hc, hd⟩ := id hit
  obtain ⟨ol, hol, _, nl, hdl⟩ := hl
  unfold Builtin.SmallTypes.nextOf
  refine wpAny_bind (wpAny_callSpecial?_slot (name := Str.ofString "__next__") hit.typeIs slot_listiter_next
    (wpAny_call_entry slot_listiter_next hit.typeIs entry_listiter_next ?_ (args_listiter_next _)))
  show wpAny _ _ (field (.ref it) 0 >>= _) _ _ s
  refine wpAny_bind (wpAny_field ho hd (x := .ref l) rfl ?_)
  show wpAny _ _ (if (Value.ref l == Value.none) = true then _ else _) _ _ s
  rw [if_neg (show ¬ ((Value.ref l == Value.none) = true) from Bool.false_ne_true)]
  show wpAny _ _ (field (.ref it) 1 >>= _) _ _ s
  refine wpAny_bind (wpAny_field ho hd (x := .int i 0) rfl ?_)
  show wpAny _ _ (seqItems? (.ref l) >>= _) _ _ s
  refine wpAny_bind (wpAny_seqItems hol hdl ?_)
  simp only [Int.toNat_natCast, hx]
  refine wpAny_bind (wpAny_rule (wpAny_bind (wpAny_setField ho hd (by simp) ?_)))
  have e1 : ∀ b o, b ≠ it → s.heap.get? b = some o → (s.heap.update it (Obj.mapFields (·.setIfInBounds 0 Value.none))).get? b = some o := fun b o n e => (Heap.get?_update_other _ _ (Ne.symm n)).trans e
  refine stop_any (A := A.in1) (s := { s with heap := s.heap.update it (Obj.mapFields (·.setIfInBounds 0 Value.none)) }) (Hd.but (A := A) H hI e1) fun h' x hk hc' => ?_
  exact hE h' x (fun b o n e => hk b o (e1 b o n e)) hc'

theorem enum_end {e it l : Addr} {i : Nat} {items : Array Value} {old : Value} {Q : Option Value → Shared → Prop} (H : Hd A s.heap) (hI : it ∉ hx A)
    (he : IsEnum s.heap e it i old) (hit : s.heap.IsListIter it l i) (hl : s.heap.IsList l items) (hx : items[i]? = none)
    (hQ : ∀ h', Heap.ExtBut it s.heap h' → Q none { s with heap := h' }) : wpAny (model prog w) A (pyNext (.ref e)) Q E s := by
  have hT : s.TypeIs (.ref e) "enumerate" := ⟨_, he, rfl⟩
  unfold pyNext
  refine wpAny_bind (wpAny_attempt (wpAny_callSpecial?_slot (name := Str.ofString "__next__") hT PySem.F.slot_enumerate_next
    (wpAny_call_entry PySem.F.slot_enumerate_next hT PySem.F.entry_enumerate_next ?_ (PySem.F.args_enumerate_next_1 _))))
  show wpAny _ _ (field (.ref e) 2 >>= _) _ _ _
  refine wpAny_bind (wpAny_field he rfl (x := .ref it) rfl ?_)
  refine wpAny_bind (next_list_end (A := A.in1) H hI hit hl hx fun h' x he' hx' => ?_)
  exact stop_end hx' (hQ _ he')

theorem walks_list {A : Around} (I l : Addr) (hI : I ∉ hx A) (hne : l ≠ I) (items : Array Value) :
    Walks prog w A I ([I, l] ++ hx A) [I] items.size (fun i v => items[i]? = some v) (fun i h => (h.IsListIter I l i ∧ h.IsList l items) ∧ Hd A h) where
  sub := fun b hb => by simp at hb; simp [hb]
  frame := fun _ _ _ st hk => ⟨⟨st.1.1.at fun o e => hk I (by simp) o e, st.1.2.at fun o e => hk l (by simp) o e⟩, st.2.frame fun b m o e => hk b (List.mem_append_right _ m) o e⟩
  item := fun i s Q E hi st hQ => by
    refine wpAny_pyNext_list_item st.1.1 st.1.2 (x := items[i]) (by simp [hi]) fun h' hit' hs' => ?_
    exact hQ _ h' s.toks (by simp [hi]) ⟨⟨hit', st.1.2.extBut hs'.extBut hne⟩, st.2.but hI fun b o n e => hs'.extBut b o n e⟩ fun b o hb e => hs'.extBut b o (fun h => hb (by simp [h])) e
  done := fun s Q E st hQ => list_end st.2 hI st.1.1 st.1.2 (by simp) fun h' he' => hQ h' s.toks fun b o hb e => he' b o (fun h => hb (by simp [h])) e
  self := fun _ _ _ _ st hQ => wpAny_pyIter_listiter st.1.1 hQ

theorem walks_tuple {A : Around} (I l : Addr) (hI : I ∉ hx A) (hne : l ≠ I) (items : Array Value) :
    Walks prog w A I ([I, l] ++ hx A) [I] items.size (fun i v => items[i]? = some v) (fun i h => (h.IsTupleIter I l i ∧ h.IsTuple l items) ∧ Hd A h) where
  sub := fun b hb => by simp at hb; simp [hb]
  frame := fun _ _ _ st hk => ⟨⟨st.1.1.at fun o e => hk I (by simp) o e, st.1.2.at fun o e => hk l (by simp) o e⟩, st.2.frame fun b m o e => hk b (List.mem_append_right _ m) o e⟩
  item := fun i s Q E hi st hQ => by
    refine wpAny_pyNext_tuple_item st.1.1 st.1.2 (x := items[i]) (by simp [hi]) fun h' hit' hs' => ?_
    exact hQ _ h' s.toks (by simp [hi]) ⟨⟨hit', st.1.2.extBut hs'.extBut hne⟩, st.2.but hI fun b o n e => hs'.extBut b o n e⟩ fun b o hb e => hs'.extBut b o (fun h => hb (by simp [h])) e
  done := fun s Q E st hQ => tuple_end st.2 hI st.1.1 st.1.2 (by simp) fun h' he' => hQ h' s.toks fun b o hb e => he' b o (fun h => hb (by simp [h])) e
  self := fun _ _ _ _ st hQ => wpAny_pyIter_tupleiter st.1.1 hQ

theorem walks_range {A : Around} (I : Addr) (hI : I ∉ hx A) (a c : Int) (n : Nat) :
    Walks prog w A I ([I] ++ hx A) [I] n (fun i v => ∃ t, v = .int (a + i * c) t) (fun i h => IsRangeIter h I (a + (i : Nat) * c) ((n : Int) - (i : Nat)) c ∧ Hd A h) where
  sub := fun _ hb => List.mem_append_left _ hb
  frame := fun _ _ _ st hk => ⟨hk I (by simp) _ st.1, st.2.frame fun b m o e => hk b (List.mem_append_right _ m) o e⟩
  item := fun i s Q E hi st hQ => by
    refine wpAny_pyNext_range_item st.1 (by omega) fun h' hit' hs' => ?_
    refine hQ _ h' _ ⟨_, rfl⟩ ⟨?_, st.2.but hI fun b o n e => hs'.extBut b o n e⟩ fun b o hb e => hs'.extBut b o (fun h => hb (by simp [h])) e
    have e1 : a + ((i + 1 : Nat) : Int) * c = a + (i : Int) * c + c := by push_cast; rw [Int.add_mul, Int.one_mul, Int.add_assoc]
    have e2 : (n : Int) - ((i + 1 : Nat) : Int) = (n : Int) - (i : Int) - 1 := by push_cast; omega
    rw [e1, e2]; exact hit'
  done := fun s Q E st hQ => range_end st.2 st.1 (by omega) fun h' he' => hQ h' s.toks fun b o hb e => he' b o (fun h => hb (by simp [h])) e
  self := fun _ _ _ _ st hQ => wpAny_pyIter_rangeiter st.1 hQ

theorem walks_rev {A : Around} (I l : Addr) (hI : I ∉ hx A) (hne : l ≠ I) (items : Array Value) :
    Walks prog w A I ([I, l] ++ hx A) [I] items.size (fun i v => items[items.size - 1 - i]? = some v) (fun i h => (i ≤ items.size ∧ h.IsRevIter I l ((items.size : Int) - 1 - (i : Int)) ∧ h.IsList l items) ∧ Hd A h) where
  sub := fun b hb => by simp at hb; simp [hb]
  frame := fun _ _ _ x hk => ⟨⟨x.1.1, x.1.2.1.at fun o e => hk I (by simp) o e, x.1.2.2.at fun o e => hk l (by simp) o e⟩, x.2.frame fun b m o e => hk b (List.mem_append_right _ m) o e⟩
  item := fun i s Q E hi x hQ => by
    have e : (items.size : Int) - 1 - (i : Int) = ((items.size - 1 - i : Nat) : Int) := by omega
    have hit := x.1.2.1
    rw [e] at hit
    have hx : items[items.size - 1 - i]? = some (items[items.size - 1 - i]'(by omega)) := Array.getElem?_eq_getElem (by omega)
    refine wpAny_pyNext_rev_item hit x.1.2.2 hx fun h' hit' hs' => ?_
    have e2 : ((items.size - 1 - i : Nat) : Int) - 1 = (items.size : Int) - 1 - ((i + 1 : Nat) : Int) := by omega
    rw [e2] at hit'
    exact hQ _ h' s.toks hx ⟨⟨hi, hit', x.1.2.2.at fun o eo => (hs'.2 l hne).trans eo⟩, x.2.but hI fun b o n e => hs'.extBut b o n e⟩ fun b o hb eo => hs'.extBut b o (fun h => hb (by simp [h])) eo
  done := fun s Q E x hQ => by
    have e : (items.size : Int) - 1 - (items.size : Int) = -1 := by omega
    have hit := x.1.2.1
    rw [e] at hit
    exact rev_end x.2 hit fun h' he' => hQ h' s.toks fun b o hb eo => he' b o (fun h => hb (by simp [h])) eo
  self := fun _ _ _ _ x hQ => wpAny_pyIter_revIter x.1.2.1 hQ

theorem walks_enum {A : Around} (e it l : Addr) (hI : e ∉ hx A) (hI2 : it ∉ hx A) (hei : e ≠ it) (hle : l ≠ e) (hli : l ≠ it) (items : Array Value) :
    WalksT prog w A e ([e, it, l] ++ hx A) [e, it] items.size
      (fun i vals => ∃ t x, items[i]? = some x ∧ vals = #[.int i t, x])
      (fun i h => ((∃ old, IsEnum h e it i old) ∧ h.IsListIter it l i ∧ h.IsList l items) ∧ Hd A h)
      (fun i T h => ((∃ x, IsEnumOut h e it ((i : Int) + 1) x T) ∧ h.IsListIter it l (i + 1) ∧ h.IsList l items ∧ T ≠ e ∧ T ≠ it) ∧ Hd A h) where
  sub := fun b hb => by
    rcases List.mem_cons.mp hb with rfl | hb
    · exact List.mem_append_left _ (by simp)
    · rcases List.mem_cons.mp hb with rfl | hb
      · exact List.mem_append_left _ (by simp)
      · cases hb
  frame := fun i h h' hst hk => by
    obtain ⟨⟨⟨old, he⟩, hit, hl⟩, H⟩ := hst
    exact ⟨⟨⟨old, hk e (by simp) _ he⟩, hit.at fun o x => hk it (by simp) o x, hl.at fun o x => hk l (by simp) o x⟩, H.frame fun b m o e => hk b (List.mem_append_right _ m) o e⟩
  item := fun i s Q E hi hst hQ => by
    obtain ⟨⟨⟨old, he⟩, hit, hl⟩, H⟩ := hst
    have hx : items[i]? = some items[i] := Array.getElem?_eq_getElem hi
    refine wpAny_pyNext_enum_item he hit hl hx hei fun h' ho hit' hT hsz hk => ?_
    have helt : e < s.heap.objs.size := Heap.lt_size he
    have hilt : it < s.heap.objs.size := by obtain ⟨_, x, _⟩ := hit; exact Heap.lt_size x
    exact hQ s.heap.objs.size #[.int i s.toks, items[i]] h' (s.toks + 1) ⟨_, _, hx, rfl⟩ (Nat.le_refl _) ⟨_, hT, rfl, _, rfl⟩
      ⟨⟨⟨_, ho⟩, hit', hl.at fun o x => hk l o hle hli x, Nat.ne_of_gt helt, Nat.ne_of_gt hilt⟩, H.frame fun b m o x => hk b o (fun q => hI (q ▸ m)) (fun q => hI2 (q ▸ m)) x⟩
      fun b o hb x => hk b o (fun e' => hb (by simp [e'])) (fun e' => hb (by simp [e'])) x
  go := fun elts k pos i T s Q E hm hQ => by
    obtain ⟨⟨⟨x, ho⟩, hit, hl, hTe, hTi⟩, H⟩ := hm
    refine wpAny_letOwnedTupleGo_enum ho fun h' he' hs' => hQ h' ⟨⟨⟨x, by simpa using he'⟩, hit.at fun o y => (hs'.2 it hei.symm).trans y, hl.at fun o y => (hs'.2 l hle).trans y⟩, H.but hI fun b o n y => (hs'.2 b n).trans y⟩ fun b o hb y => ?_
    exact (hs'.2 b fun e' => hb (by simp [e'])).trans y
  apart := fun i T h hm hT => by
    obtain ⟨⟨_, _, _, hTe, hTi⟩, _⟩ := hm
    rcases List.mem_cons.mp hT with rfl | hT
    · exact hTe rfl
    · rcases List.mem_cons.mp hT with rfl | hT
      · exact hTi rfl
      · cases hT
  done := fun s Q E hst hQ => by
    obtain ⟨⟨⟨old, he⟩, hit, hl⟩, H⟩ := hst
    exact enum_end H hI2 he hit hl (Array.getElem?_eq_none (Nat.le_refl _)) fun h' hx => hQ h' s.toks fun b o hb y => hx b o (fun e' => hb (by simp [e'])) y
  self := fun i s Q E hst hQ => by
    obtain ⟨⟨⟨old, he⟩, _, _⟩, _⟩ := hst
    exact wpAny_pyIter_enum he hQ

theorem Hd.fresh {A : Around} {h : Heap} (H : Hd A h) : h.objs.size ∉ hx A := fun m => by
  obtain ⟨o, e⟩ := H.there _ m
  exact absurd (Heap.lt_size e) (Nat.lt_irrefl _)

theorem unpackItems_t {t : Addr} {items : Array Value} {Q : List Value → Shared → Prop} (H : Hd A s.heap) (ht : s.heap.IsTuple t items)
    (hQ : ∀ h', Heap.ExtBut s.heap.objs.size s.heap h' → Q items.toList { s with heap := h' }) : wpAny (model prog w) A (unpackItems (.ref t) items.size none) Q E s := by
  have hlt : t ≠ s.heap.objs.size := by obtain ⟨o, ho, _⟩ := ht; exact Nat.ne_of_lt (Heap.lt_size ho)
  unfold unpackItems
  refine wpAny_bind ?_
  · unfold notIterableAtAll
    refine wpAny_bind (wpAny_specialOf ht.typeIs PySem.F.slot_tuple_iter.lookup ?_)
    refine wpAny_pure ?_
    simp only [Bool.false_eq_true, if_false]
    refine wpAny_bind (wpAny_holding (wpAny_pyIter_tuple ht ?_))
    refine wpAny_bind (wpAny_holding (wpAny_draw_tuple hlt items.size 0 _ _ ⟨_, Heap.get?_push_size _ rfl, rfl, rfl⟩ (ht.push _) (by omega) fun h₁ hit₁ hs₁ => ?_))
    have hall : List.take items.size (List.drop 0 items.toList) = items.toList := by
      rw [List.drop_zero]; exact List.take_of_length_le (by simp)
    rw [hall]
    rw [if_neg (by simp)]
    have ht₁ : h₁.IsTuple t items := (ht.push _).extBut hs₁.extBut hlt
    have H₁ : Hd A h₁ := H.frame fun b m o e => hs₁.extBut b o (fun q => H.fresh (q ▸ m)) (Heap.get?_push_of_some _ e)
    refine wpAny_bind (wpAny_holding (tuple_end (s := { s with heap := h₁ }) H₁ H.fresh hit₁ ht₁ (by simp) fun h₂ he₂ => ?_))
    simp only [Option.isSome_none, Bool.false_eq_true, if_false]
    refine wpAny_pure (hQ h₂ fun b o hb e => he₂ b o hb (hs₁.extBut b o hb (Heap.get?_push_of_some _ e)))

theorem assign_t {env : Env} {elts : List Expr} {x1 : Nat} {pos : Pos} {t : Addr} {items : Array Value} {Q : Unit → Shared → Prop} (H : Hd A s.heap) (ht : s.heap.IsTuple t items)
    (hn : (assignEach elts env).length = items.size) (hstar : (assignEach elts env).findIdx? (·.1) = none)
    (h : ∀ h', Heap.ExtBut s.heap.objs.size s.heap h' → wpAny (model prog w) A (assignInOrder ((assignEach elts env).map (·.2)) items.toList) Q E { s with heap := h' }) :
    wpAny (model prog w) A (assign (.Tuple elts x1 pos) env (.ref t)) Q E s := by
  rw [arm_assign_Tuple]
  refine wpAny_bind (wpAny_standAt ?_)
  unfold unpack
  rw [hn, hstar]
  exact wpAny_bind (wpAny_holding (unpackItems_t H ht h))

theorem max_two {a b : Int} {t u : Tok} {Q : Value → Shared → Prop} (H : Hd A s.heap)
    (h : ∀ h' tk, (∀ c o, s.heap.get? c = some o → h'.get? c = some o) → Q (if b > a then .int b u else .int a t) { s with heap := h', toks := tk }) :
    wpAny (model prog w) A (call (.builtin "max") [.int a t, .int b u]) Q E s := by
  have hT : (s.heap.push { cls := .type "tuple", data := .seq #[.int a t, .int b u] }).IsTuple s.heap.objs.size (intItems #[(a, t), (b, u)]) := ⟨_, Heap.get?_push_size _ rfl, rfl, 0, by simp [intItems]⟩
  refine call_max_two (wpAny_pyIter_tuple hT ?_)
  have hsz : (s.heap.push { cls := .type "tuple", data := .seq #[.int a t, .int b u] }).objs.size = s.heap.objs.size + 1 := Heap.size_push ..
  have kk : ∀ c o, s.heap.get? c = some o → ((s.heap.push { cls := .type "tuple", data := .seq #[.int a t, .int b u] }).push { cls := .type "tuple_iterator", data := .fields #[.ref s.heap.objs.size, .int 0 0] }).get? c = some o := fun c o e => Heap.get?_push_of_some _ (Heap.get?_push_of_some _ e)
  have live : ∀ c ∈ hx A, c < s.heap.objs.size := fun c m => let ⟨_, e⟩ := H.there c m; Heap.lt_size e
  have nI : (s.heap.push { cls := .type "tuple", data := .seq #[.int a t, .int b u] }).objs.size ∉ hx A := fun m => by
    have := live _ m
    rw [hsz] at this
    exact absurd (Nat.lt_of_succ_lt this) (Nat.lt_irrefl _)
  refine ⟨_, ([_, s.heap.objs.size] ++ hx A), [_], _, _, _, _, rfl, walks_tuple (A := A.in1) _ s.heap.objs.size nI (by rw [hsz]; exact Nat.ne_of_lt (Nat.lt_succ_self _)) (intItems #[(a, t), (b, u)]),
    ⟨⟨⟨_, Heap.get?_push_size _ rfl, rfl, rfl⟩, hT.push _⟩, H.keeps kk⟩, fun c hc => ?_, by simp [intItems], CmpOf.ints_gt (numAt #[(a, t), (b, u)]) (fun _ _ => intItems_at), fun v h' tk hP hk => ?_⟩
  · show c < ((s.heap.push _).push _).objs.size
    rw [Heap.size_push, hsz]
    rcases List.mem_append.mp hc with hc | hc
    · rcases List.mem_cons.mp hc with rfl | hc
      · rw [hsz]; exact Nat.lt_succ_self _
      · rcases List.mem_cons.mp hc with rfl | hc
        · exact Nat.lt_succ_of_lt (Nat.lt_succ_self _)
        · cases hc
    · exact Nat.lt_succ_of_lt (Nat.lt_succ_of_lt (live c hc))
  · have hold : ∀ c o, s.heap.get? c = some o → h'.get? c = some o := fun c o e => by
      refine hk c o (fun hm => ?_) (kk c o e)
      rcases List.mem_cons.mp hm with e1 | hm
      · have := Heap.lt_size e; rw [e1, hsz] at this; exact Nat.lt_irrefl _ (Nat.lt_of_succ_lt this)
      · cases hm
    have := h h' tk hold
    have hv : v = if b > a then Value.int b u else Value.int a t := by
      have hP' : (intItems #[(a, t), (b, u)])[argBest (fun i j => decide (numAt #[(a, t), (b, u)] i > numAt #[(a, t), (b, u)] j)) 1]? = some v := by
        have hsz2 : (intItems #[(a, t), (b, u)]).size - 1 = 1 := by simp [intItems]
        rw [← hsz2]; exact hP
      by_cases hba : b > a
      · have e : argBest (fun i j => decide (numAt #[(a, t), (b, u)] i > numAt #[(a, t), (b, u)] j)) 1 = 1 := by simp [argBest, numAt, hba]
        rw [e] at hP'
        simpa [intItems, hba] using hP'.symm
      · have e : argBest (fun i j => decide (numAt #[(a, t), (b, u)] i > numAt #[(a, t), (b, u)] j)) 1 = 0 := by simp [argBest, numAt, hba]
        rw [e] at hP'
        simpa [intItems, hba] using hP'.symm
    rw [hv]
    exact this
end
end NN
end

section
open PySem PySem.W PyProof.Rows PySem.Calls PySem.Spec
set_option Elab.async false
set_option autoImplicit false
set_option maxRecDepth 100000

namespace NN

/-- trees: what a value bears -/
inductive PV where
  | none
  | bool (b : Bool)
  | int (i : Int)
  | str (s : Str)
  | tup (xs : List PV)
  | lst (xs : List PV)

mutual
noncomputable def Rep (X : List Addr) (h : Heap) : Value → PV → Prop
  | v, .none => v = .none
  | v, .bool b => v = .bool b
  | v, .int i => ∃ t, v = .int i t
  | v, .str s => ∃ t, v = .str s t
  | v, .tup xs => ∃ a vs, v = .ref a ∧ a ∉ X ∧ h.IsTuple a (List.toArray vs) ∧ RepL X h vs xs
  | v, .lst xs => ∃ a vs, v = .ref a ∧ a ∉ X ∧ h.IsList a (List.toArray vs) ∧ RepL X h vs xs
noncomputable def RepL (X : List Addr) (h : Heap) : List Value → List PV → Prop
  | [], [] => True
  | v :: vs, x :: xs => Rep X h v x ∧ RepL X h vs xs
  | [], _ :: _ => False
  | _ :: _, [] => False
end

/-- all but X is kept -/
noncomputable def Kp (X : List Addr) (h h' : Heap) : Prop := ∀ a o, a ∉ X → h.get? a = some o → h'.get? a = some o

theorem Kp.refl {X : List Addr} {h : Heap} : Kp X h h := fun _ _ _ e => e
theorem Kp.trans {X : List Addr} {h h' h'' : Heap} (x : Kp X h h') (y : Kp X h' h'') : Kp X h h'' := fun a o n e => y a o n (x a o n e)
theorem Kp.mono {X Y : List Addr} {h h' : Heap} (hs : ∀ a ∈ X, a ∈ Y) (x : Kp X h h') : Kp Y h h' := fun a o n e => x a o (fun m => n (hs a m)) e
theorem Kp.nil {X : List Addr} {h h' : Heap} (x : Kp [] h h') : Kp X h h' := x.mono (fun _ m => absurd m List.not_mem_nil)
theorem Kp.push {X : List Addr} {h : Heap} (o : Obj) : Kp X h (h.push o) := fun _ _ _ e => Heap.get?_push_of_some _ e
theorem Kp.all {h h' : Heap} (x : Kp [] h h') : ∀ b o, h.get? b = some o → h'.get? b = some o := fun b o e => x b o List.not_mem_nil e
theorem Kp.of {h h' : Heap} {X : List Addr} (x : ∀ b o, h.get? b = some o → h'.get? b = some o) : Kp X h h' := fun b o _ e => x b o e
theorem Kp.same {h h' : Heap} {a : Addr} (x : Heap.SameBut a h h') : Kp [a] h h' := fun b o n e => (x.2 b (fun q => n (q ▸ List.mem_singleton.mpr rfl))).trans e

theorem IsTuple.kp {X : List Addr} {h h' : Heap} {a : Addr} {vs : Array Value} (k : Kp X h h') (n : a ∉ X) (x : h.IsTuple a vs) : h'.IsTuple a vs :=
  let ⟨o, ho, r⟩ := x; ⟨o, k a o n ho, r⟩
theorem IsList.kp {X : List Addr} {h h' : Heap} {a : Addr} {vs : Array Value} (k : Kp X h h') (n : a ∉ X) (x : h.IsList a vs) : h'.IsList a vs :=
  let ⟨o, ho, r⟩ := x; ⟨o, k a o n ho, r⟩
theorem Plain.kp {X : List Addr} {h h' : Heap} {a : Addr} {vs : Array Value} (k : Kp X h h') (n : a ∉ X) (x : h.PlainList a vs) : h'.PlainList a vs :=
  let ⟨m, ho⟩ := x; ⟨m, k a _ n ho⟩

/-- the general transport: what bears items and is off X stays, and stays off Y -/
theorem rep_move {X Y : List Addr} {h h' : Heap} (k : ∀ a o, a ∉ X → h.get? a = some o → (∃ its n, o.data = .seq its n) → h'.get? a = some o ∧ a ∉ Y) :
    (∀ d v, Rep X h v d → Rep Y h' v d) ∧ (∀ ds vs, RepL X h vs ds → RepL Y h' vs ds) := by
  have tupS : ∀ xs, (∀ vs, RepL X h vs xs → RepL Y h' vs xs) → ∀ v, Rep X h v (.tup xs) → Rep Y h' v (.tup xs) := by
    intro xs ih v hv
    simp only [Rep] at hv ⊢
    obtain ⟨a, vs, rfl, n, ⟨o, ho, hc, q, hd⟩, hl⟩ := hv
    have kk := k a o n ho ⟨_, _, hd⟩
    exact ⟨a, vs, rfl, kk.2, ⟨o, kk.1, hc, q, hd⟩, ih vs hl⟩
  have lstS : ∀ xs, (∀ vs, RepL X h vs xs → RepL Y h' vs xs) → ∀ v, Rep X h v (.lst xs) → Rep Y h' v (.lst xs) := by
    intro xs ih v hv
    simp only [Rep] at hv ⊢
    obtain ⟨a, vs, rfl, n, ⟨o, ho, hc, q, hd⟩, hl⟩ := hv
    have kk := k a o n ho ⟨_, _, hd⟩
    exact ⟨a, vs, rfl, kk.2, ⟨o, kk.1, hc, q, hd⟩, ih vs hl⟩
  have consS : ∀ x xs, (∀ v, Rep X h v x → Rep Y h' v x) → (∀ vs, RepL X h vs xs → RepL Y h' vs xs) → ∀ vs, RepL X h vs (x :: xs) → RepL Y h' vs (x :: xs) := by
    intro x xs h1 h2 vs hv
    cases vs with
    | nil => simp only [RepL] at hv
    | cons v vs => simp only [RepL] at hv ⊢; exact ⟨h1 v hv.1, h2 vs hv.2⟩
  have nilS : ∀ vs, RepL X h vs [] → RepL Y h' vs [] := by
    intro vs hv
    cases vs with
    | nil => simp only [RepL]
    | cons v vs => simp only [RepL] at hv
  have all : ∀ d, (∀ v, Rep X h v d → Rep Y h' v d) := by
    intro d
    refine PV.rec (motive_1 := fun d => ∀ v, Rep X h v d → Rep Y h' v d) (motive_2 := fun ds => ∀ vs, RepL X h vs ds → RepL Y h' vs ds) ?_ ?_ ?_ ?_ ?_ ?_ nilS ?_ d
    · intro v hv; simpa only [Rep] using hv
    · intro b v hv; simpa only [Rep] using hv
    · intro i v hv; simpa only [Rep] using hv
    · intro x v hv; simpa only [Rep] using hv
    · exact fun xs ih => tupS xs ih
    · exact fun xs ih => lstS xs ih
    · exact fun x xs h1 h2 => consS x xs h1 h2
  refine ⟨all, fun ds => ?_⟩
  induction ds with
  | nil => exact nilS
  | cons x xs ih => exact consS x xs (all x) ih

theorem Rep.kp {X : List Addr} {h h' : Heap} {v : Value} {d : PV} (k : Kp X h h') (x : Rep X h v d) : Rep X h' v d :=
  (rep_move fun a o n e _ => ⟨k a o n e, n⟩).1 d v x
theorem RepL.kp {X : List Addr} {h h' : Heap} {v : List Value} {d : List PV} (k : Kp X h h') (x : RepL X h v d) : RepL X h' v d :=
  (rep_move fun a o n e _ => ⟨k a o n e, n⟩).2 d v x
theorem Rep.anti {X Y : List Addr} {h : Heap} {v : Value} {d : PV} (s : ∀ a ∈ Y, a ∈ X) (x : Rep X h v d) : Rep Y h v d :=
  (rep_move fun a _ n e _ => ⟨e, fun m => n (s a m)⟩).1 d v x
theorem RepL.anti {X Y : List Addr} {h : Heap} {v : List Value} {d : List PV} (s : ∀ a ∈ Y, a ∈ X) (x : RepL X h v d) : RepL Y h v d :=
  (rep_move fun a _ n e _ => ⟨e, fun m => n (s a m)⟩).2 d v x
/-- an address that is not live now is in no tree -/
theorem Rep.fresh {X : List Addr} {h : Heap} {v : Value} {d : PV} {a : Addr} (f : h.get? a = none) (x : Rep X h v d) : Rep (a :: X) h v d :=
  (rep_move fun b o n e _ => ⟨e, fun m => by rcases List.mem_cons.mp m with rfl | m; (rw [f] at e; cases e); exact n m⟩).1 d v x
theorem RepL.fresh {X : List Addr} {h : Heap} {v : List Value} {d : List PV} {a : Addr} (f : h.get? a = none) (x : RepL X h v d) : RepL (a :: X) h v d :=
  (rep_move fun b o n e _ => ⟨e, fun m => by rcases List.mem_cons.mp m with rfl | m; (rw [f] at e; cases e); exact n m⟩).2 d v x

theorem RepL.length {X : List Addr} {h : Heap} : ∀ {vs : List Value} {ds : List PV}, RepL X h vs ds → vs.length = ds.length
  | [], [], _ => rfl
  | _ :: _, _ :: _, h => by simp only [RepL] at h; simp only [List.length_cons, RepL.length h.2]
  | [], _ :: _, h => by simp only [RepL] at h
  | _ :: _, [], h => by simp only [RepL] at h
theorem RepL.get {X : List Addr} {h : Heap} : ∀ {vs : List Value} {ds : List PV}, RepL X h vs ds → ∀ {i : Nat} {d : PV}, ds[i]? = some d → ∃ v, vs[i]? = some v ∧ Rep X h v d
  | [], [], _, i, d, e => by simp at e
  | v :: vs, x :: xs, hr, 0, d, e => by simp at e; subst e; simp only [RepL] at hr; exact ⟨v, rfl, hr.1⟩
  | v :: vs, x :: xs, hr, i + 1, d, e => by
    simp only [RepL] at hr
    simp only [List.getElem?_cons_succ] at e ⊢
    exact RepL.get hr.2 e
  | [], _ :: _, h, _, _, _ => by simp only [RepL] at h
  | _ :: _, [], h, _, _, _ => by simp only [RepL] at h
theorem RepL.append {X : List Addr} {h : Heap} : ∀ {vs ws : List Value} {ds es : List PV}, RepL X h vs ds → RepL X h ws es → RepL X h (vs ++ ws) (ds ++ es)
  | [], _, [], _, _, y => y
  | _ :: _, _, _ :: _, _, x, y => by simp only [RepL, List.cons_append] at x ⊢; exact ⟨x.1, RepL.append x.2 y⟩
  | [], _, _ :: _, _, x, _ => by simp only [RepL] at x
  | _ :: _, _, [], _, x, _ => by simp only [RepL] at x
theorem RepL.take {X : List Addr} {h : Heap} : ∀ {vs : List Value} {ds : List PV} (n : Nat), RepL X h vs ds → RepL X h (vs.take n) (ds.take n)
  | [], [], n, _ => by simp [RepL]
  | _ :: _, _ :: _, 0, _ => by simp [RepL]
  | _ :: _, _ :: _, n + 1, x => by simp only [RepL, List.take_succ_cons] at x ⊢; exact ⟨x.1, RepL.take n x.2⟩
  | [], _ :: _, _, x => by simp only [RepL] at x
  | _ :: _, [], _, x => by simp only [RepL] at x
theorem RepL.drop {X : List Addr} {h : Heap} : ∀ {vs : List Value} {ds : List PV} (n : Nat), RepL X h vs ds → RepL X h (vs.drop n) (ds.drop n)
  | [], [], n, _ => by simp [RepL]
  | _ :: _, _ :: _, 0, x => by simpa using x
  | _ :: _, _ :: _, n + 1, x => by simp only [RepL, List.drop_succ_cons] at x ⊢; exact RepL.drop n x.2
  | [], _ :: _, _, x => by simp only [RepL] at x
  | _ :: _, [], _, x => by simp only [RepL] at x
theorem RepL.reverse {X : List Addr} {h : Heap} : ∀ {vs : List Value} {ds : List PV}, RepL X h vs ds → RepL X h vs.reverse ds.reverse
  | [], [], _ => by simp [RepL]
  | v :: vs, x :: xs, hr => by
    simp only [RepL] at hr
    simp only [List.reverse_cons]
    exact RepL.append (RepL.reverse hr.2) (by simp only [RepL, and_true]; exact hr.1)
  | [], _ :: _, x => by simp only [RepL] at x
  | _ :: _, [], x => by simp only [RepL] at x
theorem RepL.set {X : List Addr} {h : Heap} {v : Value} {d : PV} (hv : Rep X h v d) : ∀ {vs : List Value} {ds : List PV} (i : Nat), RepL X h vs ds → RepL X h (vs.set i v) (ds.set i d)
  | [], [], _, _ => by simp [RepL]
  | _ :: _, _ :: _, 0, x => by simp only [RepL, List.set_cons_zero] at x ⊢; exact ⟨hv, x.2⟩
  | _ :: _, _ :: _, n + 1, x => by simp only [RepL, List.set_cons_succ] at x ⊢; exact ⟨x.1, RepL.set hv n x.2⟩
  | [], _ :: _, _, x => by simp only [RepL] at x
  | _ :: _, [], _, x => by simp only [RepL] at x
theorem RepL.replicate {X : List Addr} {h : Heap} {v : Value} {d : PV} (hv : Rep X h v d) : ∀ n : Nat, RepL X h (List.replicate n v) (List.replicate n d)
  | 0 => by simp [RepL]
  | n + 1 => by simp only [List.replicate_succ, RepL]; exact ⟨hv, RepL.replicate hv n⟩
theorem RepL.one {X : List Addr} {h : Heap} {v : Value} {d : PV} : RepL X h [v] [d] ↔ Rep X h v d := by simp only [RepL, and_true]
theorem RepL.cons_inv {X : List Addr} {h : Heap} {vs : List Value} {d : PV} {ds : List PV} (x : RepL X h vs (d :: ds)) : ∃ v ws, vs = v :: ws ∧ Rep X h v d ∧ RepL X h ws ds := by
  cases vs with
  | nil => simp only [RepL] at x
  | cons v ws => simp only [RepL] at x; exact ⟨v, ws, rfl, x⟩
theorem RepL.nil_inv {X : List Addr} {h : Heap} {vs : List Value} (x : RepL X h vs []) : vs = [] := by
  cases vs with
  | nil => rfl
  | cons v ws => simp only [RepL] at x

/-- how a name is read in env -/
noncomputable def Look (env : Env) (h : Heap) (x : Str) (v : Value) : Prop :=
  env.scope.kind = .function ∧ (x == ("__debug__" : Str)) = false ∧
  ((env.kindOf x = some .local ∧ ∃ m, h.Ns env.locals m ∧ m x = some v) ∨
   (((env.kindOf x = some .cell) ∨ (env.kindOf x = some .free ∧ (x == ("__classdict__" : Str)) = false)) ∧ ∃ c, env.cells.lookup x = some c ∧ h.IsCell c (some v)))

theorem Look.load {M : Model} {A : Around} {E : Value → Shared → Prop} {s : Shared} {env : Env} {x : Str} {v : Value} {Q : Value → Shared → Prop} (l : Look env s.heap x v) (h : Q v s) :
    wpAny M A (loadName env x) Q E s := by
  obtain ⟨hk, _, h1 | ⟨h2, c, hc, hv⟩⟩ := l
  · obtain ⟨hl, m, hn, hm⟩ := h1
    exact wpAny_loadName_local hk hl hn hm h
  · rcases h2 with h2 | ⟨h2, h3⟩
    · exact wpAny_loadName_cell hk h2 hc hv h
    · exact wpAny_loadName_free hk h2 hc hv h h3
theorem Look.name {M : Model} {A : Around} {E : Value → Shared → Prop} {s : Shared} {env : Env} {x : Str} {pos : Pos} {v : Value} {Q : Value → Shared → Prop} (l : Look env s.heap x v) (h : Q v s) :
    wpAny M A (eval (.Name x pos) env) Q E s := wpAny_Name (l.load h) l.2.1
theorem Look.kp {X : List Addr} {env : Env} {h h' : Heap} {x : Str} {v : Value} (k : Kp X h h') (h1 : env.locals ∉ X) (h2 : ∀ y c, env.cells.lookup y = some c → c ∉ X) (l : Look env h x v) : Look env h' x v := by
  obtain ⟨hk, hd, h3 | ⟨h4, c, hc, o, ho, hv⟩⟩ := l
  · obtain ⟨hl, m, ⟨o, es, ep, e, r⟩, hm⟩ := h3
    exact ⟨hk, hd, .inl ⟨hl, m, ⟨o, es, ep, k _ _ h1 e, r⟩, hm⟩⟩
  · exact ⟨hk, hd, .inr ⟨h4, c, hc, o, k _ _ (h2 _ _ hc) ho, hv⟩⟩
theorem Look.ne_list {env : Env} {h : Heap} {m : Str → Option Value} {a : Addr} {vs : Array Value} (n : h.Ns env.locals m) (l : h.IsList a vs) : a ≠ env.locals := by
  rintro rfl
  obtain ⟨o, es, ep, e, hd, _⟩ := n
  obtain ⟨o', e', _, k, hd'⟩ := l
  rw [e] at e'; cases e'; rw [hd] at hd'; cases hd'

/-- the frame as the trees see it -/
structure PS where
  loc : String → Option PV
  own : Option String := .none
  par : Option String := .none

structure Inv (hb : Heap) (B : Addr → Obj → Prop) (X₀ : List Addr) (env : Env) (h : Heap) (ps : PS) (X : List Addr) : Prop where
  base : ∀ a o, B a o → h.get? a = some o
  top : ∀ a o, hb.get? a = some o → B a o
  offB : ∀ o, ¬ B env.locals o
  offX : env.locals ∉ X
  offC : ∀ x c, env.cells.lookup x = some c → c ∉ X ∧ c ≠ env.locals ∧ ∃ v, h.IsCell c v
  ns : ∃ m, h.Ns env.locals m
  x0 : ∀ a ∈ X₀, a ∈ X
  mark : ∀ a ∈ X, (∃ o, B a o) ∨ ∃ vs, h.PlainList a vs
  xB : ∀ a ∈ X, a ∈ X₀ ∨ ∀ o, ¬ B a o
  offH : ∀ a ∈ X, hb.get? a = none
  frz : ∀ x d, ps.loc x = some d → ps.own ≠ some x → ps.par ≠ some x → ∃ v, Look env h (Str.ofString x) v ∧ Rep X h v d
  own : ∀ x, ps.own = some x → ∃ a vs ds, ps.loc x = some (.lst ds) ∧ Look env h (Str.ofString x) (.ref a) ∧ a ∈ X ∧ a ∉ X₀ ∧ (∀ o, ¬ B a o) ∧ h.PlainList a (List.toArray vs) ∧ RepL X h vs ds
  par : ∀ x, ps.par = some x → ∃ a vs ds, ps.loc x = some (.lst ds) ∧ Look env h (Str.ofString x) (.ref a) ∧ X₀.head? = some a ∧ (∀ o, ¬ B a o) ∧ h.PlainList a (List.toArray vs) ∧ RepL X h vs ds

section
variable {hb : Heap} {B : Addr → Obj → Prop} {X₀ : List Addr} {env : Env} {h h' : Heap} {ps : PS} {X : List Addr}

theorem Inv.live (i : Inv hb B X₀ env h ps X) : ∀ a ∈ X, ∃ o, h.get? a = some o := fun a m => by
  rcases i.mark a m with ⟨o, b⟩ | ⟨vs, n, e⟩
  · exact ⟨o, i.base a o b⟩
  · exact ⟨_, e⟩
/-- nothing is changed -/
theorem Inv.kp (i : Inv hb B X₀ env h ps X) (k : Kp [] h h') : Inv hb B X₀ env h' ps X where
  base := fun a o b => k.all a o (i.base a o b)
  top := i.top
  offB := i.offB
  offX := i.offX
  offC := fun x c e => let ⟨h1, h2, v, o, ho, hd⟩ := i.offC x c e; ⟨h1, h2, v, o, k.all _ _ ho, hd⟩
  ns := let ⟨m, n⟩ := i.ns; ⟨m, n.keeps k.all⟩
  x0 := i.x0
  mark := fun a m => (i.mark a m).imp id fun ⟨vs, n, e⟩ => ⟨vs, n, k.all _ _ e⟩
  xB := i.xB
  offH := i.offH
  frz := fun x d e h1 h2 => let ⟨v, l, r⟩ := i.frz x d e h1 h2; ⟨v, l.kp k.nil i.offX (fun y c hc => (i.offC y c hc).1), r.kp k.nil⟩
  own := fun x e => let ⟨a, vs, ds, h1, l, h2, h3, h4, h5, h6⟩ := i.own x e; ⟨a, vs, ds, h1, l.kp k.nil i.offX (fun y c hc => (i.offC y c hc).1), h2, h3, h4, Plain.kp k List.not_mem_nil h5, h6.kp k.nil⟩
  par := fun x e => let ⟨a, vs, ds, h1, l, h2, h4, h5, h6⟩ := i.par x e; ⟨a, vs, ds, h1, l.kp k.nil i.offX (fun y c hc => (i.offC y c hc).1), h2, h4, Plain.kp k List.not_mem_nil h5, h6.kp k.nil⟩

theorem Inv.notB (i : Inv hb B X₀ env h ps X) {a : Addr} (f : h.get? a = none) : ∀ o, ¬ B a o := fun o b => by have := i.base a o b; rw [f] at this; cases this
/-- a new address is set apart -/
theorem Inv.fresh (i : Inv hb B X₀ env h ps X) (k : Kp [] h h') {a : Addr} {vs : Array Value} (f : h.get? a = none) (e : h'.PlainList a vs) : Inv hb B X₀ env h' ps (a :: X) := by
  have j := i.kp k
  have hL : a ≠ env.locals := by
    rintro rfl
    obtain ⟨m, q, _, _, e', _⟩ := i.ns
    rw [f] at e'; cases e'
  have hH : hb.get? a = none := by
    cases q : hb.get? a with
    | none => rfl
    | some o' => exact absurd (i.top a o' q) (i.notB f o')
  have up : ∀ v d, Rep X h v d → Rep (a :: X) h' v d := fun v d r => (r.fresh f).kp k.nil
  have upL : ∀ v d, RepL X h v d → RepL (a :: X) h' v d := fun v d r => (r.fresh f).kp k.nil
  exact {
    base := j.base, top := j.top, offB := j.offB,
    offX := fun m => by rcases List.mem_cons.mp m with q | q; exact hL q.symm; exact j.offX q
    offC := fun x c e => by
      obtain ⟨h1, h2, v', o', ho', hd'⟩ := i.offC x c e
      refine ⟨fun m => ?_, h2, v', o', k.all _ _ ho', hd'⟩
      rcases List.mem_cons.mp m with q | q
      · subst q; rw [f] at ho'; cases ho'
      · exact h1 q
    ns := j.ns
    x0 := fun b m => List.mem_cons_of_mem _ (i.x0 b m)
    mark := fun b m => by
      rcases List.mem_cons.mp m with q | q
      · subst q; exact .inr ⟨vs, e⟩
      · exact j.mark b q
    xB := fun b m => by
      rcases List.mem_cons.mp m with q | q
      · subst q; exact .inr (i.notB f)
      · exact i.xB b q
    offH := fun b m => by
      rcases List.mem_cons.mp m with q | q
      · subst q; exact hH
      · exact i.offH b q
    frz := fun x d e h1 h2 => let ⟨v, l, r⟩ := i.frz x d e h1 h2; ⟨v, l.kp k.nil i.offX (fun y c hc => (i.offC y c hc).1), up v d r⟩
    own := fun x e => let ⟨b, vs, ds, h1, l, h2, h3, h4, h5, h6⟩ := i.own x e; ⟨b, vs, ds, h1, l.kp k.nil i.offX (fun y c hc => (i.offC y c hc).1), List.mem_cons_of_mem _ h2, h3, h4, Plain.kp k List.not_mem_nil h5, upL vs ds h6⟩
    par := fun x e => let ⟨b, vs, ds, h1, l, h2, h4, h5, h6⟩ := i.par x e; ⟨b, vs, ds, h1, l.kp k.nil i.offX (fun y c hc => (i.offC y c hc).1), h2, h4, Plain.kp k List.not_mem_nil h5, upL vs ds h6⟩ }

theorem Inv.hbKp (i : Inv hb B X₀ env h ps X) : Kp [] hb h := fun a o _ e => i.base a o (i.top a o e)
theorem Inv.glob (i : Inv hb B X₀ env h ps X) {v : Value} {d : PV} (r : Rep [] hb v d) : Rep X h v d :=
  (rep_move fun a o _ e _ => ⟨i.hbKp.all a o e, fun m => by rw [i.offH a m] at e; cases e⟩).1 d v r

end

noncomputable abbrev pw : Program := PySem.Challenge.pw_nn0267_01

/-- what stays while expressions are walked -/
structure Cx where
  w : World
  A : Around
  hb : Heap
  B : Addr → Obj → Prop
  X₀ : List Addr
  env : Env

noncomputable abbrev PE (α : Type) := PS → Option (α × PS)

noncomputable def EV (c : Cx) (e : Expr) (p : PE PV) : Prop :=
  ∀ (s : Shared) (X : List Addr) (ps : PS) (d : PV) (ps' : PS) (Q : Value → Shared → Prop) (E : Value → Shared → Prop),
    Inv c.hb c.B c.X₀ c.env s.heap ps X → p ps = some (d, ps') →
    (∀ v h' tk, Kp X s.heap h' → Inv c.hb c.B c.X₀ c.env h' ps' X → Rep X h' v d → Q v { s with heap := h', toks := tk }) →
    wpAny (model pw c.w) c.A (eval e c.env) Q E s

/-- the truth of an expression -/
noncomputable def TV (c : Cx) (e : Expr) (p : PE Bool) : Prop :=
  ∀ (s : Shared) (X : List Addr) (ps : PS) (d : Bool) (ps' : PS) (Q : Bool → Shared → Prop) (E : Value → Shared → Prop),
    Inv c.hb c.B c.X₀ c.env s.heap ps X → p ps = some (d, ps') →
    (∀ h' tk, Kp X s.heap h' → Inv c.hb c.B c.X₀ c.env h' ps' X → Q d { s with heap := h', toks := tk }) →
    wpAny (model pw c.w) c.A (isTrue e c.env (eval e c.env)) Q E s

/-- several expressions -/
noncomputable def LV (c : Cx) (es : List Expr) (p : PE (List PV)) : Prop :=
  ∀ (pos : Pos) (s : Shared) (X : List Addr) (ps : PS) (ds : List PV) (ps' : PS) (Q : List Value → Shared → Prop) (E : Value → Shared → Prop),
    Inv c.hb c.B c.X₀ c.env s.heap ps X → p ps = some (ds, ps') →
    (∀ vs h' tk, Kp X s.heap h' → Inv c.hb c.B c.X₀ c.env h' ps' X → RepL X h' vs ds → Q vs { s with heap := h', toks := tk }) →
    wpAny (model pw c.w) c.A (spliced (backTo pos (starEach es c.env))) Q E s

section
variable {c : Cx}

noncomputable def pVar (x : String) : PE PV := fun ps => if ps.own = some x ∨ ps.par = some x then none else (ps.loc x).map fun d => (d, ps)
theorem ev_name {x : String} {pos : Pos} : EV c (.Name (Str.ofString x) pos) (pVar x) := by
  intro s X ps d ps' Q E i hp hQ
  unfold pVar at hp
  split at hp
  · cases hp
  · rename_i hn
    cases hl : ps.loc x with
    | none => rw [hl] at hp; cases hp
    | some d' =>
      rw [hl] at hp
      simp only [Option.map_some, Option.some.injEq, Prod.mk.injEq] at hp
      obtain ⟨rfl, rfl⟩ := hp
      obtain ⟨v, l, r⟩ := i.frz x d' hl (fun q => hn (.inl q)) (fun q => hn (.inr q))
      exact l.name (hQ v s.heap s.toks Kp.refl i r)

noncomputable def pK (d : PV) : PE PV := fun ps => some (d, ps)
theorem ev_int {n : Int} {k : Nat} {pos : Pos} : EV c (.Constant (.int n) k pos) (pK (.int n)) := by
  intro s X ps d ps' Q E i hp hQ
  cases hp
  exact wpAny_Constant_int (hQ _ s.heap _ Kp.refl i (by simp only [Rep]; exact ⟨_, rfl⟩))
theorem ev_none {k : Nat} {pos : Pos} : EV c (.Constant .none k pos) (pK .none) := by
  intro s X ps d ps' Q E i hp hQ
  cases hp
  exact wpAny_Constant_none (hQ _ s.heap _ Kp.refl i (by simp only [Rep]))
theorem ev_bool {b : Bool} {k : Nat} {pos : Pos} : EV c (.Constant (.bool b) k pos) (pK (.bool b)) := by
  intro s X ps d ps' Q E i hp hQ
  cases hp
  exact wpAny_Constant_bool (hQ _ s.heap _ Kp.refl i (by simp only [Rep]))
theorem ev_str {x : Str} {k : Nat} {pos : Pos} : EV c (.Constant (.str x) k pos) (pK (.str x)) := by
  intro s X ps d ps' Q E i hp hQ
  cases hp
  exact wpAny_Constant_str (hQ _ s.heap _ Kp.refl i (by simp only [Rep]; exact ⟨_, rfl⟩))

/-- a name of the top that bears a tree -/
theorem ev_glob {x : Str} {pos : Pos} {mg : Str → Option Value} {v : Value} {d : PV} (hg : c.hb.Ns mainGlobals mg) (hm : mg x = some v) (r : Rep [] c.hb v d)
    (hgl : c.env.globals = mainGlobals) (hk : c.env.scope.kind = .function) (hx : c.env.kindOf x = some .globalImplicit) (hd : (x == ("__debug__" : Str)) = false := by decide) :
    EV c (.Name x pos) (pK d) := by
  intro s X ps d' ps' Q E i hp hQ
  cases hp
  exact Calls.Name_function_global hk hx (Calls.loadGlobal_global (env := c.env) (hgl ▸ hg.keeps i.hbKp.all) hm (hQ v s.heap s.toks Kp.refl i (i.glob r))) hd

noncomputable def pNil : PE (List PV) := fun ps => some ([], ps)
noncomputable def pCons (p : PE PV) (q : PE (List PV)) : PE (List PV) := fun ps => match p ps with
  | none => none
  | some (d, ps') => match q ps' with
    | none => none
    | some (ds, ps'') => some (d :: ds, ps'')
theorem lv_nil : LV c [] pNil := by
  intro pos s X ps ds ps' Q E i hp hQ
  cases hp
  exact wpAny_items_nil (hQ [] s.heap s.toks Kp.refl i (by simp only [RepL]))
theorem lv_cons {e : Expr} {es : List Expr} {p : PE PV} {q : PE (List PV)} (he : EV c e p) (hes : LV c es q) (hs : starEach (e :: es) c.env = (false, eval e c.env) :: starEach es c.env := by rfl) :
    LV c (e :: es) (pCons p q) := by
  intro pos s X ps ds ps' Q E i hp hQ
  unfold pCons at hp
  cases h1 : p ps with
  | none => rw [h1] at hp; cases hp
  | some r =>
    obtain ⟨d, ps₁⟩ := r
    rw [h1] at hp
    simp only at hp
    cases h2 : q ps₁ with
    | none => rw [h2] at hp; cases hp
    | some r =>
      obtain ⟨ds', ps₂⟩ := r
      rw [h2] at hp
      simp only [Option.some.injEq, Prod.mk.injEq] at hp
      obtain ⟨rfl, rfl⟩ := hp
      refine wpAny_items_cons (he s X ps d ps₁ _ _ i h1 fun v h₁ tk₁ k₁ i₁ r₁ => ?_) hs
      refine hes pos _ X ps₁ ds' ps₂ _ _ i₁ h2 fun vs h₂ tk₂ k₂ i₂ r₂ => ?_
      exact hQ (v :: vs) h₂ tk₂ (k₁.trans k₂) i₂ (by simp only [RepL]; exact ⟨r₁.kp k₂, r₂⟩)

theorem get_size (h : Heap) (o : Obj) (hf : o.isFreed = false) : (h.push o).get? h.objs.size = some o := Heap.get?_push_size _ hf
theorem size_none (h : Heap) : h.get? h.objs.size = none := by
  cases e : h.get? h.objs.size with
  | none => rfl
  | some o => exact absurd (Heap.lt_size e) (Nat.lt_irrefl _)

noncomputable def pTup (q : PE (List PV)) : PE PV := fun ps => match q ps with
  | none => none
  | some (ds, ps') => if ds.length ≤ 100 then some (.tup ds, ps') else none
noncomputable def pLst (q : PE (List PV)) : PE PV := fun ps => match q ps with
  | none => none
  | some (ds, ps') => if ds.length ≤ 100 then some (.lst ds, ps') else none

theorem ev_tuple {es : List Expr} {k : Nat} {pos : Pos} {q : PE (List PV)} (hes : LV c es q) : EV c (.Tuple es k pos) (pTup q) := by
  intro s X ps d ps' Q E i hp hQ
  unfold pTup at hp
  cases h1 : q ps with
  | none => rw [h1] at hp; cases hp
  | some r =>
    obtain ⟨ds, ps₁⟩ := r
    rw [h1] at hp
    simp only at hp
    split at hp
    · rename_i hl
      simp only [Option.some.injEq, Prod.mk.injEq] at hp
      obtain ⟨rfl, rfl⟩ := hp
      refine wpAny_Tuple (hes pos s X ps ds ps₁ _ _ i h1 fun vs h₁ tk₁ k₁ i₁ r₁ => ⟨?_, ?_⟩)
      · rw [r₁.length, sizeLine_eq]; omega
      · refine hQ _ _ tk₁ (k₁.trans (Kp.push _)) (i₁.kp (Kp.push _)) ?_
        simp only [Rep]
        refine ⟨_, vs, rfl, fun m => ?_, ⟨_, get_size _ _ rfl, rfl, 0, rfl⟩, r₁.kp (Kp.push _)⟩
        obtain ⟨o, e⟩ := i₁.live _ m
        rw [size_none] at e; cases e
    · cases hp

/-- a list that is new: its address is not live before -/
noncomputable def FV (c : Cx) (e : Expr) (p : PE (List PV)) : Prop :=
  ∀ (s : Shared) (X : List Addr) (ps : PS) (ds : List PV) (ps' : PS) (Q : Value → Shared → Prop) (E : Value → Shared → Prop),
    Inv c.hb c.B c.X₀ c.env s.heap ps X → p ps = some (ds, ps') →
    (∀ a vs h' tk, s.heap.get? a = none → Kp X s.heap h' → Inv c.hb c.B c.X₀ c.env h' ps' X → Inv c.hb c.B c.X₀ c.env h' ps' (a :: X) → h'.PlainList a (List.toArray vs) → RepL (a :: X) h' vs ds → Q (.ref a) { s with heap := h', toks := tk }) →
    wpAny (model pw c.w) c.A (eval e c.env) Q E s

noncomputable def pFr (q : PE (List PV)) : PE PV := fun ps => (q ps).map fun r => (.lst r.1, r.2)
theorem ev_fresh {e : Expr} {q : PE (List PV)} (hf : FV c e q) : EV c e (pFr q) := by
  intro s X ps d ps' Q E i hp hQ
  unfold pFr at hp
  cases h1 : q ps with
  | none => rw [h1] at hp; cases hp
  | some r =>
    rw [h1] at hp
    simp only [Option.map_some, Option.some.injEq, Prod.mk.injEq] at hp
    obtain ⟨rfl, rfl⟩ := hp
    refine hf s X ps r.1 r.2 _ _ i (by rw [h1]) fun a vs h' tk hn k i' _ hl hr => ?_
    refine hQ _ h' tk k i' ?_
    simp only [Rep]
    refine ⟨a, vs, rfl, fun m => ?_, hl.isList, hr.anti fun b m => List.mem_cons_of_mem _ m⟩
    obtain ⟨o, e⟩ := i.live a m
    rw [hn] at e; cases e

noncomputable def pDisp (q : PE (List PV)) : PE (List PV) := fun ps => match q ps with
  | none => none
  | some (ds, ps') => if ds.length ≤ 100 then some (ds, ps') else none
theorem fv_list {es : List Expr} {pos : Pos} {q : PE (List PV)} (hes : LV c es q) : FV c (.List es pos) (pDisp q) := by
  intro s X ps d ps' Q E i hp hQ
  unfold pDisp at hp
  cases h1 : q ps with
  | none => rw [h1] at hp; cases hp
  | some r =>
    obtain ⟨ds, ps₁⟩ := r
    rw [h1] at hp
    simp only at hp
    split at hp
    · rename_i hl
      simp only [Option.some.injEq, Prod.mk.injEq] at hp
      obtain ⟨rfl, rfl⟩ := hp
      refine wpAny_List (hes pos s X ps ds ps₁ _ _ i h1 fun vs h₁ tk₁ k₁ i₁ r₁ => ⟨?_, ?_⟩)
      · rw [r₁.length, sizeLine_eq]; omega
      · refine hQ _ vs _ tk₁ ?_ (k₁.trans (Kp.push _)) (i₁.kp (Kp.push _)) (i₁.fresh (Kp.push _) (size_none _) ⟨0, get_size _ _ rfl⟩) ⟨0, get_size _ _ rfl⟩ ((r₁.fresh (size_none _)).kp (Kp.push _))
        show s.heap.get? h₁.objs.size = none
        cases e : s.heap.get? h₁.objs.size with
        | none => rfl
        | some o =>
          by_cases m : h₁.objs.size ∈ X
          · obtain ⟨o', e'⟩ := i₁.live _ m
            rw [size_none] at e'; cases e'
          · have := k₁ _ _ m e
            rw [size_none] at this; cases this
    · cases hp
end
end NN
end

section
open PySem PySem.W PyProof.Rows PySem.Calls PySem.Spec
set_option Elab.async false
set_option autoImplicit false
set_option maxRecDepth 100000

namespace NN

mutual
noncomputable def PV.py : PV → PyData
  | .none => .none
  | .bool b => .bool b
  | .int i => .int i
  | .str s => .str s
  | .tup xs => .tuple (PV.pys xs)
  | .lst xs => .list (PV.pys xs)
noncomputable def PV.pys : List PV → List PyData
  | [] => []
  | x :: xs => x.py :: PV.pys xs
end

theorem reads_of {X : List Addr} {h : Heap} : (∀ d v, Rep X h v d → ∃ as, Reads h v d.py as) ∧ (∀ ds vs, RepL X h vs ds → ∃ as, ReadsAll h vs (PV.pys ds) as) := by
  have seqT : ∀ xs, (∀ vs, RepL X h vs xs → ∃ as, ReadsAll h vs (PV.pys xs) as) → ∀ v, Rep X h v (.tup xs) → ∃ as, Reads h v (PV.py (.tup xs)) as := by
    intro xs ih v hv
    simp only [Rep] at hv
    obtain ⟨a, vs, rfl, _, ⟨o, ho, hc, n, hd⟩, hl⟩ := hv
    obtain ⟨as, hr⟩ := ih vs hl
    simp only [PV.py]
    exact ⟨_, .tuple ho hc hd hr⟩
  have seqL : ∀ xs, (∀ vs, RepL X h vs xs → ∃ as, ReadsAll h vs (PV.pys xs) as) → ∀ v, Rep X h v (.lst xs) → ∃ as, Reads h v (PV.py (.lst xs)) as := by
    intro xs ih v hv
    simp only [Rep] at hv
    obtain ⟨a, vs, rfl, _, ⟨o, ho, hc, n, hd⟩, hl⟩ := hv
    obtain ⟨as, hr⟩ := ih vs hl
    simp only [PV.py]
    exact ⟨_, .list ho hc hd hr⟩
  have nilS : ∀ vs, RepL X h vs [] → ∃ as, ReadsAll h vs (PV.pys []) as := by
    intro vs hv
    rw [hv.nil_inv]
    exact ⟨_, .nil⟩
  have consS : ∀ x xs, (∀ v, Rep X h v x → ∃ as, Reads h v x.py as) → (∀ vs, RepL X h vs xs → ∃ as, ReadsAll h vs (PV.pys xs) as) →
      ∀ vs, RepL X h vs (x :: xs) → ∃ as, ReadsAll h vs (PV.pys (x :: xs)) as := by
    intro x xs h1 h2 vs hv
    obtain ⟨v, ws, rfl, hv, hw⟩ := hv.cons_inv
    obtain ⟨as, r1⟩ := h1 v hv
    obtain ⟨bs, r2⟩ := h2 ws hw
    exact ⟨_, .cons r1 r2⟩
  have all : ∀ d, ∀ v, Rep X h v d → ∃ as, Reads h v d.py as := by
    intro d
    refine PV.rec (motive_1 := fun d => ∀ v, Rep X h v d → ∃ as, Reads h v d.py as) (motive_2 := fun ds => ∀ vs, RepL X h vs ds → ∃ as, ReadsAll h vs (PV.pys ds) as) ?_ ?_ ?_ ?_ ?_ ?_ ?_ ?_ d
    · intro v hv; simp only [Rep] at hv; subst hv; exact ⟨_, .none⟩
    · intro b v hv; simp only [Rep] at hv; subst hv; exact ⟨_, .bool b⟩
    · intro i v hv; simp only [Rep] at hv; obtain ⟨t, rfl⟩ := hv; exact ⟨_, .int i t⟩
    · intro x v hv; simp only [Rep] at hv; obtain ⟨t, rfl⟩ := hv; exact ⟨_, .str x t⟩
    · exact fun xs ih => seqT xs ih
    · exact fun xs ih => seqL xs ih
    · exact nilS
    · exact fun x xs h1 h2 => consS x xs h1 h2
  refine ⟨all, fun ds => ?_⟩
  induction ds with
  | nil => exact nilS
  | cons x xs ih => exact consS x xs (all x) ih

/-- as Rep, but a list may lie at an owned address -/
noncomputable def WRep (X : List Addr) (h : Heap) (v : Value) : PV → Prop
  | .lst xs => ∃ a vs, v = .ref a ∧ h.IsList a (List.toArray vs) ∧ RepL X h vs xs
  | d => Rep X h v d

theorem Rep.weak {X : List Addr} {h : Heap} {v : Value} {d : PV} (r : Rep X h v d) : WRep X h v d := by
  cases d with
  | lst xs => simp only [Rep] at r; obtain ⟨a, vs, e, _, l, hl⟩ := r; exact ⟨a, vs, e, l, hl⟩
  | _ => exact r

theorem WRep.reads {X : List Addr} {h : Heap} {v : Value} {d : PV} (r : WRep X h v d) : ∃ as, Reads h v d.py as := by
  cases d with
  | lst xs =>
    obtain ⟨a, vs, rfl, ⟨o, ho, hc, n, hd⟩, hl⟩ := r
    obtain ⟨as, hr⟩ := reads_of.2 xs vs hl
    simp only [PV.py]
    exact ⟨_, .list ho hc hd hr⟩
  | _ => exact (reads_of (X := X)).1 _ v r

theorem Look.det {env : Env} {h : Heap} {x : Str} {v w : Value} (l : Look env h x v) (l' : Look env h x w) : v = w := by
  obtain ⟨_, _, h1 | ⟨h2, c, hc, o, ho, hv⟩⟩ := l
  · obtain ⟨_, _, h1' | ⟨h2', _⟩⟩ := l'
    · obtain ⟨_, m, ⟨o, es, ep, e, hd, _, hf⟩, hm⟩ := h1
      obtain ⟨_, m', ⟨o', es', ep', e', hd', _, hf'⟩, hm'⟩ := h1'
      rw [e] at e'; cases e'
      rw [hd] at hd'; cases hd'
      have : m x = m' x := (hf x).symm.trans (hf' x)
      rw [hm, hm'] at this
      exact Option.some.inj this
    · rw [h1.1] at h2'; rcases h2' with q | ⟨q, _⟩ <;> cases q
  · obtain ⟨_, _, h1' | ⟨h2', c', hc', o', ho', hv'⟩⟩ := l'
    · rw [h1'.1] at h2; rcases h2 with q | ⟨q, _⟩ <;> cases q
    · rw [hc] at hc'; cases hc'
      rw [ho] at ho'; cases ho'
      rw [hv] at hv'; injection hv' with q; exact Option.some.inj q

theorem Inv.see {hb : Heap} {B : Addr → Obj → Prop} {X₀ : List Addr} {env : Env} {h : Heap} {ps : PS} {X : List Addr} (i : Inv hb B X₀ env h ps X) {x : String} {d : PV} (e : ps.loc x = some d) :
    ∃ v, Look env h (Str.ofString x) v ∧ WRep X h v d := by
  by_cases ho : ps.own = some x
  · obtain ⟨a, vs, ds, h1, l, _, _, _, hp, hr⟩ := i.own x ho
    rw [e] at h1; cases h1
    exact ⟨_, l, a, vs, rfl, hp.isList, hr⟩
  by_cases hpar : ps.par = some x
  · obtain ⟨a, vs, ds, h1, l, _, _, hp, hr⟩ := i.par x hpar
    rw [e] at h1; cases h1
    exact ⟨_, l, a, vs, rfl, hp.isList, hr⟩
  obtain ⟨v, l, r⟩ := i.frz x d e ho hpar
  exact ⟨v, l, r.weak⟩

section
variable {c : Cx}

/-- a name is read, then another expression is walked: the name still reads the same, and bears what the frame says behind -/
theorem name_then {x : String} {e : Expr} {q : PE PV} {pos : Pos} (he : EV c e q) {s : Shared} {X : List Addr} {ps : PS} (i : Inv c.hb c.B c.X₀ c.env s.heap ps X) {M : Value → Value → Shared → Prop} {E : Value → Shared → Prop}
    {d₀ y d : PV} {ps₁ : PS} (e0 : ps.loc x = some d₀) (e1 : q ps = some (y, ps₁)) (e2 : ps₁.loc x = some d)
    (hM : ∀ a b h' tk, Kp X s.heap h' → Inv c.hb c.B c.X₀ c.env h' ps₁ X → WRep X h' a d → Look c.env h' (Str.ofString x) a → Rep X h' b y → M a b { s with heap := h', toks := tk }) :
    wpAny (model pw c.w) c.A (eval (.Name (Str.ofString x) pos) c.env) (fun a s₁ => wpAny (model pw c.w) c.A (eval e c.env) (fun b s₂ => M a b s₂) E s₁) E s := by
  obtain ⟨v, l, _⟩ := i.see e0
  refine l.name (he s X ps y ps₁ _ _ i e1 fun b h₁ tk k i₁ r => ?_)
  obtain ⟨v', l', r'⟩ := i₁.see e2
  have := (l.kp k i.offX (fun y c hc => (i.offC y c hc).1)).det l'
  subst this
  exact hM v b h₁ tk k i₁ r' l' r

/-- two operands, then a step that keeps all -/
theorem two_steps {e₁ e₂ : Expr} {p₁ p₂ : PE PV} {M : Value → Value → Shared → Prop} {E : Value → Shared → Prop} (h1 : EV c e₁ p₁) (h2 : EV c e₂ p₂) {s : Shared} {X : List Addr} {ps : PS} (i : Inv c.hb c.B c.X₀ c.env s.heap ps X)
    {d₁ d₂ : PV} {ps₁ ps₂ : PS} (e1 : p₁ ps = some (d₁, ps₁)) (e2 : p₂ ps₁ = some (d₂, ps₂))
    (hM : ∀ a b h' tk, Kp X s.heap h' → Inv c.hb c.B c.X₀ c.env h' ps₂ X → Rep X h' a d₁ → Rep X h' b d₂ → M a b { s with heap := h', toks := tk }) :
    wpAny (model pw c.w) c.A (eval e₁ c.env) (fun a s₁ => wpAny (model pw c.w) c.A (eval e₂ c.env) (fun b s₂ => M a b s₂) E s₁) E s := by
  refine h1 s X ps d₁ ps₁ _ _ i e1 fun a h₁ tk₁ k₁ i₁ r₁ => ?_
  refine h2 _ X ps₁ d₂ ps₂ _ _ i₁ e2 fun b h₂ tk₂ k₂ i₂ r₂ => ?_
  exact hM a b h₂ tk₂ (k₁.trans k₂) i₂ (r₁.kp k₂) r₂

/-- what an operator makes of two trees -/
noncomputable def OpS (c : Cx) (op : Operator) (f : PV → PV → Option PV) : Prop :=
  ∀ (s : Shared) (X : List Addr) (ps : PS) (x y d : PV) (a b : Value) (Q : Value → Shared → Prop) (E : Value → Shared → Prop), Inv c.hb c.B c.X₀ c.env s.heap ps X →
    Rep X s.heap a x → Rep X s.heap b y → f x y = some d → (∀ v h' tk, Kp [] s.heap h' → Rep X h' v d → Q v { s with heap := h', toks := tk }) → wpAny (model pw c.w) c.A (binaryOp op a b) Q E s

noncomputable def pBin (f : PV → PV → Option PV) (p q : PE PV) : PE PV := fun ps => match p ps with
  | none => none
  | some (x, ps₁) => match q ps₁ with
    | none => none
    | some (y, ps₂) => (f x y).map fun d => (d, ps₂)

theorem pBin_inv {f : PV → PV → Option PV} {p q : PE PV} {ps ps' : PS} {d : PV} (h : pBin f p q ps = some (d, ps')) : ∃ x ps₁ y, p ps = some (x, ps₁) ∧ q ps₁ = some (y, ps') ∧ f x y = some d := by
  unfold pBin at h
  cases h1 : p ps with
  | none => rw [h1] at h; cases h
  | some r =>
    obtain ⟨x, ps₁⟩ := r
    rw [h1] at h
    simp only at h
    cases h2 : q ps₁ with
    | none => rw [h2] at h; cases h
    | some r =>
      obtain ⟨y, ps₂⟩ := r
      rw [h2] at h
      simp only [Option.map_eq_some_iff, Prod.mk.injEq] at h
      obtain ⟨d', h3, rfl, rfl⟩ := h
      exact ⟨x, ps₁, y, rfl, h2, h3⟩

theorem ev_bin {op : Operator} {f : PV → PV → Option PV} {l r : Expr} {pos : Pos} {p q : PE PV} (ho : OpS c op f) (h1 : EV c l p) (h2 : EV c r q) : EV c (.BinOp l op r pos) (pBin f p q) := by
  intro s X ps d ps' Q E i hp hQ
  obtain ⟨x, ps₁, y, e1, e2, e3⟩ := pBin_inv hp
  refine wpAny_BinOp (two_steps h1 h2 i e1 e2 fun a b h₁ tk k i₁ r₁ r₂ => ?_)
  exact ho _ X ps' x y d a b _ _ i₁ r₁ r₂ e3 fun v h₂ tk₂ k₂ r => hQ v h₂ tk₂ (k.trans k₂.nil) (i₁.kp k₂) r

noncomputable def fAdd : PV → PV → Option PV
  | .int i, .int j => some (.int (i + j))
  | _, _ => none
noncomputable def fSub : PV → PV → Option PV
  | .int i, .int j => some (.int (i - j))
  | _, _ => none
open Classical in
noncomputable def fMul : PV → PV → Option PV
  | .int i, .int j => if IntMulOk i j then some (.int (i * j)) else none
  | _, _ => none
noncomputable def fDiv : PV → PV → Option PV
  | .int i, .int j => if j = 0 then none else some (.int (i.fdiv j))
  | _, _ => none
noncomputable def fMod : PV → PV → Option PV
  | .int i, .int j => if j = 0 then none else some (.int (i.fmod j))
  | _, _ => none
open Classical in
noncomputable def fPow : PV → PV → Option PV
  | .int i, .int j => if j < 0 ∨ Builtin.Int.intTooBig (((Builtin.Int.intBits i : Nat) : Int) * j) = true then none else some (.int (i ^ j.toNat))
  | _, _ => none

theorem rep_int {X : List Addr} {h : Heap} {v : Value} {i : Int} : Rep X h v (.int i) ↔ ∃ t, v = .int i t := by simp only [Rep]

theorem op_add : OpS c .Add fAdd := by
  intro s X ps x y d a b Q E i r1 r2 e hQ
  unfold fAdd at e
  split at e
  · cases e
    obtain ⟨t, rfl⟩ := rep_int.mp r1
    obtain ⟨u, rfl⟩ := rep_int.mp r2
    exact add_int (hQ _ s.heap _ Kp.refl (rep_int.mpr ⟨_, rfl⟩))
  · cases e
theorem op_sub : OpS c .Sub fSub := by
  intro s X ps x y d a b Q E i r1 r2 e hQ
  unfold fSub at e
  split at e
  · cases e
    obtain ⟨t, rfl⟩ := rep_int.mp r1
    obtain ⟨u, rfl⟩ := rep_int.mp r2
    exact sub_int (hQ _ s.heap _ Kp.refl (rep_int.mpr ⟨_, rfl⟩))
  · cases e
theorem op_mul : OpS c .Mult fMul := by
  intro s X ps x y d a b Q E i r1 r2 e hQ
  unfold fMul at e
  split at e
  · split at e
    · rename_i hm
      cases e
      obtain ⟨t, rfl⟩ := rep_int.mp r1
      obtain ⟨u, rfl⟩ := rep_int.mp r2
      exact mul_int (hQ _ s.heap _ Kp.refl (rep_int.mpr ⟨_, rfl⟩)) hm
    · cases e
  · cases e
theorem op_mod : OpS c .Mod fMod := by
  intro s X ps x y d a b Q E i r1 r2 e hQ
  unfold fMod at e
  split at e
  · split at e
    · cases e
    · rename_i hm
      cases e
      obtain ⟨t, rfl⟩ := rep_int.mp r1
      obtain ⟨u, rfl⟩ := rep_int.mp r2
      exact mod_int' hm (hQ _ s.heap _ Kp.refl (rep_int.mpr ⟨_, rfl⟩))
  · cases e

/-- the top's own facts -/
noncomputable def bnames : List String := ["len", "abs", "max", "range", "enumerate", "list", "reversed", "sum", "int", "str", "Exception"]

structure Ok (c : Cx) (k : Nat) : Prop where
  hnd : Hd c.A c.hb
  depth : c.A.depth + k + 150 < recursionLimit
  units : c.A.units + 10 * k + 100 < cLine
  fr : ∃ e l, c.A.frames = some (e :: l) ∧ e.scope.isGenerator = false ∧ e.scope.isCoroutine = false ∧ e.builtins = builtinsNs ∧ e.globals = mainGlobals
  lim : c.hb.NoLimit
  seer : c.hb.NoSeer

theorem op_div {k : Nat} (ok : Ok c k) : OpS c .FloorDiv fDiv := by
  intro s X ps x y d a b Q E i r1 r2 e hQ
  unfold fDiv at e
  split at e
  · split at e
    · cases e
    · rename_i hm
      cases e
      obtain ⟨t, rfl⟩ := rep_int.mp r1
      obtain ⟨u, rfl⟩ := rep_int.mp r2
      obtain ⟨en, l, h1, h2, h3, h4, h5⟩ := ok.fr
      have hd := ok.depth
      exact floordiv_int hm (hQ _ s.heap _ Kp.refl (rep_int.mpr ⟨_, rfl⟩))
        (.inr (PylongRoom.of (ok.lim.keeps i.hbKp.all) (by unfold Builtin.pylongFrames; omega) (SeerAt.of (ok.seer.keeps i.hbKp.all) rfl h1 h2 h3 h4 h5)))
  · cases e

theorem op_pow : OpS c .Pow fPow := by
  intro s X ps x y d a b Q E i r1 r2 e hQ
  unfold fPow at e
  split at e
  · rename_i m n
    split at e
    · cases e
    · rename_i hm
      cases e
      obtain ⟨t, rfl⟩ := rep_int.mp r1
      obtain ⟨u, rfl⟩ := rep_int.mp r2
      have hn : n ≥ 0 := by
        apply Classical.byContradiction
        intro h
        exact hm (.inl (by omega))
      have hb : ¬ Builtin.Int.intTooBig (((Builtin.Int.intBits m : Nat) : Int) * n) = true := fun h => hm (.inr h)
      have done : ∀ z : Int, z = m ^ n.toNat → (Made.int z).post Q s := by
        intro z hz
        subst hz
        exact hQ _ s.heap _ Kp.refl (rep_int.mpr ⟨_, rfl⟩)
      by_cases h0 : (n == 0) = true
      · refine AutoIntOps.pow_0 hn h0 (done _ ?_)
        have : n = 0 := by simpa using h0
        subst this; rw [Int.toNat_zero, Int.pow_zero]
      by_cases h1 : (m == 0 || m == 1) = true
      · refine AutoIntOps.pow_1 hn h0 h1 (done _ ?_)
        have hn' : n.toNat ≠ 0 := by
          have : n ≠ 0 := by simpa using h0
          omega
        rcases Bool.or_eq_true_iff.mp h1 with h | h
        · have : m = 0 := by simpa using h
          subst this; rw [Int.zero_pow hn']
        · have : m = 1 := by simpa using h
          subst this; rw [Int.one_pow]
      by_cases h2 : (m == -1) = true
      · refine AutoIntOps.pow_2 hn h0 h1 h2 (done _ ?_)
        have : m = -1 := by simpa using h2
        subst this
        obtain ⟨q, hq⟩ : ∃ q : Nat, n = q := ⟨n.toNat, by omega⟩
        subst hq
        rw [Int.toNat_natCast]
        have key : ∀ q : Nat, (-1 : Int) ^ q = if ((q : Int) % 2 == 0) = true then 1 else -1 := by
          intro q
          induction q with
          | zero => rfl
          | succ q ih =>
            rw [Int.pow_succ, ih]
            have e : (((q + 1 : Nat) : Int) % 2 == 0) = !((q : Int) % 2 == 0) := by
              rcases (show (q : Int) % 2 = 0 ∨ (q : Int) % 2 = 1 by omega) with h | h
              · have : ((q + 1 : Nat) : Int) % 2 = 1 := by omega
                rw [h, this]; rfl
              · have : ((q + 1 : Nat) : Int) % 2 = 0 := by omega
                rw [h, this]; rfl
            rw [e]
            cases ((q : Int) % 2 == 0) <;> rfl
        exact (key q).symm
      · exact AutoIntOps.pow_4 hn h0 h1 h2 hb (done _ rfl)
  · cases e

/-- comparisons of ints -/
noncomputable def CmS (c : Cx) (op : CmpOp) (f : PV → PV → Option Bool) : Prop :=
  ∀ (s : Shared) (X : List Addr) (ps : PS) (x y : PV) (d : Bool) (a b : Value) (Q : Value → Shared → Prop) (E : Value → Shared → Prop), Inv c.hb c.B c.X₀ c.env s.heap ps X →
    WRep X s.heap a x → WRep X s.heap b y → f x y = some d → Q (.bool d) s → wpAny (model pw c.w) c.A (compareOp op a b) Q E s

noncomputable def fLt : PV → PV → Option Bool
  | .int i, .int j => some (decide (i < j))
  | _, _ => none
noncomputable def fGt : PV → PV → Option Bool
  | .int i, .int j => some (decide (i > j))
  | _, _ => none
noncomputable def fGe : PV → PV → Option Bool
  | .int i, .int j => some (decide (i ≥ j))
  | _, _ => none
noncomputable def small (x : PV) : Bool := x.py.canLay0 && decide (x.py.depth ≤ 60)
noncomputable def fEq (x y : PV) : Option Bool := if small x && small y then some (PyData.eqv x.py y.py) else none
noncomputable def fNe (x y : PV) : Option Bool := if small x && small y then some (!PyData.eqv x.py y.py) else none
noncomputable def fIs : PV → PV → Option Bool
  | .none, .none => some true
  | .tup _, .none => some false
  | _, _ => none
noncomputable def fIsNot : PV → PV → Option Bool
  | .none, .none => some false
  | .tup _, .none => some true
  | _, _ => none

theorem wrep_int {X : List Addr} {h : Heap} {v : Value} {i : Int} : WRep X h v (.int i) ↔ ∃ t, v = .int i t := by simp only [WRep, Rep]

theorem cm_lt : CmS c .Lt fLt := by
  intro s X ps x y d a b Q E i r1 r2 e hQ
  unfold fLt at e
  split at e
  · cases e
    obtain ⟨t, rfl⟩ := wrep_int.mp r1
    obtain ⟨u, rfl⟩ := wrep_int.mp r2
    exact lt_int hQ
  · cases e
theorem cm_gt : CmS c .Gt fGt := by
  intro s X ps x y d a b Q E i r1 r2 e hQ
  unfold fGt at e
  split at e
  · cases e
    obtain ⟨t, rfl⟩ := wrep_int.mp r1
    obtain ⟨u, rfl⟩ := wrep_int.mp r2
    exact gt_int hQ
  · cases e
theorem cm_ge : CmS c .GtE fGe := by
  intro s X ps x y d a b Q E i r1 r2 e hQ
  unfold fGe at e
  split at e
  · cases e
    obtain ⟨t, rfl⟩ := wrep_int.mp r1
    obtain ⟨u, rfl⟩ := wrep_int.mp r2
    exact ge_int hQ
  · cases e
theorem cm_eq {k : Nat} (ok : Ok c k) : CmS c .Eq fEq := by
  intro s X ps x y d a b Q E i r1 r2 e hQ
  unfold fEq at e
  split at e
  · rename_i hs
    cases e
    obtain ⟨as, h1⟩ := r1.reads
    obtain ⟨bs, h2⟩ := r2.reads
    simp only [small, Bool.and_eq_true, decide_eq_true_eq] at hs
    have := ok.units
    exact SeqAt.compareEq_reads h1 h2 hs.1.1 hs.2.1 (by have := hs.1.2; have := Nat.min_le_left x.py.depth y.py.depth; omega) hQ
  · cases e
theorem cm_ne {k : Nat} (ok : Ok c k) : CmS c .NotEq fNe := by
  intro s X ps x y d a b Q E i r1 r2 e hQ
  unfold fNe at e
  split at e
  · rename_i hs
    cases e
    obtain ⟨as, h1⟩ := r1.reads
    obtain ⟨bs, h2⟩ := r2.reads
    simp only [small, Bool.and_eq_true, decide_eq_true_eq] at hs
    have := ok.units
    exact SeqAt.compareNe_reads h1 h2 hs.1.1 hs.2.1 (by have := hs.1.2; have := Nat.min_le_left x.py.depth y.py.depth; omega) hQ
  · cases e
theorem cm_is : CmS c .Is fIs := by
  intro s X ps x y d a b Q E i r1 r2 e hQ
  unfold fIs at e
  split at e
  · cases e
    simp only [WRep, Rep] at r1 r2
    subst r1 r2
    exact is_none hQ
  · cases e
    simp only [WRep, Rep] at r1 r2
    subst r2
    obtain ⟨q, vs, rfl, _⟩ := r1
    exact is_none hQ
  · cases e
theorem cm_isNot : CmS c .IsNot fIsNot := by
  intro s X ps x y d a b Q E i r1 r2 e hQ
  unfold fIsNot at e
  split at e
  · cases e
    simp only [WRep, Rep] at r1 r2
    subst r1 r2
    exact isNot_none hQ
  · cases e
    simp only [WRep, Rep] at r1 r2
    subst r2
    obtain ⟨q, vs, rfl, _⟩ := r1
    exact isNot_none hQ
  · cases e

noncomputable def pCmp (f : PV → PV → Option Bool) (p q : PE PV) : PE Bool := fun ps => match p ps with
  | none => none
  | some (x, ps₁) => match q ps₁ with
    | none => none
    | some (y, ps₂) => (f x y).map fun d => (d, ps₂)
theorem pCmp_inv {f : PV → PV → Option Bool} {p q : PE PV} {ps ps' : PS} {d : Bool} (h : pCmp f p q ps = some (d, ps')) : ∃ x ps₁ y, p ps = some (x, ps₁) ∧ q ps₁ = some (y, ps') ∧ f x y = some d := by
  unfold pCmp at h
  cases h1 : p ps with
  | none => rw [h1] at h; cases h
  | some r =>
    obtain ⟨x, ps₁⟩ := r
    rw [h1] at h
    simp only at h
    cases h2 : q ps₁ with
    | none => rw [h2] at h; cases h
    | some r =>
      obtain ⟨y, ps₂⟩ := r
      rw [h2] at h
      simp only [Option.map_eq_some_iff, Prod.mk.injEq] at h
      obtain ⟨d', h3, rfl, rfl⟩ := h
      exact ⟨x, ps₁, y, rfl, h2, h3⟩
noncomputable def pCmpN (f : PV → PV → Option Bool) (x : String) (q : PE PV) : PE Bool := fun ps => if (ps.loc x).isSome then (match q ps with
  | none => none
  | some (y, ps₁) => (ps₁.loc x).bind fun d => (f d y).map fun b => (b, ps₁)) else none
theorem pCmpN_inv {f : PV → PV → Option Bool} {x : String} {q : PE PV} {ps ps' : PS} {d : Bool} (h : pCmpN f x q ps = some (d, ps')) :
    ∃ d₀ y d₁, ps.loc x = some d₀ ∧ q ps = some (y, ps') ∧ ps'.loc x = some d₁ ∧ f d₁ y = some d := by
  unfold pCmpN at h
  split at h
  · rename_i h0
    obtain ⟨d₀, h0⟩ := Option.isSome_iff_exists.mp h0
    cases h2 : q ps with
    | none => rw [h2] at h; cases h
    | some r =>
      obtain ⟨y, ps₁⟩ := r
      rw [h2] at h
      simp only [Option.bind_eq_some_iff, Option.map_eq_some_iff, Prod.mk.injEq] at h
      obtain ⟨d₁, h3, b, h4, rfl, rfl⟩ := h
      exact ⟨d₀, y, d₁, h0, rfl, h3, h4⟩
  · cases h

noncomputable def pB (p : PE Bool) : PE PV := fun ps => (p ps).map fun r => (.bool r.1, r.2)
theorem pB_inv {p : PE Bool} {ps ps' : PS} {d : PV} (h : pB p ps = some (d, ps')) : ∃ b, p ps = some (b, ps') ∧ d = .bool b := by
  unfold pB at h
  simp only [Option.map_eq_some_iff, Prod.mk.injEq] at h
  obtain ⟨⟨b, q⟩, h1, rfl, rfl⟩ := h
  exact ⟨b, h1, rfl⟩

variable {op : CmpOp} {f : PV → PV → Option Bool} {l r : Expr} {pos np : Pos} {p q : PE PV} {x : String}
theorem ev_cmp (ho : CmS c op f) (h1 : EV c l p) (h2 : EV c r q) (hm : behindInMarks op r = false := by rfl) : EV c (.Compare l [op] [r] pos) (pB (pCmp f p q)) := by
  intro s X ps d ps' Q E i hp hQ
  obtain ⟨b, hp2, rfl⟩ := pB_inv hp
  obtain ⟨x, ps₁, y, e1, e2, e3⟩ := pCmp_inv hp2
  refine wpAny_Compare1 (two_steps h1 h2 i e1 e2 fun a b h₁ tk k i₁ r₁ r₂ => ?_) hm
  exact ho _ X ps' x y _ a b _ _ i₁ r₁.weak r₂.weak e3 (hQ _ h₁ tk k i₁ (by simp only [Rep]))
theorem tv_cmp (ho : CmS c op f) (h1 : EV c l p) (h2 : EV c r q) (hm : behindInMarks op r = false := by rfl) : TV c (.Compare l [op] [r] pos) (pCmp f p q) := by
  intro s X ps d ps' Q E i hp hQ
  obtain ⟨x, ps₁, y, e1, e2, e3⟩ := pCmp_inv hp
  refine wpAny_isTrue_Compare1 (two_steps h1 h2 i e1 e2 fun a b h₁ tk k i₁ r₁ r₂ => ?_) hm
  exact ho _ X ps' x y _ a b _ _ i₁ r₁.weak r₂.weak e3 (wpAny_truthy_bool (hQ h₁ tk k i₁))
theorem ev_cmp_name (ho : CmS c op f) (h2 : EV c r q) (hm : behindInMarks op r = false := by rfl) : EV c (.Compare (.Name (Str.ofString x) np) [op] [r] pos) (pB (pCmpN f x q)) := by
  intro s X ps d ps' Q E i hp hQ
  obtain ⟨b, hp2, rfl⟩ := pB_inv hp
  obtain ⟨d₀, y, d₁, e0, e1, e2, e3⟩ := pCmpN_inv hp2
  refine wpAny_Compare1 (name_then h2 i e0 e1 e2 fun a b h₁ tk k i₁ r₁ _ r₂ => ?_) hm
  exact ho _ X ps' d₁ y _ a b _ _ i₁ r₁ r₂.weak e3 (hQ _ h₁ tk k i₁ (by simp only [Rep]))
theorem tv_cmp_name (ho : CmS c op f) (h2 : EV c r q) (hm : behindInMarks op r = false := by rfl) : TV c (.Compare (.Name (Str.ofString x) np) [op] [r] pos) (pCmpN f x q) := by
  intro s X ps d ps' Q E i hp hQ
  obtain ⟨d₀, y, d₁, e0, e1, e2, e3⟩ := pCmpN_inv hp
  refine wpAny_isTrue_Compare1 (name_then h2 i e0 e1 e2 fun a b h₁ tk k i₁ r₁ _ r₂ => ?_) hm
  exact ho _ X ps' d₁ y _ a b _ _ i₁ r₁ r₂.weak e3 (wpAny_truthy_bool (hQ h₁ tk k i₁))

/-- a value that is a bool, tested -/
noncomputable def pT (p : PE PV) : PE Bool := fun ps => match p ps with
  | some (.bool b, ps') => some (b, ps')
  | _ => none
theorem pT_inv {p : PE PV} {ps ps' : PS} {b : Bool} (h : pT p ps = some (b, ps')) : p ps = some (.bool b, ps') := by
  unfold pT at h
  split at h
  · rename_i h1; cases h; exact h1
  · cases h
theorem tv_val {e : Expr} (h1 : EV c e p) (he : ∀ whole, isTrue e c.env whole = (do let v ← whole; standAt e.pos; holding [v] (truthy v)) := by intro _; rfl) : TV c e (pT p) := by
  intro s X ps d ps' Q E i hp hQ
  refine wpAny_isTrue_value (h1 s X ps _ ps' _ _ i (pT_inv hp) fun v h' tk k i' r => ?_) (he _)
  simp only [Rep] at r
  subst r
  exact wpAny_truthy_bool (hQ h' tk k i')

noncomputable def pNot (p : PE Bool) : PE Bool := fun ps => (p ps).map fun r => (!r.1, r.2)
theorem tv_not {e : Expr} {p : PE Bool} (h1 : TV c e p) : TV c (.UnaryOp .Not e pos) (pNot p) := by
  intro s X ps d ps' Q E i hp hQ
  unfold pNot at hp
  simp only [Option.map_eq_some_iff, Prod.mk.injEq] at hp
  obtain ⟨⟨b, q⟩, h2, rfl, rfl⟩ := hp
  exact wpAny_isTrue_Not (h1 s X ps b q _ _ i h2 fun h' tk k i' => hQ h' tk k i')

noncomputable def AV (c : Cx) (op : BoolOp) (es : List Expr) (p : PE Bool) : Prop :=
  ∀ (s : Shared) (X : List Addr) (ps : PS) (d : Bool) (ps' : PS) (Q : Bool → Shared → Prop) (E : Value → Shared → Prop),
    Inv c.hb c.B c.X₀ c.env s.heap ps X → p ps = some (d, ps') →
    (∀ h' tk, Kp X s.heap h' → Inv c.hb c.B c.X₀ c.env h' ps' X → Q d { s with heap := h', toks := tk }) →
    wpAny (model pw c.w) c.A (allTrue op es c.env) Q E s
noncomputable def pAnd (p q : PE Bool) : PE Bool := fun ps => match p ps with
  | none => none
  | some (false, ps') => some (false, ps')
  | some (true, ps') => q ps'
noncomputable def pOr (p q : PE Bool) : PE Bool := fun ps => match p ps with
  | none => none
  | some (true, ps') => some (true, ps')
  | some (false, ps') => q ps'
noncomputable def pBool (b : Bool) : PE Bool := fun ps => some (b, ps)
theorem av_and_nil : AV c .And [] (pBool true) := fun s X ps d ps' Q E i hp hQ => by cases hp; exact wpAny_allTrue_And_nil (hQ s.heap s.toks Kp.refl i)
theorem av_or_nil : AV c .Or [] (pBool false) := fun s X ps d ps' Q E i hp hQ => by cases hp; exact wpAny_allTrue_Or_nil (hQ s.heap s.toks Kp.refl i)
theorem av_and {e : Expr} {es : List Expr} {p q : PE Bool} (h1 : TV c e p) (h2 : AV c .And es q) : AV c .And (e :: es) (pAnd p q) := by
  intro s X ps d ps' Q E i hp hQ
  unfold pAnd at hp
  split at hp
  · cases hp
  · rename_i e1; cases hp
    exact wpAny_allTrue_And_cons (h1 s X ps _ _ _ _ i e1 fun h' tk k i' => hQ h' tk k i')
  · rename_i ps₁ e1
    refine wpAny_allTrue_And_cons (h1 s X ps _ _ _ _ i e1 fun h' tk k i' => ?_)
    exact h2 _ X ps₁ d ps' _ _ i' hp fun h'' tk' k' i'' => hQ h'' tk' (k.trans k') i''
theorem av_or {e : Expr} {es : List Expr} {p q : PE Bool} (h1 : TV c e p) (h2 : AV c .Or es q) : AV c .Or (e :: es) (pOr p q) := by
  intro s X ps d ps' Q E i hp hQ
  unfold pOr at hp
  split at hp
  · cases hp
  · rename_i e1; cases hp
    exact wpAny_allTrue_Or_cons (h1 s X ps _ _ _ _ i e1 fun h' tk k i' => hQ h' tk k i')
  · rename_i ps₁ e1
    refine wpAny_allTrue_Or_cons (h1 s X ps _ _ _ _ i e1 fun h' tk k i' => ?_)
    exact h2 _ X ps₁ d ps' _ _ i' hp fun h'' tk' k' i'' => hQ h'' tk' (k.trans k') i''
theorem tv_bool {o : BoolOp} {es : List Expr} {p : PE Bool} (h : AV c o es p) : TV c (.BoolOp o es pos) p :=
  fun s X ps d ps' Q E i hp hQ => wpAny_isTrue_BoolOp (h s X ps d ps' Q E i hp hQ)

noncomputable def pAnd2 (p q : PE PV) : PE PV := fun ps => match p ps with
  | some (.bool false, ps') => some (.bool false, ps')
  | some (.bool true, ps') => q ps'
  | _ => none
noncomputable def pOr2 (p q : PE PV) : PE PV := fun ps => match p ps with
  | some (.bool true, ps') => some (.bool true, ps')
  | some (.bool false, ps') => q ps'
  | _ => none
theorem ev_and2 {e₁ e₂ : Expr} (h1 : EV c e₁ p) (h2 : EV c e₂ q) : EV c (.BoolOp .And [e₁, e₂] pos) (pAnd2 p q) := by
  intro s X ps d ps' Q E i hp hQ
  unfold pAnd2 at hp
  split at hp
  · rename_i e1; cases hp
    refine wpAny_And2 (h1 s X ps _ _ _ _ i e1 fun v h' tk k i' r => ?_)
    simp only [Rep] at r; subst r
    exact wpAny_truthy_bool (hQ _ h' tk k i' (by simp only [Rep]))
  · rename_i ps₁ e1
    refine wpAny_And2 (h1 s X ps _ _ _ _ i e1 fun v h' tk k i' r => ?_)
    simp only [Rep] at r; subst r
    refine wpAny_truthy_bool ?_
    exact h2 _ X ps₁ d ps' _ _ i' hp fun v h'' tk' k' i'' r => hQ v h'' tk' (k.trans k') i'' r
  · cases hp
theorem ev_or2 {e₁ e₂ : Expr} (h1 : EV c e₁ p) (h2 : EV c e₂ q) : EV c (.BoolOp .Or [e₁, e₂] pos) (pOr2 p q) := by
  intro s X ps d ps' Q E i hp hQ
  unfold pOr2 at hp
  split at hp
  · rename_i e1; cases hp
    refine wpAny_Or2 (h1 s X ps _ _ _ _ i e1 fun v h' tk k i' r => ?_)
    simp only [Rep] at r; subst r
    exact wpAny_truthy_bool (hQ _ h' tk k i' (by simp only [Rep]))
  · rename_i ps₁ e1
    refine wpAny_Or2 (h1 s X ps _ _ _ _ i e1 fun v h' tk k i' r => ?_)
    simp only [Rep] at r; subst r
    refine wpAny_truthy_bool ?_
    exact h2 _ X ps₁ d ps' _ _ i' hp fun v h'' tk' k' i'' r => hQ v h'' tk' (k.trans k') i'' r
  · cases hp

noncomputable def pIf {α : Type} (t : PE Bool) (p q : PE α) : PE α := fun ps => match t ps with
  | none => none
  | some (true, ps') => p ps'
  | some (false, ps') => q ps'
theorem ev_if {e e₁ e₂ : Expr} {t : PE Bool} (ht : TV c e t) (h1 : EV c e₁ p) (h2 : EV c e₂ q) : EV c (.IfExp e e₁ e₂ pos) (pIf t p q) := by
  intro s X ps d ps' Q E i hp hQ
  unfold pIf at hp
  split at hp
  · cases hp
  · rename_i ps₁ e1
    refine wpAny_IfExp (ht s X ps _ _ _ _ i e1 fun h' tk k i' => ?_)
    exact h1 _ X ps₁ d ps' _ _ i' hp fun v h'' tk' k' i'' r => hQ v h'' tk' (k.trans k') i'' r
  · rename_i ps₁ e1
    refine wpAny_IfExp (ht s X ps _ _ _ _ i e1 fun h' tk k i' => ?_)
    exact h2 _ X ps₁ d ps' _ _ i' hp fun v h'' tk' k' i'' r => hQ v h'' tk' (k.trans k') i'' r
theorem none_of_kp {X : List Addr} {h h' : Heap} {a : Addr} {ps : PS} (i : Inv c.hb c.B c.X₀ c.env h' ps X) (k : Kp X h h') (n : h'.get? a = none) : h.get? a = none := by
  cases e : h.get? a with
  | none => rfl
  | some o =>
    by_cases m : a ∈ X
    · obtain ⟨o', e'⟩ := i.live a m
      rw [n] at e'; cases e'
    · rw [k a o m e] at n; cases n
theorem fv_if {e e₁ e₂ : Expr} {t : PE Bool} {p q : PE (List PV)} (ht : TV c e t) (h1 : FV c e₁ p) (h2 : FV c e₂ q) : FV c (.IfExp e e₁ e₂ pos) (pIf t p q) := by
  intro s X ps d ps' Q E i hp hQ
  unfold pIf at hp
  split at hp
  · cases hp
  · rename_i ps₁ e1
    refine wpAny_IfExp (ht s X ps _ _ _ _ i e1 fun h' tk k i' => ?_)
    exact h1 _ X ps₁ d ps' _ _ i' hp fun a vs h'' tk' n k' i'' j l r => hQ a vs h'' tk' (none_of_kp i' k n) (k.trans k') i'' j l r
  · rename_i ps₁ e1
    refine wpAny_IfExp (ht s X ps _ _ _ _ i e1 fun h' tk k i' => ?_)
    exact h2 _ X ps₁ d ps' _ _ i' hp fun a vs h'' tk' n k' i'' j l r => hQ a vs h'' tk' (none_of_kp i' k n) (k.trans k') i'' j l r
end
end NN
end

section
open PySem PySem.W PyProof.Rows PySem.Calls PySem.Spec
set_option Elab.async false
set_option autoImplicit false
set_option maxRecDepth 100000

namespace NN
section
variable {c : Cx}

/-- names that bear a value of the interpreter's (a built-in, a def of the top) -/
noncomputable def NV (c : Cx) (x : Str) (v : Value) : Prop :=
  ∀ (pos : Pos) (s : Shared) (X : List Addr) (ps : PS) (Q : Value → Shared → Prop) (E : Value → Shared → Prop),
    Inv c.hb c.B c.X₀ c.env s.heap ps X → Q v s → wpAny (model pw c.w) c.A (eval (.Name x pos) c.env) Q E s

structure EnvOk (env : Env) : Prop where
  g : env.globals = mainGlobals
  b : env.builtins = builtinsNs
  k : env.scope.kind = .function

theorem nv_glob {x : Str} {mg : Str → Option Value} {v : Value} (hg : c.hb.Ns mainGlobals mg) (hm : mg x = some v) (en : EnvOk c.env)
    (hx : c.env.kindOf x = some .globalImplicit) (hd : (x == ("__debug__" : Str)) = false := by decide) : NV c x v := by
  intro pos s X ps Q E i hQ
  exact Calls.Name_function_global en.k hx (Calls.loadGlobal_global (env := c.env) (en.g ▸ hg.keeps i.hbKp.all) hm hQ) hd
theorem nv_built {x : Str} {mg mb : Str → Option Value} {v : Value} (hg : c.hb.Ns mainGlobals mg) (hm : mg x = none) (hb : c.hb.Ns builtinsNs mb) (hv : mb x = some v) (en : EnvOk c.env)
    (hx : c.env.kindOf x = some .globalImplicit) (hd : (x == ("__debug__" : Str)) = false := by decide) : NV c x v := by
  intro pos s X ps Q E i hQ
  exact Calls.Name_function_global en.k hx (Calls.loadGlobal_builtin (env := c.env) (en.g ▸ hg.keeps i.hbKp.all) hm (en.b ▸ hb.keeps i.hbKp.all) hv hQ) hd

/-- a step that makes one value of one value -/
noncomputable def UnS (c : Cx) (run : Value → Sem Value) (f : PV → Option PV) : Prop :=
  ∀ (s : Shared) (X : List Addr) (ps : PS) (x d : PV) (a : Value) (Q : Value → Shared → Prop) (E : Value → Shared → Prop), Inv c.hb c.B c.X₀ c.env s.heap ps X →
    WRep X s.heap a x → f x = some d → (∀ v h' tk, Kp [] s.heap h' → Rep X h' v d → Q v { s with heap := h', toks := tk }) → wpAny (model pw c.w) c.A (run a) Q E s

noncomputable def pUn (f : PV → Option PV) (p : PE PV) : PE PV := fun ps => match p ps with
  | none => none
  | some (x, ps') => (f x).map fun d => (d, ps')
theorem pUn_inv {f : PV → Option PV} {p : PE PV} {ps ps' : PS} {d : PV} (h : pUn f p ps = some (d, ps')) : ∃ x, p ps = some (x, ps') ∧ f x = some d := by
  unfold pUn at h
  cases h1 : p ps with
  | none => rw [h1] at h; cases h
  | some r =>
    obtain ⟨x, ps₁⟩ := r
    rw [h1] at h
    simp only [Option.map_eq_some_iff, Prod.mk.injEq] at h
    obtain ⟨d', h3, rfl, rfl⟩ := h
    exact ⟨x, rfl, h3⟩

noncomputable def fNeg : PV → Option PV
  | .int i => some (.int (-i))
  | _ => none
theorem ev_neg {e : Expr} {pos : Pos} {p : PE PV} (h1 : EV c e p) : EV c (.UnaryOp .USub e pos) (pUn fNeg p) := by
  intro s X ps d ps' Q E i hp hQ
  obtain ⟨x, e1, e2⟩ := pUn_inv hp
  refine wpAny_UnaryOp (h1 s X ps x ps' _ _ i e1 fun v h' tk k i' r => ?_)
  unfold fNeg at e2
  split at e2
  · cases e2
    obtain ⟨t, rfl⟩ := rep_int.mp r
    exact neg_int (hQ _ h' _ k i' (rep_int.mpr ⟨_, rfl⟩))
  · cases e2

/-- a call of a built-in with one argument -/
theorem ev_call1 {x : Str} {id : String} {np pos : Pos} {e : Expr} {p : PE PV} {f : PV → Option PV} (hn : NV c x (.builtin id)) (hu : UnS c (fun v => call (.builtin id) [v]) f) (h1 : EV c e p)
    (hs : starEach [e] c.env = [(false, eval e c.env)] := by rfl) : EV c (.Call (.Name x np) [e] [] pos) (pUn f p) := by
  intro s X ps d ps' Q E i hp hQ
  obtain ⟨y, e1, e2⟩ := pUn_inv hp
  refine wpAny_Call_NameR (hn np s X ps _ _ i ?_)
  rw [hs]
  refine callWith_builtin1 (h1 s X ps y ps' _ _ i e1 fun v h' tk k i' r => ?_)
  exact hu _ X ps' y d v _ _ i' r.weak e2 fun v' h'' tk' k' r' => hQ v' h'' tk' (k.trans k'.nil) (i'.kp k') r'
noncomputable def pUnN (f : PV → Option PV) (x : String) : PE PV := fun ps => (ps.loc x).bind fun y => (f y).map fun d => (d, ps)
theorem ev_call1_name {x : Str} {id : String} {np np' pos : Pos} {y : String} {f : PV → Option PV} (hn : NV c x (.builtin id)) (hu : UnS c (fun v => call (.builtin id) [v]) f) :
    EV c (.Call (.Name x np) [.Name (Str.ofString y) np'] [] pos) (pUnN f y) := by
  intro s X ps d ps' Q E i hp hQ
  unfold pUnN at hp
  simp only [Option.bind_eq_some_iff, Option.map_eq_some_iff, Prod.mk.injEq] at hp
  obtain ⟨z, e1, d', e2, rfl, rfl⟩ := hp
  refine wpAny_Call_NameR (hn np s X ps _ _ i ?_)
  obtain ⟨v, l, r⟩ := i.see e1
  refine callWith_builtin1 (l.name ?_)
  exact hu s X ps z d' v _ _ i r e2 fun v' h'' tk' k' r' => hQ v' h'' tk' k'.nil (i.kp k') r'

noncomputable def fLen : PV → Option PV
  | .lst xs => if xs.length < 2 ^ 62 then some (.int xs.length) else none
  | _ => none
theorem un_len : UnS c (fun v => call (.builtin "len") [v]) fLen := by
  intro s X ps x d a Q E i r e hQ
  unfold fLen at e
  split at e
  · rename_i xs
    split at e
    · rename_i hl
      cases e
      obtain ⟨l, vs, rfl, hls, hr⟩ := r
      have hlen : (vs.toArray.size : Int) = (xs.length : Int) := by rw [List.size_toArray, hr.length]
      refine call_len_list hls (by rw [hlen]; omega) ?_
      rw [hlen]
      exact hQ _ s.heap _ Kp.refl (rep_int.mpr ⟨_, rfl⟩)
    · cases e
  · cases e

noncomputable def fAbs : PV → Option PV
  | .int i => some (.int (if i < 0 then -i else i))
  | _ => none
theorem un_abs : UnS c (fun v => call (.builtin "abs") [v]) fAbs := by
  intro s X ps x d a Q E i r e hQ
  unfold fAbs at e
  split at e
  · cases e
    obtain ⟨t, rfl⟩ := wrep_int.mp r
    exact call_abs_int fun u tk => hQ _ s.heap tk Kp.refl (rep_int.mpr ⟨_, rfl⟩)
  · cases e

noncomputable def fMax : PV → PV → Option PV
  | .int i, .int j => some (.int (if j > i then j else i))
  | _, _ => none
/-- a call of a built-in with two arguments -/
theorem ev_max {x : Str} {np pos : Pos} {e₁ e₂ : Expr} {p q : PE PV} {k : Nat} (ok : Ok c k) (hn : NV c x (.builtin "max")) (h1 : EV c e₁ p) (h2 : EV c e₂ q)
    (hs : starEach [e₁, e₂] c.env = [(false, eval e₁ c.env), (false, eval e₂ c.env)] := by rfl) :
    EV c (.Call (.Name x np) [e₁, e₂] [] pos) (pBin fMax p q) := by
  intro s X ps d ps' Q E i hp hQ
  obtain ⟨y, ps₁, z, a1, a2, a3⟩ := pBin_inv hp
  refine wpAny_Call_NameR (hn np s X ps _ _ i ?_)
  rw [hs]
  refine Calls.callWith_builtin rfl (Calls.evalArgs_plain (Calls.spliced_cons ?_))
  refine wpAny_mono (two_steps (M := fun a b s₂ => wpAny (model pw c.w) c.A (call (.builtin "max") [a, b]) Q E s₂) h1 h2 i a1 a2 fun a b h₁ tk k₁ i₁ r₁ r₂ => ?_)
    (fun a s₁ hh => Calls.spliced_cons (wpAny_mono hh (fun b s₂ hh₂ => Calls.spliced_nil hh₂) fun _ _ e => e)) fun _ _ e => e
  unfold fMax at a3
  split at a3
  · cases a3
    obtain ⟨t, rfl⟩ := rep_int.mp r₁
    obtain ⟨u, rfl⟩ := rep_int.mp r₂
    refine max_two (s := { s with heap := h₁, toks := tk }) (ok.hnd.keeps i₁.hbKp.all) fun h' tk' kk => ?_
    have kk' : Kp [] h₁ h' := Kp.of kk
    split
    · rename_i hgt; rw [if_pos hgt] at hQ; exact hQ _ h' _ (k₁.trans kk'.nil) (i₁.kp kk') (rep_int.mpr ⟨_, rfl⟩)
    · rename_i hgt; rw [if_neg hgt] at hQ; exact hQ _ h' _ (k₁.trans kk'.nil) (i₁.kp kk') (rep_int.mpr ⟨_, rfl⟩)
  · cases a3

/-- a subscript by an int -/
noncomputable def pick (x : PV) (k : Int) : Option PV := match x with
  | .lst xs | .tup xs => if xs.length < 2 ^ 62 then (if 0 ≤ k then xs[k.toNat]? else if -(xs.length : Int) ≤ k then xs[(k + xs.length).toNat]? else none) else none
  | _ => none

theorem pick_lt {xs : List PV} {k : Int} {d : PV} (h : xs.length < 2 ^ 62) (e : (if 0 ≤ k then xs[k.toNat]? else if -(xs.length : Int) ≤ k then xs[(k + xs.length).toNat]? else none) = some d) :
    -(2 ^ 63) ≤ k ∧ k < 2 ^ 63 ∧ (0 ≤ k → xs[k.toNat]? = some d) ∧ (k < 0 → -(xs.length : Int) ≤ k ∧ xs[(k + xs.length).toNat]? = some d) := by
  split at e
  · rename_i h0
    have : k.toNat < xs.length := by
      rcases Nat.lt_or_ge k.toNat xs.length with q | q
      · exact q
      · rw [List.getElem?_eq_none q] at e; cases e
    exact ⟨by omega, by omega, fun _ => e, fun q => by omega⟩
  · split at e
    · rename_i h0 h1
      exact ⟨by omega, by omega, fun q => absurd q h0, fun _ => ⟨h1, e⟩⟩
    · cases e

theorem sub_tail {value slice : Expr} {s : Shared} {X : List Addr} {ps : PS} {x d : PV} {a : Value} {k : Int} {t : Tok} {Q : Value → Shared → Prop} {E : Value → Shared → Prop} (i : Inv c.hb c.B c.X₀ c.env s.heap ps X)
    (r : WRep X s.heap a x) (e : pick x k = some d) (hs : ∀ o j, subscripted slice false o j = operate [o, j] (getItem o j))
    (hQ : ∀ v, Rep X s.heap v d → Q v s) : wpAny (model pw c.w) c.A (subscriptTail value slice a (.int k t)) Q E s := by
  unfold pick at e
  split at e
  · rename_i xs
    split at e
    · rename_i hl
      obtain ⟨b1, b2, b3, b4⟩ := pick_lt hl e
      obtain ⟨l, vs, rfl, hls, hr⟩ := r
      have hlen := hr.length
      rcases Int.lt_or_le k 0 with hk | hk
      · obtain ⟨b5, b6⟩ := b4 hk
        obtain ⟨v, hv, rv⟩ := hr.get b6
        exact tail_any hls.typeIs slot_list_getitem.lookup (wpAny_getItem_list_neg hls hk (by rw [List.size_toArray, hlen]; exact b5) b1 (by rw [List.size_toArray, hlen]; simpa using hv) (hQ v rv)) (hs _ _)
      · obtain ⟨v, hv, rv⟩ := hr.get (b3 hk)
        exact tail_any hls.typeIs slot_list_getitem.lookup (wpAny_getItem_list hls hk b2 (by simpa using hv) (hQ v rv)) (hs _ _)
    · cases e
  · rename_i xs
    split at e
    · rename_i hl
      obtain ⟨b1, b2, b3, b4⟩ := pick_lt hl e
      simp only [WRep, Rep] at r
      obtain ⟨l, vs, rfl, _, hls, hr⟩ := r
      have hlen := hr.length
      rcases Int.lt_or_le k 0 with hk | hk
      · obtain ⟨b5, b6⟩ := b4 hk
        obtain ⟨v, hv, rv⟩ := hr.get b6
        exact item_tupleT (j := (k + vs.length).toNat) hls b1 b2 (seqIndex_neg hk (by rw [hlen]; exact b5)) (by rw [hlen]; exact hv) (hQ v rv) (hs _ _)
      · have b5 := b3 hk
        obtain ⟨v, hv, rv⟩ := hr.get b5
        have hlt : k.toNat < vs.length := by
          rcases Nat.lt_or_ge k.toNat vs.length with q | q
          · exact q
          · rw [List.getElem?_eq_none q] at hv; cases hv
        refine item_tupleT (j := k.toNat) hls b1 b2 ?_ hv (hQ v rv) (hs _ _)
        unfold seqIndex?
        simp only [show ¬ k < 0 by omega, if_false]
        rw [if_pos (by simp only [Bool.and_eq_true, decide_eq_true_eq]; omega)]
    · cases e
  · cases e

noncomputable def fPick (x : PV) : PV → Option PV
  | .int k => pick x k
  | _ => none
noncomputable def pSub (p q : PE PV) : PE PV := pBin fPick p q
theorem ev_sub {value slice : Expr} {pos : Pos} {p q : PE PV} (h1 : EV c value p) (h2 : EV c slice q) (hs : ∀ o j, subscripted slice false o j = operate [o, j] (getItem o j) := by intro _ _; rfl) :
    EV c (.Subscript value slice pos) (pSub p q) := by
  intro s X ps d ps' Q E i hp hQ
  obtain ⟨x, ps₁, y, e1, e2, e3⟩ := pBin_inv hp
  refine Subscript_ (two_steps h1 h2 i e1 e2 fun a b h₁ tk k i₁ r₁ r₂ => ?_)
  unfold fPick at e3
  split at e3
  · obtain ⟨t, rfl⟩ := rep_int.mp r₂
    exact sub_tail i₁ r₁.weak e3 hs fun v r => hQ v h₁ tk k i₁ r
  · cases e3
noncomputable def pSubN (x : String) (q : PE PV) : PE PV := fun ps => if (ps.loc x).isSome then (match q ps with
  | some (.int k, ps₁) => (ps₁.loc x).bind fun d => (pick d k).map fun b => (b, ps₁)
  | _ => none) else none
theorem ev_sub_name {x : String} {slice : Expr} {np pos : Pos} {q : PE PV} (h2 : EV c slice q) (hs : ∀ o j, subscripted slice false o j = operate [o, j] (getItem o j) := by intro _ _; rfl) :
    EV c (.Subscript (.Name (Str.ofString x) np) slice pos) (pSubN x q) := by
  intro s X ps d ps' Q E i hp hQ
  unfold pSubN at hp
  split at hp
  · rename_i h0
    obtain ⟨d₀, h0⟩ := Option.isSome_iff_exists.mp h0
    split at hp
    · rename_i k ps₁ e1
      simp only [Option.bind_eq_some_iff, Option.map_eq_some_iff, Prod.mk.injEq] at hp
      obtain ⟨d₁, e2, d', e3, rfl, rfl⟩ := hp
      refine Subscript_ (name_then h2 i h0 e1 e2 fun a b h₁ tk k i₁ r₁ _ r₂ => ?_)
      obtain ⟨t, rfl⟩ := rep_int.mp r₂
      exact sub_tail i₁ r₁ e3 hs fun v r => hQ v h₁ tk k i₁ r
    · cases hp
  · cases hp

/-- p[:u] -/
noncomputable def fUpto : PV → PV → Option PV
  | .lst xs, .int k => if xs.length ≤ 2 ^ 20 then (if 0 ≤ k then some (.lst (xs.take k.toNat)) else some (.lst (xs.take (xs.length - (-k).toNat)))) else none
  | _, _ => none
theorem ev_upto {value u : Expr} {pp pos : Pos} {p q : PE PV} (h1 : EV c value p) (h2 : EV c u q) (hv : ∀ o r, letTemporaryGo value o r = pure () := by intro _ _; rfl) :
    EV c (.Subscript value (.Slice none (some u) none pp) pos) (pBin fUpto p q) := by
  intro s X ps d ps' Q E i hp hQ
  obtain ⟨x, ps₁, y, e1, e2, e3⟩ := pBin_inv hp
  unfold fUpto at e3
  split at e3
  · rename_i xs k
    split at e3
    · rename_i hl
      have fin : ∀ (vs : List Value) (l : Addr) (H : Heap) (t : Tok) (tk : Nat), Kp X s.heap H → Inv c.hb c.B c.X₀ c.env H ps' X → RepL X H vs xs →
          Q (.ref (H.objs.size + 1)) { s with heap := (H.push { cls := .type "slice", data := .fields #[.none, .int k t, .none] }).push { cls := .type "list", data := .seq (slicePick vs.toArray none (some k) none) }, toks := tk } := by
        intro vs l H t tk kk i' hr
        have kp : Kp [] H ((H.push { cls := .type "slice", data := .fields #[.none, .int k t, .none] }).push { cls := .type "list", data := .seq (slicePick vs.toArray none (some k) none) }) := (Kp.push _).trans (Kp.push _)
        refine hQ _ _ tk (kk.trans kp.nil) (i'.kp kp) ?_
        have hnew : H.objs.size + 1 ∉ X := fun m => by
          obtain ⟨o, e⟩ := i'.live _ m
          exact absurd (Nat.lt_of_succ_lt (Heap.lt_size e)) (Nat.lt_irrefl _)
        have hsz : (H.push { cls := .type "slice", data := .fields #[.none, .int k t, .none] }).objs.size = H.objs.size + 1 := Heap.size_push ..
        split at e3
        · rename_i h0
          cases e3
          simp only [Rep]
          refine ⟨_, vs.take k.toNat, rfl, hnew, ⟨_, by rw [← hsz]; exact get_size _ _ rfl, rfl, 0, ?_⟩, (hr.take k.toNat).kp kp.nil⟩
          obtain ⟨n, rfl⟩ := Int.eq_ofNat_of_zero_le h0
          rw [slicePick_upto']
          simp
        · rename_i h0
          cases e3
          simp only [Rep]
          refine ⟨_, vs.take (xs.length - (-k).toNat), rfl, hnew, ⟨_, by rw [← hsz]; exact get_size _ _ rfl, rfl, 0, ?_⟩, (hr.take _).kp kp.nil⟩
          obtain ⟨n, hn⟩ := Int.eq_ofNat_of_zero_le (show 0 ≤ -k by omega)
          obtain rfl : k = -(n : Int) := by omega
          rw [slicePick_butLast _ _ (by omega)]
          simp [hr.length]
      refine wpAny_Subscript_list_slice ?_ hv
      refine h1 s X ps _ ps₁ _ _ i e1 fun a h₁ tk₁ k₁ i₁ r₁ => ?_
      rw [evalPart_none]
      refine wpAny_pure ?_
      rw [evalPart_some]
      refine h2 _ X ps₁ _ ps' _ _ i₁ e2 fun b h₂ tk₂ k₂ i₂ r₂ => ?_
      have r₁' := r₁.kp k₂
      simp only [Rep] at r₁'
      obtain ⟨l, vs, rfl, hlX, hls, hr⟩ := r₁'
      obtain ⟨t, rfl⟩ := rep_int.mp r₂
      refine ⟨l, _, none, some k, rfl, hls, ?_, .none, .int _ _, ?_⟩
      · have := sizeLine_eq; rw [List.size_toArray, hr.length]; omega
      · exact fin vs l h₂ t tk₂ (k₁.trans k₂) i₂ hr
    · cases e3
  · cases e3

theorem fm_congr {α β : Type} {f g : α → Option β} : ∀ {l : List α}, (∀ x ∈ l, f x = g x) → l.filterMap f = l.filterMap g
  | [], _ => rfl
  | x :: l, h => by
    rw [List.filterMap_cons, List.filterMap_cons, h x (.head _), fm_congr fun y hy => h y (.tail _ hy)]
theorem range_map_rev {α : Type} (xs : List α) : ((List.range xs.length).map fun i => xs.length - 1 - i).filterMap (xs[·]?) = xs.reverse := by
  induction xs with
  | nil => rfl
  | cons x xs ih =>
    rw [List.reverse_cons, ← ih, List.length_cons, List.range_succ, List.map_append, List.filterMap_append]
    congr 1
    · rw [List.filterMap_map, List.filterMap_map]
      apply fm_congr
      intro i hi
      have := List.mem_range.mp hi
      show (x :: xs)[xs.length + 1 - 1 - i]? = xs[xs.length - 1 - i]?
      have e : xs.length + 1 - 1 - i = (xs.length - 1 - i) + 1 := by omega
      rw [e, List.getElem?_cons_succ]
    · simp
theorem slicePick_rev (items : Array Value) : slicePick items none none (some (-1)) = items.toList.reverse.toArray := by
  unfold slicePick
  congr 1
  have : sliceRange (sliceBounds none none (some (-1)) items.size).1 (sliceBounds none none (some (-1)) items.size).2.1 (sliceBounds none none (some (-1)) items.size).2.2 = (List.range items.toList.length).map fun i => items.toList.length - 1 - i := by
    have b : sliceBounds none none (some (-1)) items.size = ((items.size : Int) - 1, -1, -1) := rfl
    rw [b]
    have hc : (if (items.size : Int) - 1 > -1 then ((items.size : Int) - 1 - -1 - -1 - 1) / (- -1) else 0).toNat = items.size := by
      have : (- -1 : Int) = 1 := rfl
      rw [this, Int.ediv_one]
      split <;> omega
    show (List.range (if (items.size : Int) - 1 > -1 then ((items.size : Int) - 1 - -1 - -1 - 1) / (- -1) else 0).toNat).map _ = _
    rw [hc]
    have : items.toList.length = items.size := by simp
    rw [this]
    apply List.map_congr_left
    intro i hi
    have := List.mem_range.mp hi
    dsimp only
    omega
  rw [this]
  have e2 : (fun x : Nat => items[x]?) = (fun x : Nat => items.toList[x]?) := by funext x; simp
  rw [e2]
  exact range_map_rev items.toList

/-- p[::-1] -/
noncomputable def fRev : PV → Option PV
  | .lst xs => if xs.length ≤ 2 ^ 20 then some (.lst xs.reverse) else none
  | _ => none
theorem ev_rev {value st : Expr} {pp pos : Pos} {p : PE PV} (h1 : EV c value p) (h2 : EV c st (pK (.int (-1)))) (hv : ∀ o r, letTemporaryGo value o r = pure () := by intro _ _; rfl) :
    EV c (.Subscript value (.Slice none none (some st) pp) pos) (pUn fRev p) := by
  intro s X ps d ps' Q E i hp hQ
  obtain ⟨x, e1, e3⟩ := pUn_inv hp
  unfold fRev at e3
  split at e3
  · rename_i xs
    split at e3
    · rename_i hl
      cases e3
      refine wpAny_Subscript_Slice_step (T := "list") list_getitem_lookup ?_ hv
      refine h1 s X ps _ ps' _ _ i e1 fun a h₁ tk₁ k₁ i₁ r₁ => ?_
      refine wpAny_Slice ?_
      rw [evalPart_none]
      refine wpAny_pure (wpAny_pure ?_)
      rw [evalPart_some]
      refine h2 _ X ps' _ ps' _ _ i₁ rfl fun b h₂ tk₂ k₂ i₂ r₂ => ?_
      have r₁' := r₁.kp k₂
      simp only [Rep] at r₁'
      obtain ⟨l, vs, rfl, hlX, hls, hr⟩ := r₁'
      obtain ⟨t, rfl⟩ := rep_int.mp r₂
      refine ⟨(hls.push _).typeIs, wpAny_getItem_list_slice (hls.push _) (Heap.IsSliceOf.new ..) .none .none (.int _ _) (by simp) ?_ (by have := sizeLine_eq; rw [List.size_toArray, hr.length]; omega)⟩
      rw [slicePick_rev, Heap.size_push]
      have kp : Kp [] h₂ ((h₂.push { cls := .type "slice", data := .fields #[.none, .none, .int (-1) t] }).push { cls := .type "list", data := .seq vs.toArray.toList.reverse.toArray }) := (Kp.push _).trans (Kp.push _)
      refine hQ _ _ tk₂ ((k₁.trans k₂).trans kp.nil) (i₂.kp kp) ?_
      have hnew : h₂.objs.size + 1 ∉ X := fun m => by
        obtain ⟨o, e⟩ := i₂.live _ m
        exact absurd (Nat.lt_of_succ_lt (Heap.lt_size e)) (Nat.lt_irrefl _)
      have hsz : (h₂.push { cls := .type "slice", data := .fields #[.none, .none, .int (-1) t] }).objs.size = h₂.objs.size + 1 := Heap.size_push ..
      simp only [Rep]
      exact ⟨_, vs.reverse, rfl, hnew, ⟨_, by rw [← hsz]; exact get_size _ _ rfl, rfl, 0, rfl⟩, hr.reverse.kp kp.nil⟩
    · cases e3
  · cases e3
end
end NN
end

section
open PySem PySem.W PyProof.Rows PySem.Calls PySem.Spec
set_option Elab.async false
set_option autoImplicit false
set_option maxRecDepth 100000

namespace NN
section
variable {c : Cx}

/-- a new list, pushed -/
theorem fresh_push {s : Shared} {X : List Addr} {ps' : PS} {h₁ : Heap} {tk : Nat} {vs : List Value} {ds : List PV} {Q : Value → Shared → Prop} (k₁ : Kp X s.heap h₁) (i₁ : Inv c.hb c.B c.X₀ c.env h₁ ps' X) (r₁ : RepL X h₁ vs ds)
    (hQ : ∀ a vs h' tk, s.heap.get? a = none → Kp X s.heap h' → Inv c.hb c.B c.X₀ c.env h' ps' X → Inv c.hb c.B c.X₀ c.env h' ps' (a :: X) → h'.PlainList a (List.toArray vs) → RepL (a :: X) h' vs ds → Q (.ref a) { s with heap := h', toks := tk }) :
    Q (.ref h₁.objs.size) { s with heap := h₁.push { cls := .type "list", data := .seq vs.toArray }, toks := tk } :=
  hQ _ vs _ tk (none_of_kp i₁ k₁ (size_none _)) (k₁.trans (Kp.push _)) (i₁.kp (Kp.push _)) (i₁.fresh (Kp.push _) (size_none _) ⟨0, get_size _ _ rfl⟩) ⟨0, get_size _ _ rfl⟩ ((r₁.fresh (size_none _)).kp (Kp.push _))

noncomputable def pCopy (p : PE PV) : PE (List PV) := fun ps => match p ps with
  | some (.lst xs, ps') => if xs.length ≤ 2 ^ 20 then some (xs, ps') else none
  | _ => none
/-- list(e) -/
theorem fv_copy {x : Str} {np pos : Pos} {e : Expr} {p : PE PV} (hn : NV c x (.type "list")) (h1 : EV c e p) (hs : starEach [e] c.env = [(false, eval e c.env)] := by rfl) :
    FV c (.Call (.Name x np) [e] [] pos) (pCopy p) := by
  intro s X ps ds ps' Q E i hp hQ
  unfold pCopy at hp
  split at hp
  · rename_i xs ps₁ e1
    split at hp
    · rename_i hl
      simp only [Option.some.injEq, Prod.mk.injEq] at hp
      obtain ⟨rfl, rfl⟩ := hp
      refine wpAny_Call_NameR (hn np s X ps _ _ i ?_)
      rw [hs]
      refine PyProof.Rows.callWith_type rfl (Calls.evalArgs_plain (Calls.spliced_cons ?_))
      refine h1 s X ps _ ps₁ _ _ i e1 fun v h' tk k i' r => Calls.spliced_nil ?_
      simp only [Rep] at r
      obtain ⟨l, vs, rfl, _, ⟨o, ho, hc, n, hd⟩, hr⟩ := r
      refine call_list_seq (hsz := by have := sizeLine_eq; rw [List.size_toArray, hr.length]; omega) l (.inl rfl) ho hc hd fun h'' c' hk hD => ?_
      have kk : Kp [] h' h'' := Kp.of hk
      exact hQ _ vs h'' tk (none_of_kp i' k (size_none _)) (k.trans kk.nil) (i'.kp kk) (i'.fresh kk (size_none _) ⟨c', hD⟩) ⟨c', hD⟩ ((hr.fresh (size_none _)).kp kk.nil)
    · cases hp
  · cases hp

noncomputable def pMulL (p q : PE PV) : PE (List PV) := fun ps => match p ps with
  | some (.lst [x], ps₁) => (match q ps₁ with
    | some (.int n, ps₂) => if n ≤ 2 ^ 20 ∧ -(2 ^ 20) ≤ n then some (List.replicate n.toNat x, ps₂) else none
    | _ => none)
  | _ => none
/-- [x] * n -/
theorem fv_mul {l r : Expr} {pos : Pos} {p q : PE PV} (h1 : EV c l p) (h2 : EV c r q) : FV c (.BinOp l .Mult r pos) (pMulL p q) := by
  intro s X ps ds ps' Q E i hp hQ
  unfold pMulL at hp
  split at hp
  · rename_i x ps₁ e1
    split at hp
    · rename_i n ps₂ e2
      split at hp
      · rename_i hn
        simp only [Option.some.injEq, Prod.mk.injEq] at hp
        obtain ⟨rfl, rfl⟩ := hp
        refine wpAny_BinOp (two_steps h1 h2 i e1 e2 fun a b h₁ tk k i₁ r₁ r₂ => ?_)
        obtain ⟨t, rfl⟩ := rep_int.mp r₂
        simp only [Rep] at r₁
        obtain ⟨l, vs, rfl, _, hls, hr⟩ := r₁
        obtain ⟨v, ws, rfl, hv, hw⟩ := hr.cons_inv
        obtain rfl := hw.nil_inv
        obtain ⟨⟨cls, d, data, sl⟩, ho, hcl, m, hd⟩ := id hls
        simp only at hcl hd
        subst hcl hd
        have hn' : n.toNat ≤ 2 ^ 20 := by omega
        have e : (List.replicate n.toNat [v]).flatten = List.replicate n.toNat v := by
          induction n.toNat with
          | zero => rfl
          | succ k ih => rw [List.replicate_succ, List.flatten_cons, ih]; rfl
        refine wpAny_binaryOp_repeat_ref (T := "list") (U := "int") (by decide) ⟨_, ho, rfl⟩ (fun s' => typeIs_int s' n t) noFill_list_mul F.fills_int_mul F.slot_int_rmul repeat_list F.slot_int_index.lookup
          (call_meets F.slot_int_rmul (typeIs_int _ n t) F.entry_int_rmul (F.args_int_rmul_2 _ _) (lm_int_rmul_list_any n t l [v].toArray m d sl)
            ⟨ho, rfl, ⟨_, ho, rfl⟩, call_meets F.slot_list_mul ⟨_, ho, rfl⟩ F.entry_list_mul (F.args_list_mul_2 _ _)
              (lm_list_mul_any l [v].toArray m d sl n t (by simp [Builtin.List.listFitsIndex]; omega) (by simp; omega) (by simp [Builtin.List.listTooLong, sizeLine]; omega))
              ⟨ho, ?_⟩⟩)
        rw [listMul_foldl_if]
        show Q (.ref h₁.objs.size) { s with heap := h₁.push { cls := .type "list", data := .seq (List.replicate n.toNat [v]).flatten.toArray }, toks := tk }
        rw [e]
        exact fresh_push (s := s) k i₁ (RepL.replicate hv n.toNat) hQ
      · cases hp
    · cases hp
  · cases hp

noncomputable def pAddL (p q : PE PV) : PE (List PV) := fun ps => match p ps with
  | some (.lst xs, ps₁) => (match q ps₁ with
    | some (.lst ys, ps₂) => if xs.length + ys.length ≤ 2 ^ 20 then some (xs ++ ys, ps₂) else none
    | _ => none)
  | _ => none
/-- a + b of two lists -/
theorem fv_add {l r : Expr} {pos : Pos} {p q : PE PV} (h1 : EV c l p) (h2 : EV c r q) : FV c (.BinOp l .Add r pos) (pAddL p q) := by
  intro s X ps ds ps' Q E i hp hQ
  unfold pAddL at hp
  split at hp
  · rename_i xs ps₁ e1
    split at hp
    · rename_i ys ps₂ e2
      split at hp
      · rename_i hn
        simp only [Option.some.injEq, Prod.mk.injEq] at hp
        obtain ⟨rfl, rfl⟩ := hp
        refine wpAny_BinOp (two_steps h1 h2 i e1 e2 fun a b h₁ tk k i₁ r₁ r₂ => ?_)
        simp only [Rep] at r₁ r₂
        obtain ⟨l, vs, rfl, _, hl, hr⟩ := r₁
        obtain ⟨l', ws, rfl, _, hl', hr'⟩ := r₂
        obtain ⟨⟨cls, dd, data, sl⟩, ho, hc, n, hd⟩ := id hl
        obtain ⟨⟨cls2, dd2, data2, sl2⟩, ho2, hc2, n2, hd2⟩ := id hl'
        simp only at hc hd hc2 hd2
        subst hc hd hc2 hd2
        have e : vs.toArray ++ ws.toArray = (vs ++ ws).toArray := by simp
        refine concat_meets ⟨_, ho, rfl⟩ ⟨_, ho2, rfl⟩ noFill_list_add seq_list_add PySem.F.slot_list_add PySem.F.entry_list_add (PySem.F.args_list_add_2 _ _)
          (list_addW l l' vs.toArray ws.toArray n n2 dd dd2 sl sl2 (by have := sizeLine_eq; simp only [List.size_toArray, hr.length, hr'.length]; omega)) ⟨ho, ho2, ?_⟩
        rw [e]
        exact fresh_push (s := s) k i₁ (hr.append hr') hQ
      · cases hp
    · cases hp
  · cases hp

/-! stores -/
theorem ofStr_inj {x y : String} (h : Str.ofString x = Str.ofString y) : x = y := by
  have e := congrArg (fun z : Str => z.cps) h
  rw [Str.ofString_eq_byList] at e
  unfold Str.ofStringByList at e
  simp only at e
  have e' : x.toList.map Char.toNat = y.toList.map Char.toNat := by simpa using e
  have : x.toList = y.toList := List.map_inj_right (fun a b h => Char.toNat_inj.mp h) |>.mp e'
  exact String.toList_inj.mp this

noncomputable def PS.set (ps : PS) (x : String) (d : PV) : PS := { ps with loc := fun y => if y = x then some d else ps.loc y }

section
variable {hb : Heap} {B : Addr → Obj → Prop} {X₀ : List Addr} {env : Env} {h h' : Heap} {ps : PS} {X : List Addr} {x : String} {v : Value} {m : Str → Option Value}

theorem Look.store (hk : env.kindOf (Str.ofString x) = some .local) (hn : h.Ns env.locals m) (hn' : h'.Ns env.locals (fun z => if z = Str.ofString x then some v else m z)) (hs : Heap.SameBut env.locals h h')
    (hc : ∀ y c, env.cells.lookup y = some c → c ≠ env.locals) {y : String} {u : Value} (l : Look env h (Str.ofString y) u) (hy : y ≠ x) : Look env h' (Str.ofString y) u := by
  obtain ⟨h1, h2, h3 | ⟨h4, c, h5, o, ho, hv⟩⟩ := l
  · obtain ⟨hl, m', ⟨o, es, ep, e, hd, _, hf⟩, hm⟩ := h3
    obtain ⟨o', es', ep', e', hd', _, hf'⟩ := hn
    rw [e] at e'; cases e'
    rw [hd] at hd'; cases hd'
    refine ⟨h1, h2, .inl ⟨hl, _, hn', ?_⟩⟩
    rw [if_neg (fun q => hy (ofStr_inj q)), ← hf', hf]
    exact hm
  · exact ⟨h1, h2, .inr ⟨h4, c, h5, o, (hs.2 c (hc _ _ h5)).trans ho, hv⟩⟩

theorem kp_local (hs : Heap.SameBut env.locals h h') : ∀ a o, a ≠ env.locals → h.get? a = some o → h'.get? a = some o := fun a _ n e => (hs.2 a n).trans e

/-- trees hold no frame -/
theorem rep_local (i : Inv hb B X₀ env h ps X) (hs : Heap.SameBut env.locals h h') : (∀ d v, Rep X h v d → Rep X h' v d) ∧ (∀ ds vs, RepL X h vs ds → RepL X h' vs ds) :=
  rep_move fun a o n e q => ⟨kp_local hs a o (by
    rintro rfl
    obtain ⟨m, o', _, _, e', hd, _⟩ := i.ns
    obtain ⟨_, _, q⟩ := q
    rw [e] at e'; cases e'; rw [hd] at q; cases q) e, n⟩

theorem plain_local (i : Inv hb B X₀ env h ps X) (hs : Heap.SameBut env.locals h h') {a : Addr} {vs : Array Value} (l : h.PlainList a vs) : h'.PlainList a vs := by
  obtain ⟨m, n⟩ := i.ns
  have ne := Look.ne_list n l.isList
  obtain ⟨q, e⟩ := l
  exact ⟨q, (hs.2 a ne).trans e⟩

/-- a name of the frame is stored -/
theorem Inv.store (i : Inv hb B X₀ env h ps X) (hf : env.scope.kind = .function) (hdb : ((Str.ofString x) == ("__debug__" : Str)) = false) (hk : env.kindOf (Str.ofString x) = some .local) (hn : h.Ns env.locals m)
    (hn' : h'.Ns env.locals (fun z => if z = Str.ofString x then some v else m z)) (hs : Heap.SameBut env.locals h h') {d : PV} (r : Rep X h v d) (h1 : ps.own ≠ some x) (h2 : ps.par ≠ some x) :
    Inv hb B X₀ env h' (ps.set x d) X := by
  have lk : ∀ {y : String} {u : Value}, Look env h (Str.ofString y) u → y ≠ x → Look env h' (Str.ofString y) u := fun l n => l.store hk hn hn' hs (fun y c hc => (i.offC y c hc).2.1) n
  have lx : Look env h' (Str.ofString x) v := ⟨hf, hdb, .inl ⟨hk, _, hn', by simp⟩⟩
  exact {
    base := fun a o b => kp_local hs a o (fun e => i.offB o (e ▸ b)) (i.base a o b)
    top := i.top, offB := i.offB, offX := i.offX
    offC := fun y c e => let ⟨q1, q2, v, o, ho, hd⟩ := i.offC y c e; ⟨q1, q2, v, o, kp_local hs c o q2 ho, hd⟩
    ns := ⟨_, hn'⟩
    x0 := i.x0
    mark := fun a q => (i.mark a q).imp id fun ⟨vs, p⟩ => ⟨vs, plain_local i hs p⟩
    xB := i.xB
    offH := i.offH
    frz := fun y d' e q1 q2 => by
      by_cases hy : y = x
      · subst hy
        simp only [PS.set, if_true, Option.some.injEq] at e
        subst e
        exact ⟨v, lx, (rep_local i hs).1 _ _ r⟩
      · simp only [PS.set, hy, if_false] at e
        obtain ⟨u, l, ru⟩ := i.frz y d' e q1 q2
        exact ⟨u, lk l hy, (rep_local i hs).1 _ _ ru⟩
    own := fun y e => by
      have hy : y ≠ x := fun q => h1 (q ▸ e)
      obtain ⟨a, vs, ds, e1, l, e2, e3, e4, e5, e6⟩ := i.own y e
      exact ⟨a, vs, ds, by simp only [PS.set, hy, if_false]; exact e1, lk l hy, e2, e3, e4, plain_local i hs e5, (rep_local i hs).2 _ _ e6⟩
    par := fun y e => by
      have hy : y ≠ x := fun q => h2 (q ▸ e)
      obtain ⟨a, vs, ds, e1, l, e2, e4, e5, e6⟩ := i.par y e
      exact ⟨a, vs, ds, by simp only [PS.set, hy, if_false]; exact e1, lk l hy, e2, e4, plain_local i hs e5, (rep_local i hs).2 _ _ e6⟩ }

/-- a new list of one's own is stored -/
theorem Inv.storeOwn {a : Addr} {vs : List Value} {ds : List PV} (i : Inv hb B X₀ env h ps (a :: X)) (i' : Inv hb B X₀ env h ps X) (hf : env.scope.kind = .function) (hdb : ((Str.ofString x) == ("__debug__" : Str)) = false) (hk : env.kindOf (Str.ofString x) = some .local) (hn : h.Ns env.locals m)
    (hn' : h'.Ns env.locals (fun z => if z = Str.ofString x then some (.ref a) else m z)) (hs : Heap.SameBut env.locals h h') (hx : a ∉ X) (hB : ∀ o, ¬ B a o) (hp : h.PlainList a vs.toArray) (r : RepL (a :: X) h vs ds) (h1 : ps.own = none) (h2 : ps.par ≠ some x) :
    Inv hb B X₀ env h' { ps.set x (.lst ds) with own := some x } (a :: X) := by
  have lk : ∀ {y : String} {u : Value}, Look env h (Str.ofString y) u → y ≠ x → Look env h' (Str.ofString y) u := fun l n => l.store hk hn hn' hs (fun y c hc => (i.offC y c hc).2.1) n
  have lx : Look env h' (Str.ofString x) (.ref a) := ⟨hf, hdb, .inl ⟨hk, _, hn', by simp⟩⟩
  exact {
    base := fun a o b => kp_local hs a o (fun e => i.offB o (e ▸ b)) (i.base a o b)
    top := i.top, offB := i.offB, offX := i.offX
    offC := fun y c e => let ⟨q1, q2, v, o, ho, hd⟩ := i.offC y c e; ⟨q1, q2, v, o, kp_local hs c o q2 ho, hd⟩
    ns := ⟨_, hn'⟩
    x0 := i.x0
    mark := fun a q => (i.mark a q).imp id fun ⟨vs, p⟩ => ⟨vs, plain_local i hs p⟩
    xB := i.xB
    offH := i.offH
    frz := fun y d' e q1 q2 => by
      have hy : y ≠ x := fun q => q1 (by rw [q])
      simp only [PS.set, hy, if_false] at e
      obtain ⟨u, l, ru⟩ := i.frz y d' e (by rw [h1]; simp) q2
      exact ⟨u, lk l hy, (rep_local i hs).1 _ _ ru⟩
    own := fun y e => by
      simp only [Option.some.injEq] at e
      subst e
      exact ⟨a, vs, ds, by simp [PS.set], lx, List.mem_cons_self, fun q => hx (i'.x0 a q), hB, plain_local i hs hp, (rep_local i hs).2 _ _ r⟩
    par := fun y e => by
      have hy : y ≠ x := fun q => h2 (q ▸ e)
      obtain ⟨b, us, es, e1, l, e2, e4, e5, e6⟩ := i.par y e
      exact ⟨b, us, es, by simp only [PS.set, hy, if_false]; exact e1, lk l hy, e2, e4, plain_local i hs e5, (rep_local i hs).2 _ _ e6⟩ }

/-- the list of one's own is let go of: all is a tree again -/
noncomputable def PS.freeze (ps : PS) : PS := { ps with own := none }
theorem Inv.freeze (i : Inv hb B X₀ env h ps X) : Inv hb B X₀ env h ps.freeze X₀ where
  base := i.base
  top := i.top
  offB := i.offB
  offX := fun m => i.offX (i.x0 _ m)
  offC := fun x c e => let ⟨h1, h2, h3⟩ := i.offC x c e; ⟨fun m => h1 (i.x0 _ m), h2, h3⟩
  ns := i.ns
  x0 := fun _ m => m
  mark := fun a m => i.mark a (i.x0 a m)
  xB := fun a m => .inl m
  offH := fun a m => i.offH a (i.x0 a m)
  frz := fun x d e h1 h2 => by
    by_cases ho : ps.own = some x
    · obtain ⟨a, vs, ds, e1, l, e2, e3, e4, e5, e6⟩ := i.own x ho
      rw [show ps.freeze.loc x = ps.loc x from rfl, e1] at e
      cases e
      exact ⟨_, l, by simp only [Rep]; exact ⟨a, vs, rfl, e3, e5.isList, e6.anti i.x0⟩⟩
    · obtain ⟨v, l, r⟩ := i.frz x d e ho h2
      exact ⟨v, l, r.anti i.x0⟩
  own := fun x e => by cases e
  par := fun x e => let ⟨a, vs, ds, h1, l, h2, h4, h5, h6⟩ := i.par x e; ⟨a, vs, ds, h1, l, h2, h4, h5, h6.anti i.x0⟩
end

/-! statements -/
inductive PF where
  | next
  | cont
  | ret (d : PV)

noncomputable def FRep (X : List Addr) (h : Heap) : Flow → PF → Prop
  | .next, .next => True
  | .cont, .cont => True
  | .ret v, .ret d => Rep X h v d
  | _, _ => False

noncomputable abbrev PSt := PS → Option (PF × PS)

noncomputable def SV (c : Cx) (st : Stmt) (p : PSt) : Prop :=
  ∀ (s : Shared) (X : List Addr) (ps : PS) (o : PF) (ps' : PS) (Q : Flow → Shared → Prop) (E : Value → Shared → Prop),
    Inv c.hb c.B c.X₀ c.env s.heap ps X → p ps = some (o, ps') →
    (∀ fl h' tk X', Inv c.hb c.B c.X₀ c.env h' ps' X' → FRep c.X₀ h' fl o → Q fl { s with heap := h', toks := tk }) →
    wpAny (model pw c.w) c.A (exec st c.env) Q E s
noncomputable def SSV (c : Cx) (sts : List Stmt) (p : PSt) : Prop :=
  ∀ (s : Shared) (X : List Addr) (ps : PS) (o : PF) (ps' : PS) (Q : Flow → Shared → Prop) (E : Value → Shared → Prop),
    Inv c.hb c.B c.X₀ c.env s.heap ps X → p ps = some (o, ps') →
    (∀ fl h' tk X', Inv c.hb c.B c.X₀ c.env h' ps' X' → FRep c.X₀ h' fl o → Q fl { s with heap := h', toks := tk }) →
    wpAny (model pw c.w) c.A (execs sts c.env) Q E s

noncomputable def pEnd : PSt := fun ps => some (.next, ps)
noncomputable def pSeq (p q : PSt) : PSt := fun ps => match p ps with
  | none => none
  | some (.next, ps') => q ps'
  | some (o, ps') => some (o, ps')
theorem ssv_nil : SSV c [] pEnd := by
  intro s X ps o ps' Q E i hp hQ
  cases hp
  exact wpAny_execs_nil (hQ .next s.heap s.toks X i trivial)
theorem ssv_cons {st : Stmt} {sts : List Stmt} {p q : PSt} (h1 : SV c st p) (h2 : SSV c sts q) : SSV c (st :: sts) (pSeq p q) := by
  intro s X ps o ps' Q E i hp hQ
  unfold pSeq at hp
  cases e : p ps with
  | none => rw [e] at hp; cases hp
  | some r =>
    obtain ⟨o₁, ps₁⟩ := r
    rw [e] at hp
    refine wpAny_execs_cons (h1 s X ps o₁ ps₁ _ _ i e fun fl h' tk X' i' r => ?_)
    cases o₁ with
    | next =>
      cases fl with
      | next => exact h2 _ X' ps₁ o ps' Q E i' hp fun fl h'' tk' X'' i'' r' => hQ fl h'' tk' X'' i'' r'
      | _ => cases r
    | cont =>
      cases hp
      cases fl with
      | cont => exact hQ _ h' tk X' i' r
      | _ => cases r
    | ret d =>
      cases hp
      cases fl with
      | ret v => exact hQ _ h' tk X' i' r
      | _ => cases r

noncomputable def pRet (p : PE PV) : PSt := fun ps => (p ps.freeze).map fun r => (.ret r.1, r.2)
theorem sv_ret {e : Expr} {pos : Pos} {p : PE PV} (h1 : EV c e p) : SV c (.Return (some e) pos) (pRet p) := by
  intro s X ps o ps' Q E i hp hQ
  unfold pRet at hp
  simp only [Option.map_eq_some_iff, Prod.mk.injEq] at hp
  obtain ⟨⟨d, ps₁⟩, e1, rfl, rfl⟩ := hp
  refine wpAny_Return_some (h1 s c.X₀ ps.freeze d ps₁ _ _ i.freeze e1 fun v h' tk k i' r => hQ (.ret v) h' tk _ i' r)

noncomputable def pCont : PSt := fun ps => some (.cont, ps)
theorem sv_cont {pos : Pos} : SV c (.Continue pos) pCont := by
  intro s X ps o ps' Q E i hp hQ
  cases hp
  exact wpAny_Continue (hQ .cont s.heap s.toks X i trivial)

noncomputable def pStIf (t : PE Bool) (p q : PSt) : PSt := fun ps => match t ps with
  | none => none
  | some (true, ps') => p ps'
  | some (false, ps') => q ps'
theorem sv_if {e : Expr} {bs os : List Stmt} {pos : Pos} {t : PE Bool} {p q : PSt} (ht : TV c e t) (h1 : SSV c bs p) (h2 : SSV c os q) : SV c (.If e bs os pos) (pStIf t p q) := by
  intro s X ps o ps' Q E i hp hQ
  unfold pStIf at hp
  split at hp
  · cases hp
  · rename_i ps₁ e1
    refine wpAny_If (ht s X ps _ _ _ _ i e1 fun h' tk k i' => ?_)
    exact h1 _ X ps₁ o ps' _ _ i' hp fun fl h'' tk' X' i'' r => hQ fl h'' tk' X' i'' r
  · rename_i ps₁ e1
    refine wpAny_If (ht s X ps _ _ _ _ i e1 fun h' tk k i' => ?_)
    exact h2 _ X ps₁ o ps' _ _ i' hp fun fl h'' tk' X' i'' r => hQ fl h'' tk' X' i'' r
end
end NN
end

section
open PySem PySem.W PyProof.Rows PySem.Calls PySem.Spec
set_option Elab.async false
set_option autoImplicit false
set_option maxRecDepth 100000

namespace NN
section
variable {c : Cx}

/-- a name that the frame stores -/
structure SN (env : Env) (x : String) : Prop where
  k : env.kindOf (Str.ofString x) = some .local
  f : env.scope.kind = .function
  d : (Str.ofString x == ("__debug__" : Str)) = false

theorem SN.hp {env : Env} {x : String} (n : SN env x) : (env.scope.kind == .class || (env.scope.kind == .module && env.locals != env.globals)) = false := by rw [n.f]; rfl

/-- the store of a tree -/
theorem store_tree {x : String} (n : SN c.env x) {s : Shared} {X : List Addr} {ps : PS} {v : Value} {d : PV} {Q : Unit → Shared → Prop} {E : Value → Shared → Prop} (i : Inv c.hb c.B c.X₀ c.env s.heap ps X) (r : Rep X s.heap v d)
    (h1 : ps.own ≠ some x) (h2 : ps.par ≠ some x)
    (hQ : ∀ h' tk, Inv c.hb c.B c.X₀ c.env h' (ps.set x d) X → Heap.SameBut c.env.locals s.heap h' → Q () { s with heap := h', toks := tk }) : wpAny (model pw c.w) c.A (storeName c.env (Str.ofString x) v) Q E s := by
  obtain ⟨m, hn⟩ := i.ns
  exact wpAny_storeName_local n.k hn (fun h' hn' hs => hQ h' _ (i.store n.f n.d n.k hn hn' hs r h1 h2) hs) n.hp

noncomputable def pPut (x : String) (ps : PS) (d : PV) : Option PS := if ps.own = some x ∨ ps.par = some x then none else some (ps.set x d)
theorem pPut_inv {x : String} {ps ps' : PS} {d : PV} (h : pPut x ps d = some ps') : ps.own ≠ some x ∧ ps.par ≠ some x ∧ ps' = ps.set x d := by
  unfold pPut at h
  split at h
  · cases h
  · rename_i q
    cases h
    exact ⟨fun e => q (.inl e), fun e => q (.inr e), rfl⟩

noncomputable def pAssign (x : String) (p : PE PV) : PSt := fun ps => match p ps with
  | none => none
  | some (d, ps₁) => (pPut x ps₁ d).map fun ps₂ => (.next, ps₂)
theorem sv_assign {x : String} {np pos : Pos} {e : Expr} {p : PE PV} (n : SN c.env x) (h1 : EV c e p) (hs : swapsWith e (some (.Name (Str.ofString x) np)) pos.line c.env = pure false := by rfl) :
    SV c (.Assign [.Name (Str.ofString x) np] e pos) (pAssign x p) := by
  intro s X ps o ps' Q E i hp hQ
  unfold pAssign at hp
  cases e1 : p ps with
  | none => rw [e1] at hp; cases hp
  | some r =>
    obtain ⟨d, ps₁⟩ := r
    rw [e1] at hp
    simp only [Option.map_eq_some_iff, Prod.mk.injEq] at hp
    obtain ⟨ps₂, e2, rfl, rfl⟩ := hp
    obtain ⟨q1, q2, rfl⟩ := pPut_inv e2
    refine wpAny_Assign_Name (h1 s X ps d ps₁ _ _ i e1 fun v h' tk k i' r => ?_) hs
    exact store_tree n i' r q1 q2 fun h'' tk' i'' _ => hQ .next h'' tk' X i'' trivial

noncomputable def pAssignO (x : String) (q : PE (List PV)) : PSt := fun ps => match q ps with
  | none => none
  | some (ds, ps₁) => if ps₁.own = none ∧ ps₁.par ≠ some x then some (.next, { ps₁.set x (.lst ds) with own := some x }) else none

theorem store_own {x : String} (n : SN c.env x) {s : Shared} {X : List Addr} {ps : PS} {a : Addr} {vs : List Value} {ds : List PV} {Q : Unit → Shared → Prop} {E : Value → Shared → Prop} {h₀ : Heap} (f : h₀.get? a = none) (kk : Kp X h₀ s.heap) (i0 : Inv c.hb c.B c.X₀ c.env s.heap ps X)
    (hb0 : ∀ b o, c.B b o → h₀.get? b = some o) (hX0 : ∀ b ∈ X, ∃ o, h₀.get? b = some o) (j : Inv c.hb c.B c.X₀ c.env s.heap ps (a :: X)) (l : s.heap.PlainList a (List.toArray vs)) (r : RepL (a :: X) s.heap vs ds)
    (h1 : ps.own = none) (h2 : ps.par ≠ some x)
    (hQ : ∀ h' tk, Inv c.hb c.B c.X₀ c.env h' { ps.set x (.lst ds) with own := some x } (a :: X) → Heap.SameBut c.env.locals s.heap h' → Q () { s with heap := h', toks := tk }) : wpAny (model pw c.w) c.A (storeName c.env (Str.ofString x) (.ref a)) Q E s := by
  obtain ⟨m, hn⟩ := i0.ns
  refine wpAny_storeName_local n.k hn (fun h' hn' hs => hQ h' _ (j.storeOwn i0 n.f n.d n.k hn hn' hs ?_ ?_ l r h1 h2) hs) n.hp
  · intro m
    obtain ⟨o, e⟩ := hX0 a m
    rw [f] at e; cases e
  · intro o b
    have := hb0 a o b
    rw [f] at this; cases this

theorem sv_assign_own {x : String} {np pos : Pos} {e : Expr} {q : PE (List PV)} (n : SN c.env x) (h1 : FV c e q) (hs : swapsWith e (some (.Name (Str.ofString x) np)) pos.line c.env = pure false := by rfl) :
    SV c (.Assign [.Name (Str.ofString x) np] e pos) (pAssignO x q) := by
  intro s X ps o ps' Q E i hp hQ
  unfold pAssignO at hp
  cases e1 : q ps with
  | none => rw [e1] at hp; cases hp
  | some r =>
    obtain ⟨ds, ps₁⟩ := r
    rw [e1] at hp
    simp only at hp
    split at hp
    · rename_i hc
      simp only [Option.some.injEq, Prod.mk.injEq] at hp
      obtain ⟨rfl, rfl⟩ := hp
      refine wpAny_Assign_Name (h1 s X ps ds ps₁ _ _ i e1 fun a vs h' tk f k i' j l r => ?_) hs
      exact store_own n f k i' i.base i.live j l r hc.1 hc.2 fun h'' tk' i'' _ => hQ .next h'' tk' _ i'' trivial
    · cases hp

/-! the owned list is changed -/
section
variable {hb : Heap} {B : Addr → Obj → Prop} {X₀ : List Addr} {env : Env} {h h' : Heap} {ps : PS} {X : List Addr} {x : String}

theorem Inv.upd2 (i : Inv hb B X₀ env h ps X) (hx : ps.own = some x ∨ ps.par = some x) {a : Addr} (l : Look env h (Str.ofString x) (.ref a)) (hs : ∀ b o, b ≠ a → h.get? b = some o → h'.get? b = some o) {vs : List Value} {ds : List PV}
    (hp : h'.PlainList a vs.toArray) (r : RepL X h' vs ds) : Inv hb B X₀ env h' (ps.set x (.lst ds)) X := by
  have ha : a ∈ X ∧ (∀ o, ¬ B a o) ∧ ∃ us, h.PlainList a us := by
    rcases hx with hx | hx
    · obtain ⟨b, us, es, e1, l', e2, e3, e4, e5, e6⟩ := i.own x hx
      have := l.det l'; cases this
      exact ⟨e2, e4, _, e5⟩
    · obtain ⟨b, us, es, e1, l', e2, e4, e5, e6⟩ := i.par x hx
      have := l.det l'; cases this
      exact ⟨i.x0 _ (List.mem_of_head? e2), e4, _, e5⟩
  obtain ⟨haX, haB, us, hus⟩ := ha
  have k : Kp X h h' := fun b o n e => hs b o (fun q => n (q ▸ haX)) e
  have lk : ∀ {y : Str} {u : Value}, Look env h y u → Look env h' y u := fun l => l.kp k i.offX (fun y c hc => (i.offC y c hc).1)
  have pl : ∀ {b : Addr} {us : Array Value}, b ≠ a → h.PlainList b us → h'.PlainList b us := fun n ⟨q, e⟩ => ⟨q, hs _ _ n e⟩
  exact {
    base := fun b o q => hs b o (fun e => haB o (e ▸ q)) (i.base b o q)
    top := i.top, offB := i.offB, offX := i.offX
    offC := fun y c e => let ⟨q1, q2, v, o, ho, hd⟩ := i.offC y c e; ⟨q1, q2, v, o, k _ _ q1 ho, hd⟩
    ns := let ⟨m, o, es, ep, e, q⟩ := i.ns; ⟨m, o, es, ep, k _ _ i.offX e, q⟩
    x0 := i.x0
    mark := fun b m => by
      by_cases q : b = a
      · subst q; exact .inr ⟨_, hp⟩
      · exact (i.mark b m).imp id fun ⟨us, p⟩ => ⟨us, pl q p⟩
    xB := i.xB
    offH := i.offH
    frz := fun y d e q1 q2 => by
      have hy : y ≠ x := fun q => by subst q; exact hx.elim q1 q2
      simp only [PS.set, hy, if_false] at e
      obtain ⟨u, lu, ru⟩ := i.frz y d e q1 q2
      exact ⟨u, lk lu, ru.kp k⟩
    own := fun y e => by
      by_cases hy : y = x
      · subst hy
        obtain ⟨b, us, es, e1, l', e2, e3, e4, e5, e6⟩ := i.own y e
        have := l.det l'; cases this
        exact ⟨a, vs, ds, by simp [PS.set], lk l, e2, e3, e4, hp, r⟩
      · obtain ⟨b, us, es, e1, l', e2, e3, e4, e5, e6⟩ := i.own y e
        have hb : b ≠ a := by
          rintro rfl
          rcases hx with hx | hx
          · rw [show ps.own = some y from e] at hx; exact hy (Option.some.inj hx)
          · obtain ⟨b', us', es', f1, l'', f2, f4, f5, f6⟩ := i.par x hx
            have := l.det l''; cases this
            exact e3 (List.mem_of_head? f2)
        exact ⟨b, us, es, by simp only [PS.set, hy, if_false]; exact e1, lk l', e2, e3, e4, pl hb e5, e6.kp k⟩
    par := fun y e => by
      by_cases hy : y = x
      · subst hy
        obtain ⟨b, us, es, e1, l', e2, e4, e5, e6⟩ := i.par y e
        have := l.det l'; cases this
        exact ⟨a, vs, ds, by simp [PS.set], lk l, e2, e4, hp, r⟩
      · obtain ⟨b, us, es, e1, l', e2, e4, e5, e6⟩ := i.par y e
        have hb : b ≠ a := by
          rintro rfl
          rcases hx with hx | hx
          · obtain ⟨b', us', es', f1, l'', f2, f3, f4, f5, f6⟩ := i.own x hx
            have := l.det l''; cases this
            exact f3 (List.mem_of_head? e2)
          · rw [show ps.par = some y from e] at hx; exact hy (Option.some.inj hx)
        exact ⟨b, us, es, by simp only [PS.set, hy, if_false]; exact e1, lk l', e2, e4, pl hb e5, e6.kp k⟩ }

theorem Inv.upd (i : Inv hb B X₀ env h ps X) (hx : ps.own = some x ∨ ps.par = some x) {a : Addr} (l : Look env h (Str.ofString x) (.ref a)) (hs : Heap.SameBut a h h') {vs : List Value} {ds : List PV}
    (hp : h'.PlainList a vs.toArray) (r : RepL X h vs ds) : Inv hb B X₀ env h' (ps.set x (.lst ds)) X := by
  have haX : a ∈ X := by
    rcases hx with hx | hx
    · obtain ⟨b, us, es, e1, l', e2, e3, e4, e5, e6⟩ := i.own x hx
      have := l.det l'; cases this
      exact e2
    · obtain ⟨b, us, es, e1, l', e2, e4, e5, e6⟩ := i.par x hx
      have := l.det l'; cases this
      exact i.x0 _ (List.mem_of_head? e2)
  exact i.upd2 hx l (fun b o n e => (hs.2 b n).trans e) hp (r.kp fun b o n e => (hs.2 b (fun q => n (q ▸ haX))).trans e)

/-- what an owned name says -/
theorem Inv.mine (i : Inv hb B X₀ env h ps X) (hx : ps.own = some x ∨ ps.par = some x) {ds : List PV} (e : ps.loc x = some (.lst ds)) : ∃ a vs, Look env h (Str.ofString x) (.ref a) ∧ h.PlainList a (List.toArray vs) ∧ RepL X h vs ds := by
  rcases hx with hx | hx
  · obtain ⟨a, vs, es, e1, l, _, _, _, h5, h6⟩ := i.own x hx
    rw [e] at e1; cases e1
    exact ⟨a, vs, l, h5, h6⟩
  · obtain ⟨a, vs, es, e1, l, _, _, h5, h6⟩ := i.par x hx
    rw [e] at e1; cases e1
    exact ⟨a, vs, l, h5, h6⟩
end

/-- l[k] = v of a plain list: it stays plain -/
theorem setItem_plain {A : Around} {w : World} {l : Addr} {items : Array Value} {k : Int} {t : Tok} {v : Value} {s : Shared} {Q : Unit → Shared → Prop} {E : Value → Shared → Prop} (hl : s.heap.PlainList l items)
    (h0 : 0 ≤ k) (hfit : k < 2 ^ 63) (hn : k.toNat < items.size)
    (hQ : ∀ h', h'.PlainList l (items.setIfInBounds k.toNat v) → Heap.SameBut l s.heap h' → Q () { s with heap := h' }) :
    wpAny (model pw w) A (setItem (.ref l) (.int k t) v) Q E s := by
  have hL := hl.isList
  obtain ⟨n, ho⟩ := hl
  have hidx := fitsIndex_of h0 hfit
  clear hfit
  unfold setItem
  try with_reducible refine wpAny_holding ?_
  first | refine wpAny_bind (wpAny_pure ?_) | skip
  refine wpAny_bind (wpAny_sequenceKey hL.typeIs (by decide) ?_)
  refine wpAny_bind (wpAny_callSpecial?_slot (name := Str.ofString "__setitem__") hL.typeIs slot_list_setitem
    (wpAny_call_entry slot_list_setitem hL.typeIs entry_list_setitem ?_ (args_list_setitem _ _ _)))
  show wpAny _ _ (Builtin.List.listSubscript? (.int k t) >>= _) _ _ s
  refine wpAny_bind (wpAny_listSubscript_int hidx ?_)
  clear hidx
  obtain ⟨j, rfl⟩ := Int.eq_ofNat_of_zero_le h0
  have hj : j < items.size := hn
  show wpAny _ _ ((seqItemAt l j >>= fun r => pure (r.map (j, ·))) >>= _) _ _ s
  refine wpAny_bind (wpAny_bind (wpAny_seqItemAt ho rfl (wpAny_pure ?_)))
  rw [Array.getElem?_eq_getElem hj]
  show wpAny _ _ (setSeqItemAt l j v >>= _) _ _ s
  have em : Obj.mapSeq (·.setIfInBounds j v) { cls := .type "list", data := .seq items n } = { cls := .type "list", data := .seq (items.setIfInBounds j v) n } := by
    simp [Obj.mapSeq]
  have hfin : (s.heap.update l (Obj.mapSeq (·.setIfInBounds j v))).PlainList l (items.setIfInBounds j v) :=
    ⟨n, by rw [Heap.get?_update_self _ ho (by rw [em]; rfl), em]⟩
  refine wpAny_bind (wpAny_setSeqItemAt ho rfl ?_)
  first
    | exact wpAny_bind (wpAny_pure (wpAny_pure ⟨.none, rfl, wpAny_pure (hQ _ hfin (Heap.SameBut.update ..))⟩))
    | exact wpAny_pure ⟨.none, rfl, wpAny_pure (hQ _ hfin (Heap.SameBut.update ..))⟩

noncomputable def pSetItem (x : String) (q : PE PV) (p : PE PV) : PSt := fun ps => match p ps with
  | none => none
  | some (d, ps₁) => if (ps₁.loc x).isSome then (match q ps₁ with
    | some (.int k, ps₂) => (match ps₂.loc x with
      | some (.lst ds) => if (ps₂.own = some x ∨ ps₂.par = some x) ∧ 0 ≤ k ∧ k.toNat < ds.length ∧ ds.length ≤ 2 ^ 20 then some (.next, ps₂.set x (.lst (ds.set k.toNat d))) else none
      | _ => none)
    | _ => none) else none
theorem sv_setItem {x : String} {np sp pos : Pos} {ie e : Expr} {q p : PE PV} (h1 : EV c e p) (h2 : EV c ie q) (hs : swapsWith e (some (.Subscript (.Name (Str.ofString x) np) ie sp)) pos.line c.env = pure false := by rfl) :
    SV c (.Assign [.Subscript (.Name (Str.ofString x) np) ie sp] e pos) (pSetItem x q p) := by
  intro s X ps o ps' Q E i hp hQ
  unfold pSetItem at hp
  cases e1 : p ps with
  | none => rw [e1] at hp; cases hp
  | some r =>
    obtain ⟨d, ps₁⟩ := r
    rw [e1] at hp
    simp only at hp
    split at hp
    · rename_i h0
      obtain ⟨d₀, h0⟩ := Option.isSome_iff_exists.mp h0
      split at hp
      · rename_i k ps₂ e2
        split at hp
        · rename_i ds e3
          split at hp
          · rename_i hc
            simp only [Option.some.injEq, Prod.mk.injEq] at hp
            obtain ⟨rfl, rfl⟩ := hp
            obtain ⟨hx, hk0, hkl, hl⟩ := hc
            refine wpAny_Assign_Subscript (h1 s X ps d ps₁ _ _ i e1 fun v h' tk k₁ i' r => ?_) hs
            refine name_then (s := { s with heap := h', toks := tk }) h2 i' h0 e2 e3 fun a b h₂ tk₂ k₂ i₂ _ la rb => ?_
            obtain ⟨t, rfl⟩ := rep_int.mp rb
            obtain ⟨a', vs, l', pl, rl⟩ := i₂.mine hx e3
            obtain rfl := la.det l'
            refine setItem_plain (w := c.w) pl hk0 (by omega) (by rw [List.size_toArray, rl.length]; exact hkl) fun h₃ pl₃ hs₃ => ?_
            have pl₃' : h₃.PlainList a' (List.toArray (vs.set k.toNat v)) := by simpa using pl₃
            exact hQ .next h₃ tk₂ X (i₂.upd hx la hs₃ pl₃' (RepL.set (r.kp k₂) _ rl)) trivial
          · cases hp
        · cases hp
      · cases hp
    · cases hp
end
end NN
end

section
open PySem PySem.W PyProof.Rows PySem.Calls PySem.Spec
set_option Elab.async false
set_option autoImplicit false
set_option maxRecDepth 100000

namespace NN
section
variable {c : Cx}

theorem exec_drop {e : Expr} {pos : Pos} {s : Shared} {Q : Flow → Shared → Prop} {E : Value → Shared → Prop} (h : wpAny (model pw c.w) c.A (eval e c.env) (fun _ s' => Q .next s') E s)
    (hi : interactive c.env = false) (hs : swapsWith e none pos.line c.env = pure false) : wpAny (model pw c.w) c.A (exec (.Expr e pos) c.env) Q E s := by
  rw [exec_Expr c.env e pos hi hs]
  exact wpAny_bind (wpAny_standAt (wpAny_bind (wpAny_mono h (fun v s' h' => wpAny_dropValue h') fun _ _ x => x)))

/-- x.append(e) -/
noncomputable def pAppend (x : String) (p : PE PV) : PSt := fun ps => match ps.loc x with
  | some (.lst _) => if ps.own = some x ∨ ps.par = some x then (match p ps with
    | none => none
    | some (d, ps₁) => (match ps₁.loc x with
      | some (.lst ds) => if (ps₁.own = some x ∨ ps₁.par = some x) ∧ ds.length ≤ 2 ^ 20 then some (.next, ps₁.set x (.lst (ds ++ [d]))) else none
      | _ => none)) else none
  | _ => none
theorem sv_append {x : String} {np ap cp pos : Pos} {e : Expr} {p : PE PV} (h1 : EV c e p)
    (hbase : attributeBase (.Name (Str.ofString x) np) "append" c.env (eval (.Name (Str.ofString x) np) c.env) = eval (.Name (Str.ofString x) np) c.env := by rfl)
    (hfew : ((backTo cp (starEach [e] c.env)).all (fun x => !x.1) && (backToKw cp (keywordEach [] c.env)).all (fun x => x.1.isSome)
      && decide (([e] : List Expr).length + ([] : List Keyword).length + (if ([] : List Keyword).isEmpty then 0 else 1) < 30)) = true := by rfl)
    (hline : (ap.endLine == cp.line) = true := by rfl) (hs1 : starEach [e] c.env = [(false, eval e c.env)] := by rfl)
    (hi : interactive c.env = false := by rfl) (hs : swapsWith (.Call (.Attribute (.Name (Str.ofString x) np) "append" ap) [e] [] cp) none pos.line c.env = pure false := by rfl) :
    SV c (.Expr (.Call (.Attribute (.Name (Str.ofString x) np) "append" ap) [e] [] cp) pos) (pAppend x p) := by
  intro s X ps o ps' Q E i hp hQ
  unfold pAppend at hp
  split at hp
  · rename_i ds₀ e0
    split at hp
    · rename_i hx0
      cases e1 : p ps with
      | none => rw [e1] at hp; cases hp
      | some r =>
        obtain ⟨d, ps₁⟩ := r
        rw [e1] at hp
        simp only at hp
        split at hp
        · rename_i ds e2
          split at hp
          · rename_i hc
            simp only [Option.some.injEq, Prod.mk.injEq] at hp
            obtain ⟨rfl, rfl⟩ := hp
            obtain ⟨a, vs, l, pl, rl⟩ := i.mine hx0 e0
            refine exec_drop (wpAny_Call_method (T := "list") (id := "list.append") hbase hfew hline PySem.F.plainAttrs_list PySem.F.slot_list_append PySem.F.type_list_append (l.name ⟨pl.isList.typeIs, ?_, ?_⟩)) hi hs
            · rintro b ⟨⟩
              obtain ⟨n, ho⟩ := pl
              exact ⟨_, ho, rfl⟩
            · rw [hs1]
              refine Calls.callWith_builtin rfl (Calls.evalArgs_plain (Calls.spliced_cons ?_))
              refine h1 s X ps d ps₁ _ _ i e1 fun v h' tk k i' r => Calls.spliced_nil ?_
              obtain ⟨b, us, l', pl', rl'⟩ := i'.mine hc.1 e2
              have := (l.kp k i.offX (fun y c hc => (i.offC y c hc).1)).det l'
              cases this
              refine wpAny_list_append_plain (hsz := by have := sizeLine_eq; have := hc.2; rw [List.size_toArray, rl'.length]; omega) pl' fun h'' pl'' hs'' => ?_
              have pl3 : h''.PlainList a (List.toArray (us ++ [v])) := by simpa using pl''
              exact hQ .next h'' tk X (i'.upd hc.1 l' hs'' pl3 (rl'.append (RepL.one.mpr r))) trivial
          · cases hp
        · cases hp
    · cases hp
  · cases hp

/-- x.pop() -/
noncomputable def pPop (x : String) : PSt := fun ps => match ps.loc x with
  | some (.lst ds) => if (ps.own = some x ∨ ps.par = some x) ∧ ds.length ≤ 2 ^ 20 ∧ 0 < ds.length then some (.next, ps.set x (.lst ds.dropLast)) else none
  | _ => none
theorem RepL.dropLast {X : List Addr} {h : Heap} {vs : List Value} {ds : List PV} (r : RepL X h vs ds) : RepL X h vs.dropLast ds.dropLast := by
  rw [List.dropLast_eq_take, List.dropLast_eq_take, r.length]
  exact r.take _
theorem sv_pop {x : String} {np ap cp pos : Pos}
    (hbase : attributeBase (.Name (Str.ofString x) np) "pop" c.env (eval (.Name (Str.ofString x) np) c.env) = eval (.Name (Str.ofString x) np) c.env := by rfl)
    (hfew : ((backTo cp (starEach [] c.env)).all (fun x => !x.1) && (backToKw cp (keywordEach [] c.env)).all (fun x => x.1.isSome)
      && decide (([] : List Expr).length + ([] : List Keyword).length + (if ([] : List Keyword).isEmpty then 0 else 1) < 30)) = true := by rfl)
    (hline : (ap.endLine == cp.line) = true := by rfl)
    (hi : interactive c.env = false := by rfl) (hs : swapsWith (.Call (.Attribute (.Name (Str.ofString x) np) "pop" ap) [] [] cp) none pos.line c.env = pure false := by rfl) :
    SV c (.Expr (.Call (.Attribute (.Name (Str.ofString x) np) "pop" ap) [] [] cp) pos) (pPop x) := by
  intro s X ps o ps' Q E i hp hQ
  unfold pPop at hp
  split at hp
  · rename_i ds e0
    split at hp
    · rename_i hc
      simp only [Option.some.injEq, Prod.mk.injEq] at hp
      obtain ⟨rfl, rfl⟩ := hp
      obtain ⟨a, vs, l, pl, rl⟩ := i.mine hc.1 e0
      refine exec_drop (wpAny_Call_method (T := "list") (id := "list.pop") hbase hfew hline PySem.F.plainAttrs_list PySem.F.slot_list_pop PySem.F.type_list_pop (l.name ⟨pl.isList.typeIs, ?_, ?_⟩)) hi hs
      · rintro b ⟨⟩
        obtain ⟨n, ho⟩ := pl
        exact ⟨_, ho, rfl⟩
      · refine Calls.callWith_builtin rfl (evalArgs_nil3 ?_)
        obtain ⟨n, ho⟩ := pl
        have hlen := rl.length
        obtain ⟨y, hy⟩ : ∃ y, (List.toArray vs)[(List.toArray vs).size - 1]? = some y := by
          refine ⟨vs[vs.length - 1]'(by omega), ?_⟩
          simp only [List.size_toArray, List.getElem?_toArray]
          exact List.getElem?_eq_getElem _
        refine Copied.pop_at ho hy (fun h' hs' ho' => ?_) (by have := sizeLine_eq; have := hc.2; rw [List.size_toArray, hlen]; omega)
        have pl3 : h'.PlainList a (List.toArray vs.dropLast) := ⟨n + 1, by rw [ho']; simp⟩
        exact hQ .next h' _ X (i.upd hc.1 l hs' pl3 rl.dropLast) trivial
    · cases hp
  · cases hp

/-- x -= e -/
noncomputable def pAug (x : String) (f : PV → PV → Option PV) (p : PE PV) : PSt := fun ps => if ps.own = some x ∨ ps.par = some x then none else (ps.loc x).bind fun d => match p ps with
  | none => none
  | some (y, ps₁) => (f d y).bind fun z => (pPut x ps₁ z).map fun ps₂ => (.next, ps₂)
theorem sv_augSub {x : String} {np pos : Pos} {e : Expr} {p : PE PV} (n : SN c.env x) (h1 : EV c e p) : SV c (.AugAssign (.Name (Str.ofString x) np) .Sub e pos) (pAug x fSub p) := by
  intro s X ps o ps' Q E i hp hQ
  unfold pAug at hp
  split at hp
  · cases hp
  · rename_i hn
    simp only [Option.bind_eq_some_iff] at hp
    obtain ⟨d, e0, hp⟩ := hp
    obtain ⟨v, l, r⟩ := i.frz x d e0 (fun q => hn (.inl q)) (fun q => hn (.inr q))
    cases e1 : p ps with
    | none => rw [e1] at hp; cases hp
    | some q =>
      obtain ⟨y, ps₁⟩ := q
      rw [e1] at hp
      simp only [Option.bind_eq_some_iff, Option.map_eq_some_iff, Prod.mk.injEq] at hp
      obtain ⟨z, e2, ps₂, e3, rfl, rfl⟩ := hp
      obtain ⟨q1, q2, rfl⟩ := pPut_inv e3
      refine wpAny_AugAssign_Name (l.load (h1 s X ps y ps₁ _ _ i e1 fun b h' tk k i' rb => ?_))
      unfold fSub at e2
      split at e2
      · cases e2
        obtain ⟨t, rfl⟩ := rep_int.mp r
        obtain ⟨u, rfl⟩ := rep_int.mp rb
        exact isub_int (store_tree (s := { s with heap := h', toks := _ }) n i' (rep_int.mpr ⟨_, rfl⟩) q1 q2 fun h'' tk' i'' _ => hQ .next h'' tk' X i'' trivial)
      · cases e2

/-- while -/
noncomputable def pWhile (t : PE Bool) (b : PSt) : Nat → PSt
  | 0 => fun _ => none
  | n + 1 => fun ps => match t ps with
    | none => none
    | some (false, ps₁) => some (.next, ps₁)
    | some (true, ps₁) => match b ps₁ with
      | none => none
      | some (.ret d, ps₂) => some (.ret d, ps₂)
      | some (_, ps₂) => pWhile t b n ps₂
theorem sv_while {e : Expr} {bs : List Stmt} {pos : Pos} {t : PE Bool} {b : PSt} (N : Nat) (ht : TV c e t) (hb : SSV c bs b) : SV c (.While e bs [] pos) (pWhile t b N) := by
  intro s X ps o ps' Q E i hp hQ
  refine wpAny_While (codeAny_whileLoop (fun k s₁ => ∃ h tk X ps, s₁ = { s with heap := h, toks := tk } ∧ Inv c.hb c.B c.X₀ c.env h ps X ∧ pWhile t b k ps = some (o, ps')) ?_ N ⟨s.heap, s.toks, X, ps, rfl, i, hp⟩)
  rintro k s₁ ⟨h, tk, X, ps, rfl, i, hp⟩
  cases k with
  | zero => cases hp
  | succ k =>
    rw [pWhile] at hp
    dsimp only at hp
    cases e1 : t ps with
    | none => rw [e1] at hp; cases hp
    | some r =>
      obtain ⟨v, ps₁⟩ := r
      rw [e1] at hp
      refine ht _ X ps v ps₁ _ _ i e1 fun h₁ tk₁ k₁ i₁ => ?_
      cases v with
      | false =>
        cases hp
        exact wpAny_execs_nil (hQ .next h₁ tk₁ X i₁ trivial)
      | true =>
        simp only at hp
        cases e2 : b ps₁ with
        | none => rw [e2] at hp; cases hp
        | some r =>
          obtain ⟨o₂, ps₂⟩ := r
          rw [e2] at hp
          refine hb { s with heap := h₁, toks := tk₁ } X ps₁ o₂ ps₂ _ _ i₁ e2 fun fl h₂ tk₂ X₂ i₂ r₂ => ?_
          cases o₂ with
          | next =>
            cases fl with
            | next => exact ⟨k, Nat.lt_succ_self k, h₂, tk₂, X₂, ps₂, rfl, i₂, hp⟩
            | _ => cases r₂
          | cont =>
            cases fl with
            | cont => exact ⟨k, Nat.lt_succ_self k, h₂, tk₂, X₂, ps₂, rfl, i₂, hp⟩
            | _ => cases r₂
          | ret d =>
            cases hp
            cases fl with
            | ret v => exact hQ (.ret v) h₂ tk₂ X₂ i₂ r₂
            | _ => cases r₂
end
end NN
end

section
open PySem PySem.W PyProof.Rows PySem.Calls PySem.Spec
set_option Elab.async false
set_option autoImplicit false
set_option maxRecDepth 100000

namespace NN
section
variable {c : Cx}

/-- functions that store names -/
inductive Sto (c : Cx) : List (Value → Sem Unit) → List String → Prop
  | nil : Sto c [] []
  | cons {f : Value → Sem Unit} {x : String} {fs : List (Value → Sem Unit)} {xs : List String} : SN c.env x →
      (∀ (v : Value) (s : Shared) (Q : Unit → Shared → Prop) (E : Value → Shared → Prop), wpAny (model pw c.w) c.A (storeName c.env (Str.ofString x) v) Q E s → wpAny (model pw c.w) c.A (f v) Q E s) →
      Sto c fs xs → Sto c (f :: fs) (x :: xs)

theorem Sto.bind {x : String} {fs : List (Value → Sem Unit)} {xs : List String} (n : SN c.env x) (r : Sto c fs xs) : Sto c ((fun v => bindName c.env (Str.ofString x) v) :: fs) (x :: xs) :=
  .cons n (fun _ _ _ _ h => wpAny_bindName h) r
theorem Sto.name {x : String} {pos : Pos} {fs : List (Value → Sem Unit)} {xs : List String} (n : SN c.env x) (r : Sto c fs xs) : Sto c (assign (.Name (Str.ofString x) pos) c.env :: fs) (x :: xs) :=
  .cons n (fun _ _ _ _ h => assign_Name h) r

noncomputable def pPuts : List String → List PV → PS → Option PS
  | [], [], ps => some ps
  | x :: xs, d :: ds, ps => (pPut x ps d).bind (pPuts xs ds)
  | _, _, _ => none

theorem stores {fs : List (Value → Sem Unit)} {xs : List String} (st : Sto c fs xs) : ∀ {s : Shared} {X : List Addr} {ps ps' : PS} {vs : List Value} {ds : List PV} {Q : Unit → Shared → Prop} {E : Value → Shared → Prop},
    Inv c.hb c.B c.X₀ c.env s.heap ps X → RepL X s.heap vs ds → pPuts xs ds ps = some ps' →
    (∀ h' tk, Inv c.hb c.B c.X₀ c.env h' ps' X → Q () { s with heap := h', toks := tk }) → wpAny (model pw c.w) c.A (assignInOrder fs vs) Q E s := by
  induction st with
  | nil =>
    intro s X ps ps' vs ds Q E i r hp hQ
    cases ds with
    | nil => cases hp; rw [r.nil_inv]; exact wpAny_pure (hQ s.heap s.toks i)
    | cons _ _ => cases hp
  | cons n hf _ ih =>
    intro s X ps ps' vs ds Q E i r hp hQ
    cases ds with
    | nil => cases hp
    | cons d ds =>
      obtain ⟨v, ws, rfl, rv, rw⟩ := r.cons_inv
      simp only [pPuts, Option.bind_eq_some_iff] at hp
      obtain ⟨ps₁, e1, e2⟩ := hp
      obtain ⟨q1, q2, rfl⟩ := pPut_inv e1
      refine wpAny_bind (wpAny_holding (hf v s _ _ (store_tree n i rv q1 q2 fun h' tk i' hs => ?_)))
      exact ih (s := { s with heap := h', toks := tk }) i' ((rep_local i hs).2 _ _ rw) e2 fun h'' tk' i'' => hQ h'' tk' i''

/-- a tuple is taken apart into names -/
noncomputable def pUnp (xs : List String) (p : PE PV) : PSt := fun ps => match p ps with
  | some (.tup ds, ps₁) => (pPuts xs ds ps₁).map fun ps₂ => (.next, ps₂)
  | _ => none
noncomputable def pUnpR (xs : List String) (p : PE PV) : PSt := fun ps => match p ps with
  | some (.tup ds, ps₁) => (pPuts xs.reverse ds.reverse ps₁).map fun ps₂ => (.next, ps₂)
  | _ => none
theorem pPuts_len : ∀ {xs : List String} {ds : List PV} {ps ps' : PS}, pPuts xs ds ps = some ps' → xs.length = ds.length
  | [], [], _, _, _ => rfl
  | x :: xs, d :: ds, ps, ps', h => by
    simp only [pPuts, Option.bind_eq_some_iff] at h
    obtain ⟨_, _, h⟩ := h
    rw [List.length_cons, List.length_cons, pPuts_len h]
  | [], _ :: _, _, _, h => by cases h
  | _ :: _, [], _, _, h => by cases h

theorem kp_new {X : List Addr} {h h' : Heap} (e : Heap.ExtBut h.objs.size h h') : Kp X h h' := fun a o _ q => e a o (Nat.ne_of_lt (Heap.lt_size q)) q

theorem sv_unpR {xs : List String} {elts : List Expr} {k : Nat} {tp pos : Pos} {e : Expr} {p : PE PV} {n : Nat} {names : List Str} (ok : Ok c n) (st : Sto c (names.reverse.map fun n => bindName c.env n) xs.reverse) (hl : names.length = xs.length) (h1 : EV c e p)
    (hs : swapsWithSole [.Tuple elts k tp] e pos.line c.env = pure false) (hw : swappedStores [.Tuple elts k tp] e c.env = pure (some names)) :
    SV c (.Assign [.Tuple elts k tp] e pos) (pUnpR xs p) := by
  intro s X ps o ps' Q E i hp hQ
  unfold pUnpR at hp
  split at hp
  · rename_i ds ps₁ e1
    simp only [Option.map_eq_some_iff, Prod.mk.injEq] at hp
    obtain ⟨ps₂, e2, rfl, rfl⟩ := hp
    have hlen := pPuts_len e2
    simp only [List.length_reverse] at hlen
    refine Assign_Tuple_swapped (names := names) (h1 s X ps _ ps₁ _ _ i e1 fun v h' tk k₁ i' r => ?_) hs hw
    simp only [Rep] at r
    obtain ⟨a, vs, rfl, _, ht, hr⟩ := r
    have e : names.length = (List.toArray vs).size := by rw [List.size_toArray, hr.length, hl, hlen]
    rw [e]
    refine unpackItems_t (s := { s with heap := h', toks := tk }) (ok.hnd.keeps i'.hbKp.all) ht fun h'' he => ?_
    have kk : Kp [] h' h'' := kp_new he
    refine stores (s := { s with heap := h'', toks := tk }) st (i'.kp kk) (hr.reverse.kp kk.nil) e2 fun h₃ tk₃ i₃ => hQ .next h₃ tk₃ X i₃ trivial
  · cases hp

theorem sv_unp {xs : List String} {elts : List Expr} {k : Nat} {tp pos : Pos} {e : Expr} {p : PE PV} {n : Nat} (ok : Ok c n) (st : Sto c ((assignEach elts c.env).map (·.2)) xs) (hstar : (assignEach elts c.env).findIdx? (·.1) = none) (h1 : EV c e p)
    (hs : swapsWithSole [.Tuple elts k tp] e pos.line c.env = pure false) (hw : swappedStores [.Tuple elts k tp] e c.env = pure none) (hl : (assignEach elts c.env).length = xs.length) :
    SV c (.Assign [.Tuple elts k tp] e pos) (pUnp xs p) := by
  intro s X ps o ps' Q E i hp hQ
  unfold pUnp at hp
  split at hp
  · rename_i ds ps₁ e1
    simp only [Option.map_eq_some_iff, Prod.mk.injEq] at hp
    obtain ⟨ps₂, e2, rfl, rfl⟩ := hp
    have hlen := pPuts_len e2
    refine Assign_Tuple (h1 s X ps _ ps₁ _ _ i e1 fun v h' tk k₁ i' r => ?_) hs hw
    simp only [Rep] at r
    obtain ⟨a, vs, rfl, _, ht, hr⟩ := r
    refine assign_t (s := { s with heap := h', toks := tk }) (ok.hnd.keeps i'.hbKp.all) ht (by rw [List.size_toArray, hr.length, hl, hlen]) hstar fun h'' he => ?_
    have kk : Kp [] h' h'' := kp_new he
    refine stores (s := { s with heap := h'', toks := tk }) st (i'.kp kk) (hr.kp kk.nil) e2 fun h₃ tk₃ i₃ => hQ .next h₃ tk₃ X i₃ trivial
  · cases hp

/-- a list is taken apart into names -/
noncomputable def pUnpL (xs : List String) (p : PE PV) : PSt := fun ps => match p ps with
  | some (.lst ds, ps₁) => (pPuts xs ds ps₁).map fun ps₂ => (.next, ps₂)
  | _ => none
theorem sv_unpL {xs : List String} {elts : List Expr} {k : Nat} {tp pos : Pos} {e : Expr} {p : PE PV} (hh : c.A.handled = none) (st : Sto c ((assignEach elts c.env).map (·.2)) xs) (hstar : (assignEach elts c.env).findIdx? (·.1) = none) (h1 : EV c e p)
    (hs : swapsWithSole [.Tuple elts k tp] e pos.line c.env = pure false) (hw : swappedStores [.Tuple elts k tp] e c.env = pure none) (hl : (assignEach elts c.env).length = xs.length) :
    SV c (.Assign [.Tuple elts k tp] e pos) (pUnpL xs p) := by
  intro s X ps o ps' Q E i hp hQ
  unfold pUnpL at hp
  split at hp
  · rename_i ds ps₁ e1
    simp only [Option.map_eq_some_iff, Prod.mk.injEq] at hp
    obtain ⟨ps₂, e2, rfl, rfl⟩ := hp
    have hlen := pPuts_len e2
    refine Assign_Tuple (h1 s X ps _ ps₁ _ _ i e1 fun v h' tk k₁ i' r => ?_) hs hw
    simp only [Rep] at r
    obtain ⟨a, vs, rfl, _, ht, hr⟩ := r
    rw [assign_Tuple]
    refine wpAny_bind (wpAny_standAt ?_)
    unfold unpack
    rw [show (assignEach elts c.env).length = (List.toArray vs).size by rw [List.size_toArray, hr.length, hl, hlen], hstar]
    refine wpAny_bind (wpAny_holding (kun_itemsOf hh ht fun h'' he => ?_))
    have kk : Kp [] h' h'' := kp_new he
    refine stores (s := { s with heap := h'', toks := tk }) st (i'.kp kk) (hr.kp kk.nil) e2 fun h₃ tk₃ i₃ => hQ .next h₃ tk₃ X i₃ trivial
  · cases hp

/-- two names, the second a new list of one's own: a, b = (e₁, e₂) -/
noncomputable def pUnpO (x y : String) (p : PE PV) (q : PE (List PV)) : PSt := fun ps => match p ps with
  | none => none
  | some (d, ps₁) => match q ps₁ with
    | none => none
    | some (ds, ps₂) => if ps₂.own = none ∧ ps₂.par ≠ some y then (pPut x { ps₂.set y (.lst ds) with own := some y } d).map fun ps₃ => (.next, ps₃) else none
theorem sv_unpO {x y : String} {xp yp tp pos vp : Pos} {k k' n : Nat} {e₁ e₂ : Expr} {p : PE PV} {q : PE (List PV)} (ok : Ok c n) (nx : SN c.env x) (ny : SN c.env y) (h1 : EV c e₁ p) (h2 : FV c e₂ q)
    (hs : swapsWithSole [.Tuple [.Name (Str.ofString x) xp, .Name (Str.ofString y) yp] k tp] (.Tuple [e₁, e₂] k' vp) pos.line c.env = pure false)
    (hw : swappedStores [.Tuple [.Name (Str.ofString x) xp, .Name (Str.ofString y) yp] k tp] (.Tuple [e₁, e₂] k' vp) c.env = pure (some [Str.ofString x, Str.ofString y]))
    (hs1 : starEach [e₁, e₂] c.env = (false, eval e₁ c.env) :: starEach [e₂] c.env := by rfl) (hs2 : starEach [e₂] c.env = (false, eval e₂ c.env) :: starEach [] c.env := by rfl) :
    SV c (.Assign [.Tuple [.Name (Str.ofString x) xp, .Name (Str.ofString y) yp] k tp] (.Tuple [e₁, e₂] k' vp) pos) (pUnpO x y p q) := by
  intro s X ps o ps' Q E i hp hQ
  unfold pUnpO at hp
  cases e1 : p ps with
  | none => rw [e1] at hp; cases hp
  | some r =>
    obtain ⟨d, ps₁⟩ := r
    rw [e1] at hp
    simp only at hp
    cases e2 : q ps₁ with
    | none => rw [e2] at hp; cases hp
    | some r =>
      obtain ⟨ds, ps₂⟩ := r
      rw [e2] at hp
      simp only at hp
      split at hp
      · rename_i hc
        simp only [Option.map_eq_some_iff, Prod.mk.injEq] at hp
        obtain ⟨ps₃, e3, rfl, rfl⟩ := hp
        obtain ⟨q1, q2, rfl⟩ := pPut_inv e3
        refine Assign_Tuple_swapped (names := [Str.ofString x, Str.ofString y]) (wpAny_Tuple (wpAny_items_cons (h1 s X ps d ps₁ _ _ i e1 fun v h₁ tk₁ k₁ i₁ r₁ => ?_) hs1)) hs hw
        refine wpAny_items_cons (h2 { s with heap := h₁, toks := tk₁ } X ps₁ ds ps₂ _ _ i₁ e2 fun a vs h₂ tk₂ f k₂ i₂ j₂ l₂ r₂ => ?_) hs2
        refine wpAny_items_nil ⟨by rw [sizeLine_eq]; exact Nat.le_of_ble_eq_true rfl, ?_⟩
        have kp : Kp [] h₂ (h₂.push { cls := .type "tuple", data := .seq [v, .ref a].toArray }) := Kp.push _
        have ht : (h₂.push { cls := .type "tuple", data := .seq [v, .ref a].toArray }).IsTuple h₂.objs.size [v, .ref a].toArray := ⟨_, get_size _ _ rfl, rfl, 0, rfl⟩
        have go : ∀ h₃, Kp [] h₂ h₃ → wpAny (model pw c.w) c.A (assignInOrder (([Str.ofString x, Str.ofString y].reverse).map fun n => bindName c.env n) [v, Value.ref a].reverse) (fun _ => Q .next) E { s with heap := h₃, toks := tk₂ } := by
          intro h₃ k₃
          show wpAny (model pw c.w) c.A (assignInOrder [fun v => bindName c.env (Str.ofString y) v, fun v => bindName c.env (Str.ofString x) v] [.ref a, v]) _ _ _
          refine wpAny_bind (wpAny_holding (wpAny_bindName ?_))
          refine store_own (s := { s with heap := h₃, toks := tk₂ }) (h₀ := h₁) ny f (k₂.trans k₃.nil) (i₂.kp k₃) i₁.base i₁.live (j₂.kp k₃) (Plain.kp k₃ List.not_mem_nil l₂) (r₂.kp k₃.nil) hc.1 hc.2 fun h₄ tk₄ i₄ hs₄ => ?_
          refine wpAny_bind (wpAny_holding (wpAny_bindName ?_))
          have rv : Rep (a :: X) h₃ v d := ((r₁.fresh f).kp (Kp.mono (fun b m => List.mem_cons_of_mem _ m) k₂)).kp k₃.nil
          refine store_tree (s := { s with heap := h₄, toks := tk₄ }) nx i₄ ((rep_local (j₂.kp k₃) hs₄).1 _ _ rv) q1 q2 fun h₅ tk₅ i₅ _ => ?_
          exact wpAny_pure (hQ .next h₅ tk₅ _ i₅ trivial)
        refine unpackItems_t (s := { s with heap := _, toks := tk₂ }) (items := [v, .ref a].toArray) (ok.hnd.keeps (i₂.hbKp.trans kp).all) ht fun h₃ he => ?_
        exact go h₃ (kp.trans (kp_new he))
      · cases hp
end
end NN
end

section
open PySem PySem.W PyProof.Rows PySem.Calls PySem.Spec
set_option Elab.async false
set_option autoImplicit false
set_option maxRecDepth 100000

namespace NN
section
variable {hb : Heap} {B : Addr → Obj → Prop} {X₀ : List Addr} {env : Env} {h h' : Heap} {ps : PS} {X : List Addr}

/-- no list, no tuple, no cell, not the frame -/
noncomputable def Odd (env : Env) (h : Heap) (b : Addr) : Prop := b ≠ env.locals ∧ ∃ o, h.get? b = some o ∧ (∀ its n, o.data ≠ .seq its n) ∧ (∀ v, o.data ≠ .cell v)
theorem Odd.fields (i : Inv hb B X₀ env h ps X) {b : Addr} (q : ∃ o fs, h.get? b = some o ∧ o.data = .fields fs) : Odd env h b := by
  obtain ⟨o, fs, e, hd⟩ := q
  refine ⟨?_, o, e, fun _ _ q => (by rw [hd] at q; cases q), fun _ q => (by rw [hd] at q; cases q)⟩
  rintro rfl
  obtain ⟨m, o', es, ep, e', hd', _⟩ := i.ns
  rw [e] at e'; cases e'; rw [hd] at hd'; cases hd'

/-- a step of an iterator: what turns is no list, no tuple, no frame, no cell -/
theorem Inv.odd (i : Inv hb B X₀ env h ps X) {wr : List Addr} (hk : ∀ b o, b ∉ wr → h.get? b = some o → h'.get? b = some o) (hw : ∀ b ∈ wr, Odd env h b) (hB : ∀ b ∈ wr, ∀ o, ¬ B b o) :
    Inv hb B X₀ env h' ps X ∧ (∀ Y d v, Rep Y h v d → Rep Y h' v d) ∧ (∀ Y ds vs, RepL Y h vs ds → RepL Y h' vs ds) ∧ (∀ a its, h.IsList a its → a ∉ wr) ∧ (∀ a its, h.IsTuple a its → a ∉ wr) := by
  have nS : ∀ {b : Addr} {o : Obj} {its : Array Value} {n : Nat}, h.get? b = some o → o.data = .seq its n → b ∉ wr := fun e hd m => by
    obtain ⟨_, o', e', q, _⟩ := hw _ m
    rw [e] at e'; cases e'
    exact q _ _ hd
  have nL : env.locals ∉ wr := fun m => (hw _ m).1 rfl
  have nC : ∀ {c : Addr} {v : Option Value}, h.IsCell c v → c ∉ wr := fun ⟨o, e, hd⟩ m => by
    obtain ⟨_, o', e', _, q⟩ := hw _ m
    rw [e] at e'; cases e'
    exact q _ hd
  have nl : ∀ (a : Addr) (its : Array Value), h.IsList a its → a ∉ wr := fun a its ⟨o, e, _, n, hd⟩ => nS e hd
  have nt : ∀ (a : Addr) (its : Array Value), h.IsTuple a its → a ∉ wr := fun a its ⟨o, e, _, n, hd⟩ => nS e hd
  have r1 : ∀ Y d v, Rep Y h v d → Rep Y h' v d := fun Y => (rep_move fun a o n e ⟨_, _, hd⟩ => ⟨hk a o (nS e hd) e, n⟩).1
  have r2 : ∀ Y ds vs, RepL Y h vs ds → RepL Y h' vs ds := fun Y => (rep_move fun a o n e ⟨_, _, hd⟩ => ⟨hk a o (nS e hd) e, n⟩).2
  have pl : ∀ {a : Addr} {vs : Array Value}, h.PlainList a vs → h'.PlainList a vs := fun p => let ⟨n, e⟩ := p; ⟨n, hk _ _ (nl _ _ p.isList) e⟩
  have lk : ∀ {y : Str} {u : Value}, Look env h y u → Look env h' y u := fun ⟨h1, h2, h3⟩ => ⟨h1, h2, h3.imp
    (fun ⟨a, m, ⟨o, es, ep, e, q⟩, b⟩ => ⟨a, m, ⟨o, es, ep, hk _ _ nL e, q⟩, b⟩) (fun ⟨a, c, b, o, e, hd⟩ => ⟨a, c, b, o, hk _ _ (nC ⟨o, e, hd⟩) e, hd⟩)⟩
  refine ⟨?_, r1, r2, nl, nt⟩
  exact {
    base := fun a o b => hk a o (fun m => hB a m o b) (i.base a o b)
    top := i.top, offB := i.offB, offX := i.offX
    offC := fun y c e => let ⟨q1, q2, v, o, ho, hd⟩ := i.offC y c e; ⟨q1, q2, v, o, hk _ _ (nC ⟨o, ho, hd⟩) ho, hd⟩
    ns := let ⟨m, o, es, ep, e, q⟩ := i.ns; ⟨m, o, es, ep, hk _ _ nL e, q⟩
    x0 := i.x0
    mark := fun a m => (i.mark a m).imp id fun ⟨vs, p⟩ => ⟨vs, pl p⟩
    xB := i.xB
    offH := i.offH
    frz := fun x d e h1 h2 => let ⟨v, l, r⟩ := i.frz x d e h1 h2; ⟨v, lk l, r1 _ _ _ r⟩
    own := fun x e => let ⟨a, vs, ds, h1, l, h2, h3, h4, h5, h6⟩ := i.own x e; ⟨a, vs, ds, h1, lk l, h2, h3, h4, pl h5, r2 _ _ _ h6⟩
    par := fun x e => let ⟨a, vs, ds, h1, l, h2, h4, h5, h6⟩ := i.par x e; ⟨a, vs, ds, h1, lk l, h2, h4, pl h5, r2 _ _ _ h6⟩ }

/-- all that is there now, but the frame's own: kept too -/
noncomputable def more (B : Addr → Obj → Prop) (env : Env) (h : Heap) (X : List Addr) : Addr → Obj → Prop := fun a o => B a o ∨ (h.get? a = some o ∧ a ∉ X ∧ a ≠ env.locals)
theorem Inv.more (i : Inv hb B X₀ env h ps X) : Inv hb (more B env h X) X₀ env h ps X where
  base := fun a o b => b.elim (i.base a o) (·.1)
  top := fun a o e => .inl (i.top a o e)
  offB := fun o b => b.elim (i.offB o) (fun q => q.2.2 rfl)
  offX := i.offX
  offC := i.offC
  ns := i.ns
  x0 := i.x0
  mark := fun a m => (i.mark a m).imp (fun ⟨o, b⟩ => ⟨o, .inl b⟩) id
  xB := fun a m => (i.xB a m).imp id fun n o b => b.elim (n o) (fun q => q.2.1 m)
  offH := i.offH
  frz := i.frz
  own := fun x e => let ⟨a, vs, ds, h1, l, h2, h3, h4, h5, h6⟩ := i.own x e; ⟨a, vs, ds, h1, l, h2, h3, fun o b => b.elim (h4 o) (fun q => q.2.1 h2), h5, h6⟩
  par := fun x e => let ⟨a, vs, ds, h1, l, h2, h4, h5, h6⟩ := i.par x e; ⟨a, vs, ds, h1, l, h2, fun o b => b.elim (h4 o) (fun q => q.2.1 (i.x0 a (List.mem_of_head? h2))), h5, h6⟩
/-- back to what is asked -/
theorem Inv.less {B' : Addr → Obj → Prop} (i : Inv hb B' X₀ env h ps X) (hs : ∀ a o, B a o → B' a o) (ht : ∀ a o, hb.get? a = some o → B a o) (hm : ∀ a ∈ X, (∃ o, B a o) ∨ ∃ vs, h.PlainList a vs) : Inv hb B X₀ env h ps X where
  base := fun a o b => i.base a o (hs a o b)
  top := ht
  offB := fun o b => i.offB o (hs _ _ b)
  offX := i.offX
  offC := i.offC
  ns := i.ns
  x0 := i.x0
  mark := hm
  xB := fun a m => (i.xB a m).imp id fun n o b => n o (hs _ _ b)
  offH := i.offH
  frz := i.frz
  own := fun x e => let ⟨a, vs, ds, h1, l, h2, h3, h4, h5, h6⟩ := i.own x e; ⟨a, vs, ds, h1, l, h2, h3, fun o b => h4 o (hs _ _ b), h5, h6⟩
  par := fun x e => let ⟨a, vs, ds, h1, l, h2, h4, h5, h6⟩ := i.par x e; ⟨a, vs, ds, h1, l, h2, fun o b => h4 o (hs _ _ b), h5, h6⟩

/-- behind a part that was walked under more -/
theorem Inv.back {X' : List Addr} {ps' : PS} (i : Inv hb B X₀ env h ps X) (j : Inv hb (NN.more B env h X) X₀ env h' ps' X') :
    Inv hb B X₀ env h' ps' X' ∧ (∀ a o, a ∉ X → a ≠ env.locals → h.get? a = some o → h'.get? a = some o ∧ a ∉ X') := by
  have kk : ∀ a o, a ∉ X → a ≠ env.locals → h.get? a = some o → h'.get? a = some o ∧ a ∉ X' := fun a o n1 n2 e =>
    ⟨j.base a o (.inr ⟨e, n1, n2⟩), fun m => (j.xB a m).elim (fun q => n1 (i.x0 a q)) (fun q => q o (.inr ⟨e, n1, n2⟩))⟩
  refine ⟨j.less (fun _ _ b => .inl b) i.top fun a m => ?_, kk⟩
  rcases j.mark a m with ⟨o, b | ⟨e, n1, n2⟩⟩ | p
  · exact .inl ⟨o, b⟩
  · exact absurd m (kk a o n1 n2 e).2
  · exact .inr p
end

section
variable {c : Cx}

/-- the iterator over ds -/
structure It (c : Cx) (h : Heap) (X : List Addr) (ds : List PV) (I : Addr) (fp wr : List Addr) (P : Nat → Value → Prop) (St : Nat → Heap → Prop) : Prop where
  W : Walks pw c.w c.A I fp wr ds.length P St
  st : St 0 h
  fields : ∀ i h', St i h' → ∀ b ∈ wr, ∃ o fs, h'.get? b = some o ∧ o.data = .fields fs
  there : ∀ i h', St i h' → ∀ b ∈ fp, ∃ o, h'.get? b = some o
  offB : ∀ b ∈ wr, ∀ o, ¬ c.B b o
  off : ∀ b ∈ fp, b ∉ X ∧ b ≠ c.env.locals
  items : ∀ i v, i < ds.length → P i v → ∃ d, ds[i]? = some d ∧ Rep X h v d

noncomputable def IV (c : Cx) (e : Expr) (p : PE (List PV)) : Prop :=
  ∀ (s : Shared) (X : List Addr) (ps : PS) (ds : List PV) (ps' : PS) (K : Value → Shared → Prop) (E : Value → Shared → Prop),
    Inv c.hb c.B c.X₀ c.env s.heap ps X → p ps = some (ds, ps') →
    (∀ I fp wr P St h' tk, Kp X s.heap h' → Inv c.hb c.B c.X₀ c.env h' ps' X → It c h' X ds I fp wr P St → (∀ b ∈ wr, s.heap.get? b = none) → K (.ref I) { s with heap := h', toks := tk }) →
    wpAny (model pw c.w) c.A (eval e c.env) (fun x s₁ => wpAny (model pw c.w) c.A (pyIter x) K E s₁) E s

/-- what holds between the turns -/
structure Mid (c : Cx) (h : Heap) (X : List Addr) (ds : List PV) (fp wr : List Addr) (P : Nat → Value → Prop) : Prop where
  offB : ∀ b ∈ wr, ∀ o, ¬ c.B b o
  off : ∀ b ∈ fp, b ∉ X ∧ b ≠ c.env.locals
  items : ∀ i v, i < ds.length → P i v → ∃ d, ds[i]? = some d ∧ Rep X h v d

noncomputable def pTurns (x : String) (b : PSt) : List PV → PSt
  | [] => fun ps => some (.next, ps)
  | d :: ds => fun ps => (pPut x ps d).bind fun ps₁ => match b ps₁ with
    | none => none
    | some (.ret r, ps₂) => some (.ret r, ps₂)
    | some (_, ps₂) => pTurns x b ds ps₂
noncomputable def pFor (x : String) (p : PE (List PV)) (b : PSt) : PSt := fun ps => match p ps with
  | none => none
  | some (ds, ps₁) => pTurns x b ds ps₁

inductive FI (c : Cx) (x : String) (b : PSt) (ds : List PV) (o : PF) (ps' : PS) (fp wr : List Addr) (P : Nat → Value → Prop) (St : Nat → Heap → Prop) (s : Shared) (m : Nat) (s₁ : Shared) : Prop
  | mk (j : Nat) (h : Heap) (tk : Nat) (X : List Addr) (ps : PS) (em : m = ds.length - j) (hj : j ≤ ds.length) (es : s₁ = { s with heap := h, toks := tk }) (i : Inv c.hb c.B c.X₀ c.env h ps X) (st : St j h) (md : Mid c h X ds fp wr P) (hp : pTurns x b (ds.drop j) ps = some (o, ps')) : FI c x b ds o ps' fp wr P St s m s₁
theorem sv_for {x : String} {np pos : Pos} {iter : Expr} {bs : List Stmt} {p : PE (List PV)} {b : PSt} (n : SN c.env x) (hit : IV c iter p) (hb : ∀ B, SSV { c with B := B } bs b)
    (hs : ∀ x, foldedSetIterable iter c.env x = pure x := by intro _; rfl) :
    SV c (.For (.Name (Str.ofString x) np) iter bs [] pos) (pFor x p b) := by
  intro s X ps o ps' Q E i hp hQ
  unfold pFor at hp
  cases e1 : p ps with
  | none => rw [e1] at hp; cases hp
  | some r =>
    obtain ⟨ds, ps₁⟩ := r
    rw [e1] at hp
    simp only at hp
    refine wpAny_For (hit s X ps ds ps₁ _ _ i e1 fun I fp wr P St h₁ tk₁ k₁ i₁ it _ => ?_) hs
    refine codeAny_forLoop (FI c x b ds o ps' fp wr P St s) ?_ ds.length
      ⟨0, h₁, tk₁, X, ps₁, rfl, Nat.zero_le _, rfl, i₁, it.st, ⟨it.offB, it.off, it.items⟩, by simpa using hp⟩
    rintro m s₁ ⟨j, h, tk, X, ps, rfl, hj, rfl, i, st, md, hp⟩
    rcases Nat.lt_or_ge j ds.length with hlt | hge
    · refine it.W.item j _ _ _ hlt st fun v h₂ tk₂ hP st₂ hk₂ => ?_
      obtain ⟨i₂, r₂, _⟩ := i.odd hk₂ (fun b m => Odd.fields i (it.fields j h st b m)) md.offB
      obtain ⟨d, hd, rd⟩ := md.items j v hlt hP
      have hdrop : ds.drop j = d :: ds.drop (j + 1) := by
        rw [List.drop_eq_getElem_cons hlt]
        have := List.getElem?_eq_getElem hlt
        rw [hd] at this
        rw [Option.some.inj this]
      rw [hdrop] at hp
      simp only [pTurns, Option.bind_eq_some_iff] at hp
      obtain ⟨ps₃, e3, hp⟩ := hp
      obtain ⟨q1, q2, rfl⟩ := pPut_inv e3
      refine assign_Name (store_tree (s := { s with heap := h₂, toks := tk₂ }) n i₂ (r₂ _ _ _ rd) q1 q2 fun h₃ tk₃ i₃ hs₃ => ?_)
      have st₃ : St (j + 1) h₃ := it.W.frame _ _ _ st₂ fun b hb o e => (hs₃.2 b (md.off b hb).2).trans e
      have it₃ : ∀ i v, i < ds.length → P i v → ∃ d, ds[i]? = some d ∧ Rep X h₃ v d := fun i' v hi hP => let ⟨d, e, r⟩ := md.items i' v hi hP; ⟨d, e, (rep_local i₂ hs₃).1 _ _ (r₂ _ _ _ r)⟩
      cases e4 : b (ps.set x d) with
      | none => rw [e4] at hp; cases hp
      | some q =>
        obtain ⟨o₂, ps₄⟩ := q
        rw [e4] at hp
        refine hb (more c.B c.env h₃ X) { s with heap := h₃, toks := tk₃ } X (ps.set x d) o₂ ps₄ _ _ i₃.more e4 fun fl h₄ tk₄ X₄ i₄ r₄ => ?_
        obtain ⟨i₄', kk⟩ := i₃.back i₄
        have next : ∀ (hp : pTurns x b (ds.drop (j + 1)) ps₄ = some (o, ps')), ∃ m, m < ds.length - j ∧ FI c x b ds o ps' fp wr P St s m ({ s with heap := h₄, toks := tk₄ } : Shared) := by
          intro hp
          refine ⟨ds.length - (j + 1), by omega, j + 1, h₄, tk₄, X₄, ps₄, rfl, hlt, rfl, i₄', ?_, ⟨md.offB, fun b hb => ?_, fun i' v hi hP => ?_⟩, hp⟩
          · exact it.W.frame _ _ _ st₃ fun b hb o e => (kk b o (md.off b hb).1 (md.off b hb).2 e).1
          · obtain ⟨o', e⟩ := it.there _ _ st₃ b hb
            exact ⟨(kk b o' (md.off b hb).1 (md.off b hb).2 e).2, (md.off b hb).2⟩
          · obtain ⟨d, e, r⟩ := it₃ i' v hi hP
            refine ⟨d, e, (rep_move fun a o na e ⟨_, _, hd⟩ => kk a o na (fun q => ?_) e).1 d v r⟩
            obtain ⟨m, o', _, _, e', hd', _⟩ := i₃.ns
            subst q
            rw [e] at e'; cases e'; rw [hd] at hd'; cases hd'
        cases o₂ with
        | next =>
          cases fl with
          | next => exact next hp
          | _ => cases r₄
        | cont =>
          cases fl with
          | cont => exact next hp
          | _ => cases r₄
        | ret d =>
          cases hp
          cases fl with
          | ret v => exact hQ (.ret v) h₄ tk₄ X₄ i₄' r₄
          | _ => cases r₄
    · have hj' : j = ds.length := Nat.le_antisymm hj hge
      subst hj'
      refine it.W.done _ _ _ st fun h₂ tk₂ hk₂ => ?_
      obtain ⟨i₂, _⟩ := i.odd hk₂ (fun b m => Odd.fields i (it.fields _ h st b m)) md.offB
      rw [List.drop_length] at hp
      cases hp
      exact wpAny_execs_nil (hQ .next h₂ tk₂ X i₂ trivial)

/-! iterables -/
noncomputable def pLs (p : PE PV) : PE (List PV) := fun ps => match p ps with
  | some (.lst ds, ps') => if ds.length ≤ 2 ^ 20 then some (ds, ps') else none
  | _ => none
theorem new_off {h : Heap} {X : List Addr} {ps : PS} (i : Inv c.hb c.B c.X₀ c.env h ps X) {a : Addr} (f : h.get? a = none) : a ∉ X ∧ a ≠ c.env.locals := by
  constructor
  · intro m
    obtain ⟨o, e⟩ := i.live a m
    rw [f] at e; cases e
  · rintro rfl
    obtain ⟨m, o, _, _, e, _⟩ := i.ns
    rw [f] at e; cases e

/-- what is handled is no list of the frame's, and no frame -/
theorem hx_off {h : Heap} {X : List Addr} {ps : PS} (H : Hd c.A c.hb) (i : Inv c.hb c.B c.X₀ c.env h ps X) : ∀ b ∈ hx c.A, b ∉ X ∧ b ≠ c.env.locals := fun b m => by
  obtain ⟨o, e⟩ := H.there b m
  refine ⟨fun q => ?_, fun q => ?_⟩
  · rw [i.offH b q] at e; cases e
  · subst q; exact i.offB o (i.top _ o e)

theorem it_list {h : Heap} {X : List Addr} {ps : PS} {l : Addr} {vs : List Value} {ds : List PV} (H : Hd c.A c.hb) (i : Inv c.hb c.B c.X₀ c.env h ps X) (nl : l ∉ X) (hl : h.IsList l vs.toArray) (r : RepL X h vs ds) :
    It c (h.push { cls := .type "list_iterator", data := .fields #[.ref l, .int 0 0] }) X ds h.objs.size ([h.objs.size, l] ++ hx c.A) [h.objs.size] (fun i v => vs.toArray[i]? = some v) (fun i h' => (h'.IsListIter h.objs.size l i ∧ h'.IsList l vs.toArray) ∧ Hd c.A h') where
  W := by
    have hne : l ≠ h.objs.size := by obtain ⟨o, e, _⟩ := hl; exact Nat.ne_of_lt (Heap.lt_size e)
    have := walks_list (prog := pw) (w := c.w) (A := c.A) h.objs.size l ((H.keeps i.hbKp.all).fresh) hne vs.toArray
    have e : (List.toArray vs).size = ds.length := by rw [List.size_toArray, r.length]
    rw [e] at this
    exact this
  st := ⟨⟨⟨_, get_size _ _ rfl, rfl, rfl⟩, hl.push _⟩, (H.keeps i.hbKp.all).keeps fun _ _ e => Heap.get?_push_of_some _ e⟩
  fields := fun i h' st b m => by
    obtain rfl := List.mem_singleton.mp m
    obtain ⟨o, e, _, hd⟩ := st.1.1
    exact ⟨o, _, e, hd⟩
  there := fun i h' st b m => by
    rcases List.mem_append.mp m with m | m
    · rcases List.mem_cons.mp m with rfl | m
      · obtain ⟨o, e, _⟩ := st.1.1; exact ⟨o, e⟩
      · obtain rfl := List.mem_singleton.mp m
        obtain ⟨o, e, _⟩ := st.1.2; exact ⟨o, e⟩
    · exact st.2.there b m
  offB := fun b m => by
    obtain rfl := List.mem_singleton.mp m
    exact i.notB (size_none _)
  off := fun b m => by
    rcases List.mem_append.mp m with m | m
    · rcases List.mem_cons.mp m with rfl | m
      · exact new_off i (size_none _)
      · obtain rfl := List.mem_singleton.mp m
        obtain ⟨m, n⟩ := i.ns
        exact ⟨nl, Look.ne_list n hl⟩
    · exact hx_off H i b m
  items := fun i v _ e => by
    have e' : vs[i]? = some v := by simpa using e
    have hlt : i < ds.length := by
      rw [← r.length]
      rcases Nat.lt_or_ge i vs.length with q | q
      · exact q
      · rw [List.getElem?_eq_none q] at e'; cases e'
    have hd := List.getElem?_eq_getElem hlt
    obtain ⟨v', e2, r2⟩ := r.get hd
    rw [e'] at e2; cases e2
    exact ⟨_, hd, r2.kp (Kp.push _)⟩

theorem iv_list {e : Expr} {p : PE PV} {k : Nat} (ok : Ok c k) (h1 : EV c e p) : IV c e (pLs p) := by
  intro s X ps ds ps' K E i hp hK
  unfold pLs at hp
  split at hp
  · rename_i ds' ps₁ e1
    split at hp
    · simp only [Option.some.injEq, Prod.mk.injEq] at hp
      obtain ⟨rfl, rfl⟩ := hp
      refine h1 s X ps _ ps₁ _ _ i e1 fun v h' tk k i' r => ?_
      simp only [Rep] at r
      obtain ⟨l, vs, rfl, nl, hl, hr⟩ := r
      exact wpAny_pyIter_list hl (hK _ _ _ _ _ _ tk (k.trans (Kp.push _)) (i'.kp (Kp.push _)) (it_list ok.hnd i' nl hl hr) (fun b m => by obtain rfl := List.mem_singleton.mp m; exact none_of_kp i' k (size_none _)))
    · cases hp
  · cases hp

noncomputable def pTs (p : PE PV) : PE (List PV) := fun ps => match p ps with
  | some (.tup ds, ps') => some (ds, ps')
  | _ => none
theorem it_tuple {h : Heap} {X : List Addr} {ps : PS} {l : Addr} {vs : List Value} {ds : List PV} (H : Hd c.A c.hb) (i : Inv c.hb c.B c.X₀ c.env h ps X) (nl : l ∉ X) (hl : h.IsTuple l vs.toArray) (r : RepL X h vs ds) :
    It c (h.push { cls := .type "tuple_iterator", data := .fields #[.ref l, .int 0 0] }) X ds h.objs.size ([h.objs.size, l] ++ hx c.A) [h.objs.size] (fun i v => vs.toArray[i]? = some v) (fun i h' => (h'.IsTupleIter h.objs.size l i ∧ h'.IsTuple l vs.toArray) ∧ Hd c.A h') where
  W := by
    have hne : l ≠ h.objs.size := by obtain ⟨o, e, _⟩ := hl; exact Nat.ne_of_lt (Heap.lt_size e)
    have := walks_tuple (prog := pw) (w := c.w) (A := c.A) h.objs.size l ((H.keeps i.hbKp.all).fresh) hne vs.toArray
    have e : (List.toArray vs).size = ds.length := by rw [List.size_toArray, r.length]
    rw [e] at this
    exact this
  st := ⟨⟨⟨_, get_size _ _ rfl, rfl, rfl⟩, hl.push _⟩, (H.keeps i.hbKp.all).keeps fun _ _ e => Heap.get?_push_of_some _ e⟩
  fields := fun i h' st b m => by
    obtain rfl := List.mem_singleton.mp m
    obtain ⟨o, e, _, hd⟩ := st.1.1
    exact ⟨o, _, e, hd⟩
  there := fun i h' st b m => by
    rcases List.mem_append.mp m with m | m
    · rcases List.mem_cons.mp m with rfl | m
      · obtain ⟨o, e, _⟩ := st.1.1; exact ⟨o, e⟩
      · obtain rfl := List.mem_singleton.mp m
        obtain ⟨o, e, _⟩ := st.1.2; exact ⟨o, e⟩
    · exact st.2.there b m
  offB := fun b m => by
    obtain rfl := List.mem_singleton.mp m
    exact i.notB (size_none _)
  off := fun b m => by
    rcases List.mem_append.mp m with m | m
    · rcases List.mem_cons.mp m with rfl | m
      · exact new_off i (size_none _)
      · obtain rfl := List.mem_singleton.mp m
        obtain ⟨m, o, es, ep, e, hd, _⟩ := i.ns
        refine ⟨nl, ?_⟩
        rintro rfl
        obtain ⟨o', e', _, n, hd'⟩ := hl
        rw [e] at e'; cases e'; rw [hd] at hd'; cases hd'
    · exact hx_off H i b m
  items := fun i v _ e => by
    have e' : vs[i]? = some v := by simpa using e
    have hlt : i < ds.length := by
      rw [← r.length]
      rcases Nat.lt_or_ge i vs.length with q | q
      · exact q
      · rw [List.getElem?_eq_none q] at e'; cases e'
    have hd := List.getElem?_eq_getElem hlt
    obtain ⟨v', e2, r2⟩ := r.get hd
    rw [e'] at e2; cases e2
    exact ⟨_, hd, r2.kp (Kp.push _)⟩
theorem iv_tuple {e : Expr} {p : PE PV} {k : Nat} (ok : Ok c k) (h1 : EV c e p) : IV c e (pTs p) := by
  intro s X ps ds ps' K E i hp hK
  unfold pTs at hp
  split at hp
  · rename_i ds' ps₁ e1
    simp only [Option.some.injEq, Prod.mk.injEq] at hp
    obtain ⟨rfl, rfl⟩ := hp
    refine h1 s X ps _ ps₁ _ _ i e1 fun v h' tk k i' r => ?_
    simp only [Rep] at r
    obtain ⟨l, vs, rfl, nl, hl, hr⟩ := r
    exact wpAny_pyIter_tuple hl (hK _ _ _ _ _ _ tk (k.trans (Kp.push _)) (i'.kp (Kp.push _)) (it_tuple ok.hnd i' nl hl hr) (fun b m => by obtain rfl := List.mem_singleton.mp m; exact none_of_kp i' k (size_none _)))
  · cases hp

noncomputable def pRg (p : PE PV) : PE (List PV) := fun ps => match p ps with
  | some (.int n, ps') => if -(2 ^ 62) ≤ n ∧ n ≤ 2 ^ 20 then some ((List.range n.toNat).map fun k : Nat => PV.int (k : Int), ps') else none
  | _ => none
theorem iv_range {x : Str} {np pos : Pos} {e : Expr} {p : PE PV} {k : Nat} (ok : Ok c k) (hn : NV c x (.type "range")) (h1 : EV c e p) (hs : starEach [e] c.env = [(false, eval e c.env)] := by rfl) :
    IV c (.Call (.Name x np) [e] [] pos) (pRg p) := by
  intro s X ps ds ps' K E i hp hK
  unfold pRg at hp
  split at hp
  · rename_i N ps₁ e1
    split at hp
    · rename_i hN
      simp only [Option.some.injEq, Prod.mk.injEq] at hp
      obtain ⟨rfl, rfl⟩ := hp
      refine wpAny_Call_NameR (hn np s X ps _ _ i ?_)
      rw [hs]
      refine PyProof.Rows.callWith_type rfl (Calls.evalArgs_plain (Calls.spliced_cons ?_))
      refine h1 s X ps _ ps₁ _ _ i e1 fun v h' tk k i' r => Calls.spliced_nil ?_
      obtain ⟨t, rfl⟩ := rep_int.mp r
      refine call_range_1 ?_
      have sm := small_one (a := 0) (b := N) (by decide) (by decide) hN.1 (by omega)
      refine wpAny_pyIter_range (IsRange.new ..) sm ?_
      have hsz : Builtin.Range.rangeSize 0 N 1 = (N.toNat : Int) := by rw [rangeSize_one]; split <;> omega
      rw [hsz]
      generalize hH : h'.push { cls := .type "range", data := .fields #[.int 0 tk, .int N t, .int 1 (tk + 1)] } = H
      have kH : Kp [] h' H := hH ▸ Kp.push _
      have iH := i'.kp kH
      refine hK H.objs.size ([H.objs.size] ++ hx c.A) [H.objs.size] (fun i v => ∃ t, v = .int (0 + i * 1) t) (fun i h => IsRangeIter h H.objs.size (0 + (i : Nat) * 1) ((N.toNat : Int) - (i : Nat)) 1 ∧ Hd c.A h) _ _ (k.trans (kH.nil.trans (Kp.push _))) (iH.kp (Kp.push _)) ?_ (fun b m => by obtain rfl := List.mem_singleton.mp m; exact none_of_kp iH (k.trans kH.nil) (size_none _))
      refine { W := ?_, st := ?_, fields := ?_, there := ?_, offB := ?_, off := ?_, items := ?_ }
      · have := walks_range (prog := pw) (w := c.w) (A := c.A) H.objs.size ((ok.hnd.keeps iH.hbKp.all).fresh) 0 1 N.toNat
        rw [show ((List.range N.toNat).map fun k => PV.int (k : Nat)).length = N.toNat by simp]
        exact this
      · have e1 : (0 + ((0 : Nat) : Int) * 1) = 0 := by simp
        have e2 : ((N.toNat : Int) - ((0 : Nat) : Int)) = (N.toNat : Int) := by simp
        rw [e1, e2]
        exact ⟨get_size _ _ rfl, (ok.hnd.keeps iH.hbKp.all).keeps fun _ _ e => Heap.get?_push_of_some _ e⟩
      · intro i h' st b m
        obtain rfl := List.mem_singleton.mp m
        exact ⟨_, _, st.1, rfl⟩
      · intro i h' st b m
        rcases List.mem_append.mp m with m | m
        · obtain rfl := List.mem_singleton.mp m
          exact ⟨_, st.1⟩
        · exact st.2.there b m
      · intro b m
        obtain rfl := List.mem_singleton.mp m
        exact iH.notB (size_none _)
      · intro b m
        rcases List.mem_append.mp m with m | m
        · obtain rfl := List.mem_singleton.mp m
          exact new_off iH (size_none _)
        · exact hx_off ok.hnd iH b m
      · rintro i v hi ⟨t, rfl⟩
        refine ⟨.int (i : Nat), ?_, rep_int.mpr ⟨t, by simp⟩⟩
        have hi' : i < N.toNat := by simpa using hi
        simp [hi']
    · cases hp
  · cases hp
end
end NN
end

section
open PySem PySem.W PyProof.Rows PySem.Calls PySem.Spec
set_option Elab.async false
set_option autoImplicit false
set_option maxRecDepth 100000

namespace NN
section
variable {hb : Heap} {B : Addr → Obj → Prop} {X₀ : List Addr} {env : Env} {h h' : Heap} {ps : PS} {X : List Addr}

/-- a list that nobody reads turns -/
theorem Inv.scratch (i : Inv hb B X₀ env h ps X) {D : Addr} (hD : D ∈ X) (h0 : D ∉ X₀) (hown : ∀ x, ps.own = some x → ¬ Look env h (Str.ofString x) (.ref D)) (hs : Heap.SameBut D h h') {vs : Array Value} (hp : h'.PlainList D vs) :
    Inv hb B X₀ env h' ps X := by
  have hB : ∀ o, ¬ B D o := fun o b => (i.xB D hD).elim (fun q => h0 q) (fun q => q o b)
  have k : Kp X h h' := fun b o n e => (hs.2 b (fun q => n (q ▸ hD))).trans e
  have lk : ∀ {y : Str} {u : Value}, Look env h y u → Look env h' y u := fun l => l.kp k i.offX (fun y c hc => (i.offC y c hc).1)
  have pl : ∀ {b : Addr} {us : Array Value}, b ≠ D → h.PlainList b us → h'.PlainList b us := fun n ⟨q, e⟩ => ⟨q, (hs.2 _ n).trans e⟩
  exact {
    base := fun b o q => (hs.2 b (fun e => hB o (e ▸ q))).trans (i.base b o q)
    top := i.top, offB := i.offB, offX := i.offX
    offC := fun y c e => let ⟨q1, q2, v, o, ho, hd⟩ := i.offC y c e; ⟨q1, q2, v, o, k _ _ q1 ho, hd⟩
    ns := let ⟨m, o, es, ep, e, q⟩ := i.ns; ⟨m, o, es, ep, k _ _ i.offX e, q⟩
    x0 := i.x0
    mark := fun b m => by
      by_cases q : b = D
      · subst q; exact .inr ⟨_, hp⟩
      · exact (i.mark b m).imp id fun ⟨us, p⟩ => ⟨us, pl q p⟩
    xB := i.xB
    offH := i.offH
    frz := fun y d e q1 q2 => let ⟨u, lu, ru⟩ := i.frz y d e q1 q2; ⟨u, lk lu, ru.kp k⟩
    own := fun y e => by
      obtain ⟨b, us, es, e1, l', e2, e3, e4, e5, e6⟩ := i.own y e
      have hb : b ≠ D := by rintro rfl; exact hown y e l'
      exact ⟨b, us, es, e1, lk l', e2, e3, e4, pl hb e5, e6.kp k⟩
    par := fun y e => by
      obtain ⟨b, us, es, e1, l', e2, e4, e5, e6⟩ := i.par y e
      have hb : b ≠ D := by rintro rfl; exact h0 (List.mem_of_head? e2)
      exact ⟨b, us, es, e1, lk l', e2, e4, pl hb e5, e6.kp k⟩ }
/-- the address is no more set apart -/
theorem Inv.shrink {D : Addr} (i : Inv hb B X₀ env h ps (D :: X)) (h0 : D ∉ X₀) (hown : ∀ x, ps.own = some x → ¬ Look env h (Str.ofString x) (.ref D)) : Inv hb B X₀ env h ps X where
  base := i.base
  top := i.top
  offB := i.offB
  offX := fun m => i.offX (List.mem_cons_of_mem _ m)
  offC := fun y c e => let ⟨q1, q2, v⟩ := i.offC y c e; ⟨fun m => q1 (List.mem_cons_of_mem _ m), q2, v⟩
  ns := i.ns
  x0 := fun a m => by
    rcases List.mem_cons.mp (i.x0 a m) with q | q
    · subst q; exact absurd m h0
    · exact q
  mark := fun a m => i.mark a (List.mem_cons_of_mem _ m)
  xB := fun a m => i.xB a (List.mem_cons_of_mem _ m)
  offH := fun a m => i.offH a (List.mem_cons_of_mem _ m)
  frz := fun y d e q1 q2 => let ⟨u, lu, ru⟩ := i.frz y d e q1 q2; ⟨u, lu, ru.anti fun b m => List.mem_cons_of_mem _ m⟩
  own := fun y e => by
    obtain ⟨b, us, es, e1, l', e2, e3, e4, e5, e6⟩ := i.own y e
    refine ⟨b, us, es, e1, l', ?_, e3, e4, e5, e6.anti fun b m => List.mem_cons_of_mem _ m⟩
    rcases List.mem_cons.mp e2 with q | q
    · subst q; exact absurd l' (hown y e)
    · exact q
  par := fun y e => by
    obtain ⟨b, us, es, e1, l', e2, e4, e5, e6⟩ := i.par y e
    exact ⟨b, us, es, e1, l', e2, e4, e5, e6.anti fun b m => List.mem_cons_of_mem _ m⟩
end

section
variable {c : Cx}

/-- the tests of a comprehension -/
noncomputable def CTV (c : Cx) (ifs : List Expr) (p : PE Bool) : Prop :=
  ∀ (s : Shared) (X : List Addr) (ps : PS) (d : Bool) (ps' : PS) (Q : Bool → Shared → Prop) (E : Value → Shared → Prop),
    Inv c.hb c.B c.X₀ c.env s.heap ps X → p ps = some (d, ps') →
    (∀ h' tk, Kp X s.heap h' → Inv c.hb c.B c.X₀ c.env h' ps' X → Q d { s with heap := h', toks := tk }) →
    wpAny (model pw c.w) c.A (forIn ifs true fun e r => if r = true then do let ok ← isTrue e c.env (eval e c.env); pure (ForInStep.yield ok) else pure (ForInStep.yield r)) Q E s
theorem ctv_nil : CTV c [] (pBool true) := fun s X ps d ps' Q E i hp hQ => by
  cases hp
  exact wpAny_tests_nil (hQ s.heap s.toks Kp.refl i)
theorem ctv_one {e : Expr} {p : PE Bool} (h : TV c e p) : CTV c [e] p := fun s X ps d ps' Q E i hp hQ =>
  wpAny_tests_one (h s X ps d ps' Q E i hp hQ)

/-- the comprehension's own frame -/
noncomputable def cps (x : String) (vis : List String) (ps : PS) (d : PV) : PS := { loc := fun y => if y = x then some d else if y ∈ vis then ps.loc y else none }

noncomputable def pComp (x : String) (vis : List String) (t : PE Bool) (p : PE PV) (ps : PS) : List PV → Option (List PV)
  | [] => some []
  | d :: ds => match t (cps x vis ps d) with
    | none => none
    | some (false, _) => pComp x vis t p ps ds
    | some (true, q) => match p q with
      | none => none
      | some (r, _) => (pComp x vis t p ps ds).map fun rs => r :: rs

noncomputable abbrev cc (c : Cx) (scope : Scope) (cl : List (Str × Addr)) (C : Addr) (B : Addr → Obj → Prop) (X₀ : List Addr) : Cx := { c with env := compEnvC scope cl C c.env, B := B, X₀ := X₀ }

/-- what a comprehension's scope must say -/
structure CS (c : Cx) (scope : Scope) (cl : List (Str × Addr)) (x : String) (vis : List String) : Prop where
  kind : scope.kind = .function
  envk : c.env.scope.kind = .function
  cell : ∀ y ∈ scope.names, y.2 ≠ .cell
  names : ∀ y ∈ scope.names, y.2 = .local → scope.names.lookup y.1 = some .local
  lx : scope.names.lookup (Str.ofString x) = some .local
  dbg : (Str.ofString x == ("__debug__" : Str)) = false
  clos : closureFor scope c.env = pure cl
  cls : ∀ y a, cl.lookup y = some a → c.env.cells.lookup y = some a
  vis : ∀ y ∈ vis, ∀ C, (compEnvC scope cl C c.env).kindOf (Str.ofString y) = some .cell ∧ c.env.kindOf (Str.ofString y) = some .cell ∧ ∀ a, c.env.cells.lookup (Str.ofString y) = some a → cl.lookup (Str.ofString y) = some a

inductive CI (c : Cx) (x : String) (vis : List String) (t : PE Bool) (p : PE PV) (ps : PS) (ds rs : List PV) (X : List Addr) (D C : Addr) (wr : List Addr) (P : Nat → Value → Prop) (St : Nat → Heap → Prop) (s : Shared) (n : Nat) (s' : Shared) : Prop
  | mk (j : Nat) (h : Heap) (tk : Nat) (m : Str → Option Value) (vs : List Value) (ds₁ rs₁ rs₂ : List PV) (en : n = ds.length + 1 - j) (hj : j ≤ ds.length) (es : s' = { s with heap := h, toks := tk }) (st : St j h) (hn : h.Ns C m) (jj : Inv c.hb c.B c.X₀ c.env h ps (D :: X))
      (pl : h.PlainList D (List.toArray vs)) (rl : RepL (D :: X) h vs rs₁) (hl : rs₁.length ≤ j) (items : ∀ i v, i < ds.length → P i v → ∃ d, ds[i]? = some d ∧ Rep (D :: X) h v d) (hd : ds.drop j = ds₁) (hp : pComp x vis t p ps ds₁ = some rs₂) (ha : rs₁ ++ rs₂ = rs)
      (old : ∀ b o, b ∉ wr → s.heap.get? b = some o → h.get? b = some o) : CI c x vis t p ps ds rs X D C wr P St s n s'
theorem comp_core {elt iter : Expr} {x : String} {px pos : Pos} {ifs : List Expr} {scope : Scope} {cl : List (Str × Addr)} {vis : List String} {t : PE Bool} {p : PE PV} (cs : CS c scope cl x vis)
    (ht : ∀ C B X₀, CTV (cc c scope cl C B X₀) ifs t) (he : ∀ C B X₀, EV (cc c scope cl C B X₀) elt p)
    {s : Shared} {X : List Addr} {ps : PS} {ds rs : List PV} {E : Value → Shared → Prop} {RR : Value → Addr → Result → Shared → Prop} (i : Inv c.hb c.B c.X₀ c.env s.heap ps X) (hv : ∀ y ∈ vis, ps.own ≠ some y ∧ ps.par ≠ some y)
    {I : Addr} {fp wr : List Addr} {P : Nat → Value → Prop} {St : Nat → Heap → Prop} (it : It c s.heap X ds I fp wr P St) (hr : pComp x vis t p ps ds = some rs) (hl : ds.length ≤ 2 ^ 20)
    (hRR : ∀ D C h' tk vs m', s.heap.get? D = none → s.heap.get? C = none → D ≠ C → h'.Ns C m' → Inv c.hb c.B c.X₀ c.env h' ps X → Inv c.hb c.B c.X₀ c.env h' ps (D :: X) → h'.PlainList D (List.toArray vs) → RepL (D :: X) h' vs rs →
      (∀ b o, b ∉ wr → s.heap.get? b = some o → h'.get? b = some o) → RR (.ref D) C (.ok .next) { s with heap := h', toks := tk }) :
    wpAny (model pw c.w) c.A (newList []) (fun acc s₃ => wpAny (model pw c.w) c.A (newFunctionEnv scope c.env.globals cl [] c.env.qual none .none (some c.env)) (fun cenv s₄ =>
      codeAny (model pw c.w) c.A (.compStart (.ListComp elt [⟨.Name (Str.ofString x) px, iter, ifs, 0⟩] scope pos) 0 (.ref I) acc { cenv with scope := relabel scope c.env }) (RR acc cenv.locals) s₄) E s₃) E s := by
  refine wpAny_newObj_type (wpAny_newFunctionEnv cs.cell (by intro y hy; simp at hy) (fun h₁ hns₁ hsb₁ => ?_) cs.kind)
  dsimp only at hns₁ hsb₁ ⊢
  generalize hH2 : s.heap.push { cls := .type "list", dict := none, data := .seq ([] : List Value).toArray } = H2 at hns₁ hsb₁ ⊢
  generalize hD : s.heap.objs.size = D
  generalize hC : H2.objs.size = C at hns₁ hsb₁ ⊢
  have hCD : C = D + 1 := by rw [← hC, ← hH2, Heap.size_push, hD]
  have hDC : D ≠ C := by omega
  have fD : s.heap.get? D = none := hD ▸ size_none _
  have f2 : H2.get? C = none := hC ▸ size_none _
  have kH : Kp [] s.heap H2 := hH2 ▸ Kp.push _
  have fC : s.heap.get? C = none := by
    cases e : s.heap.get? C with
    | none => rfl
    | some o => have := kH.all _ _ e; rw [f2] at this; cases this
  have D2 : H2.PlainList D #[] := ⟨0, by rw [← hH2, ← hD]; exact get_size _ _ rfl⟩
  have kC : ∀ {b : Addr} {o : Obj}, H2.get? b = some o → h₁.get? b = some o := fun {b o} e => hsb₁.extBut b o (fun q => by subst q; rw [f2] at e; cases e) (Heap.get?_push_of_some _ e)
  have k1 : Kp [] H2 h₁ := Kp.of fun b o e => kC e
  have k01 : Kp [] s.heap h₁ := kH.trans k1
  have D1 : h₁.PlainList D #[] := Plain.kp k1 List.not_mem_nil D2
  have nDX : D ∉ X := (new_off i fD).1
  have nDL : D ≠ c.env.locals := (new_off i fD).2
  have nCX : C ∉ X := (new_off i fC).1
  have nCL : C ≠ c.env.locals := (new_off i fC).2
  have i1 : Inv c.hb c.B c.X₀ c.env h₁ ps X := i.kp k01
  have j1 : Inv c.hb c.B c.X₀ c.env h₁ ps (D :: X) := i.fresh k01 fD D1
  have nD0 : D ∉ c.X₀ := fun m => nDX (i.x0 _ m)
  have hDown : ∀ h, (∀ b o, b ∉ wr → s.heap.get? b = some o → h.get? b = some o) → ∀ y, ps.own = some y → ¬ Look c.env h (Str.ofString y) (.ref D) := by
    intro h k y e l
    obtain ⟨a, us, es, e1, l', e2, _⟩ := i.own y e
    have nL : c.env.locals ∉ wr := fun m => (it.off _ (it.W.sub _ m)).2 rfl
    have nCl : ∀ {a : Addr} {v : Option Value}, s.heap.IsCell a v → a ∉ wr := fun ⟨o, e, hd⟩ m => by
      obtain ⟨o', fs, e', hd'⟩ := it.fields 0 _ it.st _ m
      rw [e] at e'; cases e'; rw [hd] at hd'; cases hd'
    have l2 : Look c.env h (Str.ofString y) (.ref a) := by
      obtain ⟨h1, h2, h3⟩ := l'
      exact ⟨h1, h2, h3.imp
        (fun ⟨a, m, ⟨o, es, ep, e, q⟩, b⟩ => ⟨a, m, ⟨o, es, ep, k _ _ nL e, q⟩, b⟩) (fun ⟨a, c, b, o, e, hd⟩ => ⟨a, c, b, o, k _ _ (nCl ⟨o, e, hd⟩) e, hd⟩)⟩
    have := l2.det l
    cases this
    exact nDX e2
  have nB : ∀ {b : Addr}, s.heap.get? b = none → ∀ o, ¬ c.B b o := fun f => i.notB f
  have nDfp : D ∉ fp := fun m => by
    obtain ⟨o, e⟩ := it.there 0 _ it.st _ m
    rw [fD] at e; cases e
  have nCfp : C ∉ fp := fun m => by
    obtain ⟨o, e⟩ := it.there 0 _ it.st _ m
    rw [fC] at e; cases e
  have nDwr : D ∉ wr := fun q => nDfp (it.W.sub _ q)
  have nCwr : C ∉ wr := fun q => nCfp (it.W.sub _ q)
  have st1 : St 0 h₁ := it.W.frame _ _ _ it.st fun b _ o e => k01.all b o e
  have loop : ∀ s₃ : Shared, s₃ = { s with heap := h₁, toks := s.toks + ([] : List (Str × Value)).length } →
      codeAny (model pw c.w) c.A (.compLoop (.ListComp elt [⟨.Name (Str.ofString x) px, iter, ifs, 0⟩] scope pos) 0 (.ref I) (.ref D) (compEnvC scope cl C c.env)) (RR (.ref D) C) s₃ := by
    rintro s₃ rfl
    refine codeAny_compLoop_tests
      (CI c x vis t p ps ds rs X D C wr P St s) ?_ (ds.length + 1)
      ⟨0, h₁, _, _, [], ds, [], rs, rfl, Nat.zero_le _, rfl, st1, hns₁, j1, D1, by simp only [RepL], Nat.zero_le _, fun i' v hi hP => let ⟨d, e, r⟩ := it.items i' v hi hP; ⟨d, e, (r.fresh fD).kp k01.nil⟩, rfl, hr, rfl, fun b o _ e => k01.all b o e⟩
    rintro n s' ⟨j, h, tk, m, vs, ds₁, rs₁, rs₂, rfl, hj, rfl, st, hn, jj, pl, rl, hlen, items, hdrop, hp, happ, old⟩
    have oddC : ∀ {h : Heap} {m : Str → Option Value}, h.Ns C m → ∀ b ∈ [C], Odd c.env h b := by
      intro h m ⟨o, es, ep, e, hd, _⟩ b hb
      obtain rfl := List.mem_singleton.mp hb
      exact ⟨nCL, o, e, (fun _ _ q => by rw [hd] at q; cases q), (fun _ q => by rw [hd] at q; cases q)⟩
    rcases Nat.lt_or_ge j ds.length with hlt | hge
    · refine it.W.item j _ _ _ hlt st fun v h₂ tk₂ hP st₂ hk₂ => ?_
      obtain ⟨jj₂, r₂, rl₂, nl, _⟩ := jj.odd hk₂ (fun b m => Odd.fields jj (it.fields j h st b m)) it.offB
      have hn₂ : h₂.Ns C m := hn.at' fun o e => hk₂ _ o nCwr e
      have pl₂ : h₂.PlainList D (List.toArray vs) := let ⟨q, e⟩ := pl; ⟨q, hk₂ _ _ (nl _ _ pl.isList) e⟩
      obtain ⟨d, hd, rd⟩ := items j v hlt hP
      have hdrop' : ds₁ = d :: ds.drop (j + 1) := by
        rw [← hdrop, List.drop_eq_getElem_cons hlt]
        have := List.getElem?_eq_getElem hlt
        rw [hd] at this
        rw [Option.some.inj this]
      subst hdrop'
      simp only [pComp] at hp
      have hkx : (compEnvC scope cl C c.env).kindOf (Str.ofString x) = some .local := lookup_relabel_local cs.lx
      refine wpAny_assign_Name (wpAny_storeName_local hkx hn₂ (fun h₃ hn₃ hs₃ => ?_) (by simp [compEnvC, relabel, cs.kind]))
      have hk₃ : ∀ b o, b ∉ [C] → h₂.get? b = some o → h₃.get? b = some o := fun b o n e => (hs₃.2 b (fun q => n (q ▸ List.mem_singleton.mpr rfl))).trans e
      obtain ⟨jj₃, r₃, rl₃, nl₃, _⟩ := jj₂.odd hk₃ (oddC hn₂) (fun b q => by obtain rfl := List.mem_singleton.mp q; exact nB fC)
      have st₃ : St (j + 1) h₃ := it.W.frame _ _ _ st₂ fun b hb o e => hk₃ b o (fun q => nCfp (List.mem_singleton.mp q ▸ hb)) e
      have pl₃ : h₃.PlainList D (List.toArray vs) := let ⟨q, e⟩ := pl₂; ⟨q, hk₃ _ _ (nl₃ _ _ pl₂.isList) e⟩
      have rl3 : RepL (D :: X) h₃ vs rs₁ := rl₃ _ _ _ (rl₂ _ _ _ rl)
      have it3 : ∀ i v, i < ds.length → P i v → ∃ d, ds[i]? = some d ∧ Rep (D :: X) h₃ v d := fun i' v hi hP => let ⟨d, e, r⟩ := items i' v hi hP; ⟨d, e, r₃ _ _ _ (r₂ _ _ _ r)⟩
      have rd3 : Rep (D :: X) h₃ v d := r₃ _ _ _ (r₂ _ _ _ rd)
      have old3 : ∀ b o, b ∉ wr → s.heap.get? b = some o → h₃.get? b = some o := fun b o n e => hk₃ b o (fun q => by obtain rfl := List.mem_singleton.mp q; rw [fC] at e; cases e) (hk₂ b o n (old b o n e))
      have nCDX : C ∉ D :: X := fun q => by rcases List.mem_cons.mp q with q | q; exact hDC q.symm; exact nCX q
      -- the frame of the comprehension
      have lC : Inv c.hb (fun a o => h₃.get? a = some o ∧ a ≠ C) (D :: X) (compEnvC scope cl C c.env) h₃ (cps x vis ps d) (D :: X) := {
        base := fun a o b => b.1
        top := fun a o e => ⟨jj₃.base a o (jj₃.top a o e), fun q => by
          subst q
          exact nB fC o (jj₃.top _ o e)⟩
        offB := fun o b => b.2 rfl
        offX := nCDX
        offC := fun y a e => by
          obtain ⟨q1, q2, v, o, ho, hd⟩ := jj₃.offC y a (cs.cls y a e)
          refine ⟨q1, fun q => ?_, v, o, ho, hd⟩
          obtain ⟨o', es, ep, e', hd', _⟩ := hn₃
          have q' : a = C := q
          have e2 : h₃.get? C = some o' := e'
          rw [q', e2] at ho
          cases ho
          rw [hd'] at hd; cases hd
        ns := ⟨_, hn₃⟩
        x0 := fun _ q => q
        mark := fun a q => by
          obtain ⟨o, e⟩ := jj₃.live a q
          exact .inl ⟨o, e, fun q' => nCDX (q' ▸ q)⟩
        xB := fun a q => .inl q
        offH := jj₃.offH
        frz := fun y e hy _ _ => by
          simp only [cps] at hy
          by_cases hyx : y = x
          · subst hyx
            rw [if_pos rfl] at hy
            cases hy
            exact ⟨v, ⟨by simp [compEnvC, relabel, cs.kind], cs.dbg, .inl ⟨hkx, _, hn₃, by simp⟩⟩, rd3⟩
          · rw [if_neg hyx] at hy
            split at hy
            · rename_i hvis
              obtain ⟨u, ⟨_, hdbg, l⟩, r⟩ := jj₃.frz y e hy (hv y hvis).1 (hv y hvis).2
              obtain ⟨q1, q2, q3⟩ := cs.vis y hvis C
              refine ⟨u, ⟨by simp [compEnvC, relabel, cs.kind], hdbg, .inr ⟨.inl q1, ?_⟩⟩, r⟩
              rcases l with ⟨l1, _⟩ | ⟨_, a, l2, l3⟩
              · rw [q2] at l1; cases l1
              · exact ⟨a, q3 a l2, l3⟩
            · cases hy
        own := fun y e => by cases e
        par := fun y e => by cases e }
      have full : ∀ {h₄ : Heap} {q : PS}, Kp (D :: X) h₃ h₄ → Inv c.hb (fun a o => h₃.get? a = some o ∧ a ≠ C) (D :: X) (compEnvC scope cl C c.env) h₄ q (D :: X) → Kp [] h₃ h₄ := fun k l a o _ e => by
        by_cases ha : a = C
        · exact k a o (ha ▸ nCDX) e
        · exact l.base a o ⟨e, ha⟩
      have go : ∀ {h₄ : Heap} {tk₄ : Nat} {vs₄ : List Value} {rs₄ rs₅ : List PV}, St (j + 1) h₄ → h₄.Ns C (fun y => if y = Str.ofString x then some v else m y) → Inv c.hb c.B c.X₀ c.env h₄ ps (D :: X) → h₄.PlainList D (List.toArray vs₄) → RepL (D :: X) h₄ vs₄ rs₄ → rs₄.length ≤ j + 1 →
          (∀ i v, i < ds.length → P i v → ∃ d, ds[i]? = some d ∧ Rep (D :: X) h₄ v d) → pComp x vis t p ps (ds.drop (j + 1)) = some rs₅ → rs₄ ++ rs₅ = rs → (∀ b o, b ∉ wr → s.heap.get? b = some o → h₄.get? b = some o) →
          ∃ m', m' < ds.length + 1 - j ∧ CI c x vis t p ps ds rs X D C wr P St s m' ({ s with heap := h₄, toks := tk₄ } : Shared) := by
        intro h₄ tk₄ vs₄ rs₄ rs₅ a1 a2 a3 a4 a5 a6 a7 a8 a9 a10
        exact ⟨ds.length + 1 - (j + 1), by omega, j + 1, h₄, tk₄, _, vs₄, _, rs₄, rs₅, rfl, hlt, rfl, a1, a2, a3, a4, a5, a6, a7, rfl, a8, a9, a10⟩
      cases e4 : t (cps x vis ps d) with
      | none => rw [e4] at hp; cases hp
      | some q =>
        obtain ⟨ok, q⟩ := q
        rw [e4] at hp
        refine ht C _ _ { s with heap := h₃, toks := tk₂ + 1 } (D :: X) (cps x vis ps d) ok q _ _ lC e4 fun h₄ tk₄ k₄ l₄ => ?_
        have kk₄ : Kp [] h₃ h₄ := full k₄ l₄
        cases ok with
        | false =>
          exact go (it.W.frame _ _ _ st₃ fun b hb o e => kk₄.all b o e) (hn₃.keeps kk₄.all) (jj₃.kp kk₄) (Plain.kp kk₄ List.not_mem_nil pl₃) (rl3.kp kk₄.nil) (by omega)
            (fun i' v hi hP => let ⟨d, e, r⟩ := it3 i' v hi hP; ⟨d, e, r.kp kk₄.nil⟩) hp happ (fun b o n e => kk₄.all b o (old3 b o n e))
        | true =>
          simp only at hp
          cases e5 : p q with
          | none => rw [e5] at hp; cases hp
          | some r =>
            obtain ⟨r, q'⟩ := r
            rw [e5] at hp
            simp only [Option.map_eq_some_iff] at hp
            obtain ⟨rs₃, hp, rfl⟩ := hp
            refine he C _ _ { s with heap := h₄, toks := tk₄ } (D :: X) q r q' _ _ l₄ e5 fun u h₅ tk₅ k₅ l₅ ru => ?_
            have kk₅ : Kp [] h₃ h₅ := full (k₄.trans k₅) l₅
            have jj₅ := jj₃.kp kk₅
            have pl₅ : h₅.PlainList D (List.toArray vs) := Plain.kp kk₅ List.not_mem_nil pl₃
            refine wpAny_list_append_plain (s := { s with heap := h₅, toks := tk₅ }) pl₅ (fun h₆ pl₆ sb => ?_) (by rw [List.size_toArray, rl.length, sizeLine_eq]; omega)
            rw [List.push_toArray] at pl₆
            have kD : ∀ b o, b ≠ D → h₅.get? b = some o → h₆.get? b = some o := fun b o n e => (sb.2 b n).trans e
            have rr : ∀ v d, Rep (D :: X) h₅ v d → Rep (D :: X) h₆ v d := (rep_move fun a o na e _ => ⟨kD a o (fun q => na (q ▸ List.mem_cons_self)) e, na⟩).1 |> fun f v d => f d v
            have rrL : ∀ v d, RepL (D :: X) h₅ v d → RepL (D :: X) h₆ v d := (rep_move fun a o na e _ => ⟨kD a o (fun q => na (q ▸ List.mem_cons_self)) e, na⟩).2 |> fun f v d => f d v
            have old5 : ∀ b o, b ∉ wr → s.heap.get? b = some o → h₅.get? b = some o := fun b o n e => kk₅.all b o (old3 b o n e)
            refine go (it.W.frame _ _ _ st₃ fun b hb o e => kD b o (fun q => nDfp (q ▸ hb)) (kk₅.all b o e)) ((hn₃.keeps kk₅.all).at' fun o e => kD C o (Ne.symm hDC) e) (jj₅.scratch List.mem_cons_self nD0 (hDown _ old5) sb pl₆) pl₆ ?_ (rs₄ := rs₁ ++ [r]) ?_
              (fun i' v hi hP => let ⟨d, e, r⟩ := it3 i' v hi hP; ⟨d, e, rr _ _ (r.kp kk₅.nil)⟩) hp (by rw [List.append_assoc]; exact happ) (fun b o n e => kD b o (fun q => by subst q; rw [fD] at e; cases e) (old5 b o n e))
            · exact (rrL _ _ (rl3.kp kk₅.nil)).append (by rw [RepL.one]; exact rr _ _ ru)
            · rw [List.length_append]; simp only [List.length_cons, List.length_nil]; omega
    · have hj' : j = ds.length := Nat.le_antisymm hj hge
      subst hj'
      refine it.W.done _ _ _ st fun h₂ tk₂ hk₂ => ?_
      obtain ⟨jj₂, r₂, rl₂, nl, _⟩ := jj.odd hk₂ (fun b m => Odd.fields jj (it.fields _ h st b m)) it.offB
      have hn₂ : h₂.Ns C m := hn.at' fun o e => hk₂ _ o nCwr e
      have pl₂ : h₂.PlainList D (List.toArray vs) := let ⟨q, e⟩ := pl; ⟨q, hk₂ _ _ (nl _ _ pl.isList) e⟩
      have old2 : ∀ b o, b ∉ wr → s.heap.get? b = some o → h₂.get? b = some o := fun b o n e => hk₂ b o n (old b o n e)
      rw [List.drop_length] at hdrop
      subst hdrop
      simp only [pComp, Option.some.injEq] at hp
      subst hp
      rw [List.append_nil] at happ
      subst happ
      exact hRR D C h₂ tk₂ vs m fD fC hDC hn₂ (jj₂.shrink nD0 (hDown _ old2)) jj₂ pl₂ (rl₂ _ _ _ rl) old2
  exact codeAny_compStart_list (loop _ rfl) (it.W.self 0 _ _ _ st1 (loop _ rfl))
end
end NN
end

section
open PySem PySem.W PyProof.Rows PySem.Calls PySem.Spec
set_option Elab.async false
set_option autoImplicit false
set_option maxRecDepth 100000

namespace NN
section
variable {c : Cx}

noncomputable def pLC (x : String) (vis : List String) (t : PE Bool) (p : PE PV) (it : PE (List PV)) : PE (List PV) := fun ps => match it ps with
  | none => none
  | some (ds, ps') => if ds.length ≤ 2 ^ 20 ∧ ∀ y ∈ vis, ps'.own ≠ some y ∧ ps'.par ≠ some y then (pComp x vis t p ps' ds).map fun rs => (rs, ps') else none

theorem pLC_inv {x : String} {vis : List String} {t : PE Bool} {p : PE PV} {it : PE (List PV)} {ps ps' : PS} {rs : List PV} (h : pLC x vis t p it ps = some (rs, ps')) :
    ∃ ds, it ps = some (ds, ps') ∧ ds.length ≤ 2 ^ 20 ∧ (∀ y ∈ vis, ps'.own ≠ some y ∧ ps'.par ≠ some y) ∧ pComp x vis t p ps' ds = some rs := by
  unfold pLC at h
  split at h
  · cases h
  · rename_i ds ps₁ e
    split at h
    · rename_i hq
      simp only [Option.map_eq_some_iff, Prod.mk.injEq] at h
      obtain ⟨rs', e2, rfl, rfl⟩ := h
      exact ⟨ds, e, hq.1, hq.2, e2⟩
    · cases h

theorem fv_comp {elt iter : Expr} {x : String} {px pos : Pos} {ifs : List Expr} {scope : Scope} {cl : List (Str × Addr)} {vis : List String} {t : PE Bool} {p : PE PV} {pi : PE (List PV)} (cs : CS c scope cl x vis)
    (hit : IV c iter pi) (ht : ∀ C B X₀, CTV (cc c scope cl C B X₀) ifs t) (he : ∀ C B X₀, EV (cc c scope cl C B X₀) elt p) (hs : ∀ x, foldedSetIterable iter c.env x = pure x := by intro _; rfl) :
    FV c (.ListComp elt [⟨.Name (Str.ofString x) px, iter, ifs, 0⟩] scope pos) (pLC x vis t p pi) := by
  intro s X ps rs ps' Q E i hp hQ
  obtain ⟨ds, e1, hl, hv, hr⟩ := pLC_inv hp
  rw [eval_ListComp]
  refine wpAny_comprehension_free (use := none) rfl hs cs.clos cs.kind cs.names (hit s X ps ds ps' _ _ i e1 fun I fp wr P St h₁ tk₁ k₁ i₁ it hw => ?_)
  refine comp_core (RR := fun acc C => compPost (model pw c.w) c.A E none Q acc C) (s := { s with heap := h₁, toks := tk₁ }) cs ht he i₁ hv it hr hl ?_
  intro D C h' tk vs m' fD fC hDC hn i' j' pl rl old
  refine ⟨m', hn, fun h'' hs'' => ?_⟩
  have hk : ∀ b o, b ∉ [C] → h'.get? b = some o → h''.get? b = some o := fun b o n e => (hs''.2 b (fun q => n (q ▸ List.mem_singleton.mpr rfl))).trans e
  have oddC : ∀ b ∈ [C], Odd c.env h' b := by
    obtain ⟨o, es, ep, e, hd, _⟩ := hn
    intro b hb
    obtain rfl := List.mem_singleton.mp hb
    exact ⟨(new_off i₁ fC).2, o, e, (fun _ _ q => by rw [hd] at q; cases q), (fun _ q => by rw [hd] at q; cases q)⟩
  have nB : ∀ b ∈ [C], ∀ o, ¬ c.B b o := fun b q => by obtain rfl := List.mem_singleton.mp q; exact i₁.notB fC
  obtain ⟨i₂, _⟩ := i'.odd hk oddC nB
  obtain ⟨j₂, _, rl₂, nl, _⟩ := j'.odd hk oddC nB
  have nk : ∀ {b : Addr}, h₁.get? b = none → s.heap.get? b = none := fun f => by
    rename_i b
    cases e : s.heap.get? b with
    | none => rfl
    | some o =>
      by_cases m : b ∈ X
      · obtain ⟨o', e'⟩ := i₁.live b m
        rw [f] at e'; cases e'
      · have := k₁ b o m e
        rw [f] at this; cases this
  refine hQ D vs h'' tk (nk fD) (fun b o n e => ?_) i₂ j₂ (let ⟨q, e⟩ := pl; ⟨q, hk _ _ (nl _ _ pl.isList) e⟩) (rl₂ _ _ _ rl)
  refine hk b o (fun q => ?_) (old b o (fun q => by have := hw b q; rw [show s.heap.get? b = some o from e] at this; cases this) (k₁ b o n e))
  obtain rfl := List.mem_singleton.mp q
  have := nk fC
  rw [show s.heap.get? b = some o from e] at this
  cases this

noncomputable def pAssignC (y : String) (q : PE (List PV)) : PSt := fun ps => match q ps with
  | none => none
  | some (rs, ps') => (pPut y ps' (.lst rs)).map fun ps'' => (.next, ps'')

theorem sv_assign_comp {elt iter : Expr} {x y : String} {px py pos spos : Pos} {ifs : List Expr} {scope : Scope} {cl : List (Str × Addr)} {vis : List String} {t : PE Bool} {p : PE PV} {pi : PE (List PV)} (n : SN c.env y) (cs : CS c scope cl x vis)
    (hit : IV c iter pi) (ht : ∀ C B X₀, CTV (cc c scope cl C B X₀) ifs t) (he : ∀ C B X₀, EV (cc c scope cl C B X₀) elt p)
    (hsw : swapsWith (.ListComp elt [⟨.Name (Str.ofString x) px, iter, ifs, 0⟩] scope pos) (some (.Name (Str.ofString y) py)) spos.line c.env = pure true) (hs : ∀ x, foldedSetIterable iter c.env x = pure x := by intro _; rfl) :
    SV c (.Assign [.Name (Str.ofString y) py] (.ListComp elt [⟨.Name (Str.ofString x) px, iter, ifs, 0⟩] scope pos) spos) (pAssignC y (pLC x vis t p pi)) := by
  intro s X ps o ps' Q E i hp hQ
  unfold pAssignC at hp
  cases e0 : pLC x vis t p pi ps with
  | none => rw [e0] at hp; cases hp
  | some r =>
    obtain ⟨rs, ps₁⟩ := r
    rw [e0] at hp
    simp only [Option.map_eq_some_iff, Prod.mk.injEq] at hp
    obtain ⟨ps₂, e2, rfl, rfl⟩ := hp
    obtain ⟨q1, q2, rfl⟩ := pPut_inv e2
    obtain ⟨ds, e1, hl, hv, hr⟩ := pLC_inv e0
    rw [exec_Assign_Name_used _ _ _ _ hsw]
    refine wpAny_bind (wpAny_standAt (wpAny_bind ?_))
    show wpAny _ c.A (do let _ ← comprehension (.ListComp elt [⟨.Name (Str.ofString x) px, iter, ifs, 0⟩] scope pos) scope c.env _ (newList []) false (eval iter c.env) (some (assign (.Name (Str.ofString y) py) c.env))) _ _ s
    refine wpAny_bind (wpAny_mono (wpAny_comprehension_free (use := some (assign (.Name (Str.ofString y) py) c.env)) (Q := fun _ s' => Q .next s') rfl hs cs.clos cs.kind cs.names
      (hit s X ps ds ps₁ _ _ i e1 fun I fp wr P St h₁ tk₁ k₁ i₁ it hw => ?_)) (fun _ s' hq => wpAny_pure (wpAny_pure hq)) fun _ _ e => e)
    refine comp_core (RR := fun acc C => compPost (model pw c.w) c.A E (some (assign (.Name (Str.ofString y) py) c.env)) (fun _ s' => Q .next s') acc C) (s := { s with heap := h₁, toks := tk₁ }) cs ht he i₁ hv it hr hl ?_
    intro D C h' tk vs m' fD fC hDC hn i' j' pl rl old
    show wpAny _ c.A (assign (.Name (Str.ofString y) py) c.env (.ref D)) _ _ _
    have nDX := (new_off i₁ fD).1
    have rD : Rep X h' (.ref D) (.lst rs) := by
      simp only [Rep]
      exact ⟨D, vs, rfl, nDX, pl.isList, rl.anti fun b m => List.mem_cons_of_mem _ m⟩
    refine assign_Name (store_tree (s := { s with heap := h', toks := tk }) n i' rD q1 q2 fun h₂ tk₂ i₂ hs₂ => ?_)
    have hn₂ : h₂.Ns C m' := hn.at' fun o e => (hs₂.2 C (new_off i₁ fC).2).trans e
    refine ⟨m', hn₂, fun h₃ hs₃ => ?_⟩
    have oddC : ∀ b ∈ [C], Odd c.env h₂ b := by
      obtain ⟨o, es, ep, e, hd, _⟩ := hn₂
      intro b hb
      obtain rfl := List.mem_singleton.mp hb
      exact ⟨(new_off i₁ fC).2, o, e, (fun _ _ q => by rw [hd] at q; cases q), (fun _ q => by rw [hd] at q; cases q)⟩
    obtain ⟨i₃, _⟩ := i₂.odd (fun b o n e => (hs₃.2 b (fun q => n (q ▸ List.mem_singleton.mpr rfl))).trans e) oddC (fun b q => by obtain rfl := List.mem_singleton.mp q; exact i₁.notB fC)
    exact hQ .next h₃ tk₂ X i₃ trivial
end
end NN
end

section
open PySem PySem.W PyProof.Rows PySem.Calls PySem.Spec
set_option Elab.async false
set_option autoImplicit false
set_option maxRecDepth 100000

namespace NN
section
variable {c : Cx}

/-! loops, told without fuel -/
theorem pWhile_more {t : PE Bool} {b : PSt} {r : PF × PS} : ∀ {n m : Nat} {ps : PS}, pWhile t b n ps = some r → n ≤ m → pWhile t b m ps = some r
  | 0, _, _, h, _ => by simp [pWhile] at h
  | n + 1, 0, _, _, hm => by omega
  | n + 1, m + 1, ps, h, hm => by
    simp only [pWhile] at h ⊢
    split at h
    · cases h
    · exact h
    · split at h
      · cases h
      · exact h
      · exact pWhile_more h (by omega)
open Classical in
noncomputable def pWh (t : PE Bool) (b : PSt) : PSt := fun ps => if h : ∃ r, ∃ N, pWhile t b N ps = some r then some h.choose else none
theorem pWh_of {t : PE Bool} {b : PSt} {r : PF × PS} {N : Nat} {ps : PS} (h : pWhile t b N ps = some r) : pWh t b ps = some r := by
  have hx : ∃ r, ∃ N, pWhile t b N ps = some r := ⟨r, N, h⟩
  unfold pWh
  rw [dif_pos hx]
  obtain ⟨M, hM⟩ := hx.choose_spec
  have e1 := pWhile_more hM (Nat.le_max_left M N)
  have e2 := pWhile_more h (Nat.le_max_right M N)
  rw [e1] at e2
  exact e2
theorem pWh_inv {t : PE Bool} {b : PSt} {r : PF × PS} {ps : PS} (h : pWh t b ps = some r) : ∃ N, pWhile t b N ps = some r := by
  unfold pWh at h
  split at h
  · rename_i hx
    cases h
    exact hx.choose_spec
  · cases h
theorem sv_wh {e : Expr} {bs : List Stmt} {pos : Pos} {t : PE Bool} {b : PSt} (ht : TV c e t) (hb : SSV c bs b) : SV c (.While e bs [] pos) (pWh t b) := by
  intro s X ps o ps' Q E i hp hQ
  obtain ⟨N, h⟩ := pWh_inv hp
  exact sv_while N ht hb s X ps o ps' Q E i h hQ
/-- one turn at a time -/
theorem pWh_stop {t : PE Bool} {b : PSt} {ps ps' : PS} (h : t ps = some (false, ps')) : pWh t b ps = some (.next, ps') := pWh_of (N := 1) (by simp only [pWhile, h])
theorem pWh_turn {t : PE Bool} {b : PSt} {ps ps₁ ps₂ : PS} {r : PF × PS} (h : t ps = some (true, ps₁)) (h2 : b ps₁ = some (.next, ps₂)) (h3 : pWh t b ps₂ = some r) : pWh t b ps = some r := by
  obtain ⟨N, h4⟩ := pWh_inv h3
  exact pWh_of (N := N + 1) (by simp only [pWhile, h, h2]; exact h4)

noncomputable def pNo : PSt := fun _ => none
theorem sv_no {st : Stmt} : SV c st pNo := fun _ _ _ _ _ _ _ _ hp _ => by cases hp

/-! calls of the top's own functions -/
structure Pre (A : Around) (hb : Heap) (k : Nat) : Prop where
  hnd : Hd A hb
  depth : A.depth + k + 151 < recursionLimit
  units : A.units + 10 * k + 103 < cLine
  fr : ∃ l, A.frames = some l

noncomputable def Fn (mg : Str → Option Value) (hb : Heap) (k : Nat) (f : String) (sp : List PV → Option PV) : Prop :=
  ∃ fa o fd, mg (Str.ofString f) = some (.ref fa) ∧ hb.get? fa = some o ∧ o.data = .func fd ∧
    ∀ (w : World) (A : Around) (s : Shared) (X : List Addr) (vals : List Value) (ds : List PV) (d : PV) (Q : Value → Shared → Prop) (E : Value → Shared → Prop),
      Pre A hb k → Kp [] hb s.heap → (∀ a ∈ X, hb.get? a = none ∧ ∃ o, s.heap.get? a = some o) → RepL X s.heap vals ds → sp ds = some d →
      (∀ v h' tk, Kp [] s.heap h' → Rep X h' v d → Q v { s with heap := h', toks := tk }) → wpAny (model pw w) A (call (.ref fa) vals) Q E s

noncomputable def pCall (sp : List PV → Option PV) (q : PE (List PV)) : PE PV := fun ps => match q ps with
  | none => none
  | some (ds, ps') => (sp ds).map fun d => (d, ps')

theorem ev_callF {mg : Str → Option Value} {f : String} {k k' : Nat} {sp : List PV → Option PV} {np pos : Pos} {e : Expr} {es : List Expr} {q : PE (List PV)} (F : Fn mg c.hb k f sp) (ok : Ok c k') (hk : k + 1 ≤ k')
    (hn : ∀ v, mg (Str.ofString f) = some v → NV c (Str.ofString f) v) (h1 : LV c (e :: es) q)
    (hs : starEach (e :: es) c.env = (false, eval e c.env) :: starEach es c.env := by rfl) : EV c (.Call (.Name (Str.ofString f) np) (e :: es) [] pos) (pCall sp q) := by
  intro s X ps d ps' Q E i hp hQ
  unfold pCall at hp
  cases e1 : q ps with
  | none => rw [e1] at hp; cases hp
  | some r =>
    obtain ⟨ds, ps₁⟩ := r
    rw [e1] at hp
    simp only [Option.map_eq_some_iff, Prod.mk.injEq] at hp
    obtain ⟨d', e2, rfl, rfl⟩ := hp
    obtain ⟨fa, o, fd, hm, ho, hd, F⟩ := F
    refine wpAny_Call_NameR (hn _ hm np s X ps _ _ i ?_)
    refine Calls.callWith_function (o := o) (fd := fd) ?_
    have key : wpAny (model pw c.w) c.A (spliced (backTo pos (starEach (e :: es) c.env))) (fun vs s₁ => (s₁.heap.get? fa = some o ∧ o.data = .func fd) ∧ wpAny (model pw c.w) c.A (call (.ref fa) ([] ++ vs) []) Q E s₁) E s := by
      refine h1 pos s X ps ds ps₁ _ _ i e1 fun vs h₁ tk₁ k₁ i₁ r₁ => ⟨⟨i₁.hbKp.all _ _ ho, hd⟩, ?_⟩
      rw [List.nil_append]
      obtain ⟨e0, l, hf, _⟩ := ok.fr
      exact F c.w c.A _ X vs ds d' Q E ⟨ok.hnd, by have := ok.depth; omega, by have := ok.units; omega, ⟨_, hf⟩⟩ i₁.hbKp (fun a m => ⟨i₁.offH a m, i₁.live a m⟩) r₁ e2 fun v h' tk k' r' => hQ v h' tk (k₁.trans k'.nil) (i₁.kp k') r'
    rw [hs] at key ⊢
    exact Calls.evalArgs_plain (f := .ref fa) key
end
end NN
end

section
open PySem PySem.W PyProof.Rows PySem.Calls PySem.Spec
set_option Elab.async false
set_option autoImplicit false
set_option maxRecDepth 100000

namespace NN
noncomputable def rt (a b : Int) : PV := .tup [.int a, .int b]
noncomputable def gtrees : List (String × PV) := [("R0", rt 0 1), ("R1", rt 1 1), ("F0", .tup [.lst [], .lst [rt 1 1]]), ("F1", .tup [.lst [rt 1 1], .lst [rt 1 1]])]

/-- what the top bears -/
structure Base (mg mb : Str → Option Value) (hb : Heap) : Prop where
  g : hb.Ns mainGlobals mg
  b : hb.Ns builtinsNs mb
  lim : hb.NoLimit
  seer : hb.NoSeer
  fn : ∀ d ∈ recsOf pw, ∃ a o pm code doc, mg d.name = some (.ref a) ∧ hb.get? a = some o ∧ o.data = .func (docDef d.name d.params d.body d.scope pm code doc) ∧ hb.CodeRec code d.name
  free : ∀ y ∈ bnames, mg (Str.ofString y) = none
  boot : ∀ x : Str, x ≠ "__name__" → mb x = bootBuiltins x
  tree : ∀ p ∈ gtrees, ∃ v, mg (Str.ofString p.1) = some v ∧ Rep [] hb v p.2

structure G (mg mb : Str → Option Value) (k : Nat) (c : Cx) : Prop where
  base : Base mg mb c.hb
  en : EnvOk c.env
  ok : Ok c k

section
variable {c : Cx} {mg mb : Str → Option Value} {k : Nat}
theorem G.withB (g : G mg mb k c) (B : Addr → Obj → Prop) : G mg mb k { c with B := B } := ⟨g.base, g.en, ⟨g.ok.hnd, g.ok.depth, g.ok.units, g.ok.fr, g.ok.lim, g.ok.seer⟩⟩
theorem G.cc (g : G mg mb k c) (scope : Scope) (hk : scope.kind = .function) (cl : List (Str × Addr)) (C : Addr) (B : Addr → Obj → Prop) (X₀ : List Addr) : G mg mb k (cc c scope cl C B X₀) :=
  ⟨g.base, ⟨g.en.g, g.en.b, hk⟩, ⟨g.ok.hnd, g.ok.depth, g.ok.units, g.ok.fr, g.ok.lim, g.ok.seer⟩⟩
theorem G.nv (g : G mg mb k c) {x : Str} {v : Value} (hm : mg x = some v) (hx : c.env.kindOf x = some .globalImplicit) (hd : (x == ("__debug__" : Str)) = false) : NV c x v :=
  nv_glob g.base.g hm g.en hx hd
theorem G.nvb (g : G mg mb k c) {x : String} {v : Value} (hx : x ∈ bnames) (hv : bootBuiltins (Str.ofString x) = some v) (hk : c.env.kindOf (Str.ofString x) = some .globalImplicit) (hn : Str.ofString x ≠ "__name__" := by decide) (hd : (Str.ofString x == ("__debug__" : Str)) = false := by decide) :
    NV c (Str.ofString x) v :=
  nv_built g.base.g (g.base.free x hx) g.base.b ((g.base.boot _ hn).trans hv) g.en hk hd
theorem G.tree (g : G mg mb k c) {x : String} {d : PV} (hx : (x, d) ∈ gtrees) {pos : Pos} (hk : c.env.kindOf (Str.ofString x) = some .globalImplicit) (hd : (Str.ofString x == ("__debug__" : Str)) = false := by decide) :
    EV c (.Name (Str.ofString x) pos) (pK d) := by
  obtain ⟨v, h1, h2⟩ := g.base.tree _ hx
  exact ev_glob g.base.g h1 h2 g.en.g g.en.k hk hd
theorem G.call (g : G mg mb k c) {f : String} {k' : Nat} {sp : List PV → Option PV} {np pos : Pos} {e : Expr} {es : List Expr} {q : PE (List PV)} (F : Fn mg c.hb k' f sp) (hk : k' + 1 ≤ k)
    (hx : c.env.kindOf (Str.ofString f) = some .globalImplicit) (hd : (Str.ofString f == ("__debug__" : Str)) = false) (h1 : LV c (e :: es) q)
    (hs : starEach (e :: es) c.env = (false, eval e c.env) :: starEach es c.env := by rfl) : EV c (.Call (.Name (Str.ofString f) np) (e :: es) [] pos) (pCall sp q) :=
  ev_callF F g.ok hk (fun _ hv => g.nv hv hx hd) h1 hs
end

/-! the entry into a def -/
theorem bindL_cons (kindOf : Str → Option NameKind) (n : Str) (v : Value) (r : List (Str × Value)) (m : Str → Option Value) : bindL kindOf ((n, v) :: r) m = bindL kindOf r (if kindOf n = some .local then fun y => if y = n then some v else m y else m) := rfl
theorem bindC_cons (kindOf : Str → Option NameKind) (n : Str) (v : Value) (r : List (Str × Value)) (m : Str → Option Value) : bindC kindOf ((n, v) :: r) m = bindC kindOf r (if kindOf n = some .local then m else fun y => if y = n then some v else m y) := rfl
theorem bindL_skip {kindOf : Str → Option NameKind} {x : Str} : ∀ {binds : List (Str × Value)} {m : Str → Option Value}, x ∉ binds.map (·.1) → bindL kindOf binds m x = m x
  | [], _, _ => rfl
  | (n, w) :: r, m, h => by
    simp only [List.map_cons, List.mem_cons, not_or] at h
    rw [bindL_cons, bindL_skip h.2]
    split
    · simp only [if_neg h.1]
    · rfl
theorem bindL_get {kindOf : Str → Option NameKind} {x : Str} {v : Value} (hk : kindOf x = some .local) : ∀ {binds : List (Str × Value)} {m : Str → Option Value}, (binds.map (·.1)).Nodup → (x, v) ∈ binds → bindL kindOf binds m x = some v
  | [], _, _, h => by cases h
  | (n, w) :: r, m, hn, h => by
    simp only [List.map_cons, List.nodup_cons] at hn
    rcases List.mem_cons.mp h with q | q
    · cases q
      rw [bindL_cons, bindL_skip hn.1, if_pos hk]
      simp
    · rw [bindL_cons]
      exact bindL_get hk hn.2 q
theorem bindC_skip {kindOf : Str → Option NameKind} {x : Str} : ∀ {binds : List (Str × Value)} {m : Str → Option Value}, x ∉ binds.map (·.1) → bindC kindOf binds m x = m x
  | [], _, _ => rfl
  | (n, w) :: r, m, h => by
    simp only [List.map_cons, List.mem_cons, not_or] at h
    rw [bindC_cons, bindC_skip h.2]
    split
    · rfl
    · simp only [if_neg h.1]
theorem bindC_get {kindOf : Str → Option NameKind} {x : Str} {v : Value} (hk : kindOf x ≠ some .local) : ∀ {binds : List (Str × Value)} {m : Str → Option Value}, (binds.map (·.1)).Nodup → (x, v) ∈ binds → bindC kindOf binds m x = some v
  | [], _, _, h => by cases h
  | (n, w) :: r, m, hn, h => by
    simp only [List.map_cons, List.nodup_cons] at hn
    rcases List.mem_cons.mp h with q | q
    · cases q
      rw [bindC_cons, bindC_skip hn.1, if_neg hk]
      simp
    · rw [bindC_cons]
      exact bindC_get hk hn.2 q

noncomputable def args (xs : List String) (ds : List PV) : PS := { loc := fun y => (xs.zip ds).lookup y }
/-- what a def gives back, as its body tells it -/
noncomputable def run (xs : List String) (p : PSt) (ds : List PV) : Option PV := if ds.length = xs.length then match p (args xs ds) with
  | some (.ret d, _) => some d
  | _ => none else none

theorem mem_zip_of {X : List Addr} {h : Heap} {y : String} {d : PV} : ∀ {xs : List String} {vals : List Value} {ds : List PV}, RepL X h vals ds → (xs.zip ds).lookup y = some d → ∃ v, (Str.ofString y, v) ∈ (xs.map Str.ofString).zip vals ∧ Rep X h v d
  | [], _, _, _, h => by simp at h
  | x :: xs, vals, [], _, h => by simp at h
  | x :: xs, vals, d' :: ds, r, h => by
    obtain ⟨v, ws, rfl, r1, r2⟩ := r.cons_inv
    simp only [List.zip_cons_cons, List.lookup_cons] at h
    cases q : y == x with
    | true =>
      rw [q] at h
      cases h
      rw [eq_of_beq q]
      exact ⟨v, by simp, r1⟩
    | false =>
      rw [q] at h
      obtain ⟨u, h1, h2⟩ := mem_zip_of r2 h
      exact ⟨u, by simp only [List.map_cons, List.zip_cons_cons]; exact List.mem_cons_of_mem _ h1, h2⟩

theorem fn_intro {mg mb : Str → Option Value} {hb : Heap} {k : Nat} (Bs : Base mg mb hb) {name : String} {d : DefRec} {xs : List String} {p : PSt} (hd : d ∈ recsOf pw) (hn : d.name = Str.ofString name)
    (hbind : ∀ (vals : List Value) (pm cd doc : Value), vals.length = xs.length → bindArgs (docDef d.name d.params d.body d.scope pm cd doc) ⟨vals, []⟩ = pure ((xs.map Str.ofString).zip vals))
    (hnod : (xs.map Str.ofString).Nodup) (hdbg : ∀ x ∈ xs, (Str.ofString x == ("__debug__" : Str)) = false)
    (hkind : ∀ x ∈ xs, d.scope.names.lookup (Str.ofString x) = some .local ∨ (d.scope.names.lookup (Str.ofString x) = some .cell ∧ ∀ n, ((cellsFrom n d.scope.names []).lookup (Str.ofString x)).isSome = true))
    (hco : d.scope.isCoroutine = false) (hgen : d.scope.isGenerator = false) (hk : d.scope.kind = .function)
    (walk : ∀ (w : World) (A : Around) (B : Addr → Obj → Prop) (X₀ : List Addr) (L a : Addr) (cd : Value), G mg mb k ⟨w, A, hb, B, X₀, envOfC d.name d.scope L a cd⟩ → SSV ⟨w, A, hb, B, X₀, envOfC d.name d.scope L a cd⟩ d.body p) :
    Fn mg hb k name (run xs p) := by
  obtain ⟨fa, o, pm, code, doc, h1, h2, h3, h4⟩ := Bs.fn d hd
  refine ⟨fa, o, _, hn ▸ h1, h2, h3, ?_⟩
  intro w A s X vals ds r Q E pre kb off rl hr hQ
  unfold run at hr
  split at hr
  · rename_i hlen
    split at hr
    · rename_i r' ps' e
      cases hr
      have hvl : vals.length = xs.length := rl.length.trans hlen
      have kall : ∀ b o, hb.get? b = some o → s.heap.get? b = some o := fun b o e => kb.all b o e
      have hz : ((xs.map Str.ofString).zip vals).map (·.1) = xs.map Str.ofString := List.map_fst_zip (by rw [List.length_map, hvl]; exact Nat.le_refl _)
      have hnod' : (((xs.map Str.ofString).zip vals).map (·.1)).Nodup := by rw [hz]; exact hnod
      refine wpAny_call (call_cells_ret (name := d.name) (binds := (xs.map Str.ofString).zip vals) (by have := pre.depth; omega) (kall _ _ h2) h3 (Bs.lim.keeps kall) (h4.keeps kall) (hbind vals pm code doc hvl) ?_ ?_ hco hgen hk)
      · intro x hx
        obtain ⟨y, hy, e⟩ := List.mem_map.mp (List.of_mem_zip hx).1
        rw [← e]
        rcases hkind y hy with q | q
        · exact .inl q
        · exact .inr ⟨q.1, q.2 _⟩
      · intro h₁ tk F X'
        obtain ⟨l, hf⟩ := pre.fr
        have old : Kp [] s.heap h₁ := Kp.of fun b o e => F.keep b o e
        have nL : s.heap.get? s.heap.objs.size = none := size_none _
        have lX : ∀ a ∈ X, ∃ o, s.heap.get? a = some o := fun a m => (off a m).2
        have g : G mg mb k ⟨w, A.deeper (envOfC d.name d.scope s.heap.objs.size fa code), hb, fun a o => s.heap.get? a = some o, X, envOfC d.name d.scope s.heap.objs.size fa code⟩ := {
          base := Bs
          en := ⟨rfl, rfl, hk⟩
          ok := ⟨pre.hnd, by have := pre.depth; show A.depth + 1 + k + 150 < _; omega, by have := pre.units; show A.units + 3 + 10 * k + 100 < _; omega, ⟨_, l, by show A.frames.map _ = _; rw [hf]; rfl, hgen, hco, rfl, rfl⟩, Bs.lim, Bs.seer⟩ }
        have i : Inv hb (fun a o => s.heap.get? a = some o) X (envOfC d.name d.scope s.heap.objs.size fa code) h₁ (args xs ds) X := {
          base := fun a o e => F.keep a o e
          top := kall
          offB := fun o e => by have e2 : s.heap.get? s.heap.objs.size = some o := e; rw [nL] at e2; cases e2
          offX := fun m => by obtain ⟨o, e⟩ := lX _ m; have e2 : s.heap.get? s.heap.objs.size = some o := e; rw [nL] at e2; cases e2
          offC := fun y c e => by
            have hab := X'.above y c (mem_of_lookup e)
            refine ⟨fun m => ?_, Nat.ne_of_gt hab, _, X'.cell y c e⟩
            obtain ⟨o, e'⟩ := lX _ m
            exact Nat.lt_asymm hab (Heap.lt_size e')
          ns := ⟨_, F.ns⟩
          x0 := fun _ m => m
          mark := fun a m => .inl (lX a m)
          xB := fun a m => .inl m
          offH := fun a m => (off a m).1
          frz := fun y dd e _ _ => by
            obtain ⟨v, hm, r⟩ := mem_zip_of rl e
            obtain ⟨y', hy', e'⟩ := List.mem_map.mp (List.of_mem_zip hm).1
            obtain rfl := ofStr_inj e'
            refine ⟨v, ⟨hk, hdbg _ hy', ?_⟩, r.kp old.nil⟩
            rcases hkind _ hy' with q | q
            · exact .inl ⟨q, _, F.ns, bindL_get q hnod' hm⟩
            · obtain ⟨ca, hca⟩ := Option.isSome_iff_exists.mp (q.2 (s.heap.objs.size + 1))
              refine .inr ⟨.inl q.1, ca, hca, ?_⟩
              have nk : (envOfC d.name d.scope s.heap.objs.size fa code).kindOf (Str.ofString y') ≠ some .local := by rw [show (envOfC d.name d.scope s.heap.objs.size fa code).kindOf (Str.ofString y') = some .cell from q.1]; simp
              have := X'.cell _ _ hca
              rwa [bindC_get nk hnod' hm] at this
          own := fun y e => by cases e
          par := fun y e => by cases e }
        refine walk _ _ _ _ _ _ _ g { s with heap := h₁, toks := tk } X _ (.ret r) ps' _ _ i e fun fl h' tk' X'' i'' fr => ?_
        cases fl with
        | ret v => exact hQ v h' tk' (Kp.of fun b o e => i''.base b o e) fr
        | _ => cases fr
    · cases hr
  · cases hr
end NN
end

section
open PySem PySem.W PyProof.Rows PySem.Calls PySem.Spec
set_option Elab.async false
set_option autoImplicit false
set_option maxRecDepth 100000

namespace NN
section
variable {c : Cx}

/-- reversed(e) -/
noncomputable def pRv (p : PE PV) : PE (List PV) := fun ps => match p ps with
  | some (.lst ds, ps') => if ds.length ≤ 2 ^ 20 then some (ds.reverse, ps') else none
  | _ => none
theorem iv_reversed {x : Str} {np pos : Pos} {e : Expr} {p : PE PV} {k : Nat} (ok : Ok c k) (hn : NV c x (.type "reversed")) (h1 : EV c e p) (hs : starEach [e] c.env = [(false, eval e c.env)] := by rfl) :
    IV c (.Call (.Name x np) [e] [] pos) (pRv p) := by
  intro s X ps ds ps' K E i hp hK
  unfold pRv at hp
  split at hp
  · rename_i ds' ps₁ e1
    split at hp
    · simp only [Option.some.injEq, Prod.mk.injEq] at hp
      obtain ⟨rfl, rfl⟩ := hp
      refine wpAny_Call_NameR (hn np s X ps _ _ i ?_)
      rw [hs]
      refine PyProof.Rows.callWith_type rfl (Calls.evalArgs_plain (Calls.spliced_cons ?_))
      refine h1 s X ps _ ps₁ _ _ i e1 fun v h' tk k i' r => Calls.spliced_nil ?_
      simp only [Rep] at r
      obtain ⟨l, vs, rfl, nl, hl, hr⟩ := r
      refine call_reversed_list (s := { s with heap := h', toks := tk }) hl ?_
      have hlt : l < h'.objs.size := by obtain ⟨_, e, _⟩ := hl; exact Heap.lt_size e
      have hsz : (List.toArray vs).size = ds'.length := by rw [List.size_toArray, hr.length]
      have kp : Kp [] h' (h'.push (revObj l (((List.toArray vs).size : Int) - 1))) := Kp.push _
      have hit : (h'.push (revObj l (((List.toArray vs).size : Int) - 1))).IsRevIter h'.objs.size l (((List.toArray vs).size : Int) - 1) := ⟨_, get_size _ _ rfl, rfl, rfl⟩
      refine wpAny_pyIter_revIter hit ?_
      refine hK h'.objs.size ([h'.objs.size, l] ++ hx c.A) [h'.objs.size] (fun i v => vs.toArray[vs.toArray.size - 1 - i]? = some v) (fun i h => (i ≤ vs.toArray.size ∧ h.IsRevIter h'.objs.size l ((vs.toArray.size : Int) - 1 - (i : Int)) ∧ h.IsList l vs.toArray) ∧ Hd c.A h) _ tk (k.trans kp.nil) (i'.kp kp) ?_ (fun b m => by obtain rfl := List.mem_singleton.mp m; exact none_of_kp i' k (size_none _))
      have W := walks_rev (prog := pw) (w := c.w) (A := c.A) h'.objs.size l ((ok.hnd.keeps i'.hbKp.all).fresh) (Nat.ne_of_lt hlt) (List.toArray vs)
      refine { W := by rw [List.length_reverse, ← hsz]; exact W, st := ⟨⟨Nat.zero_le _, by simpa using hit, hl.push _⟩, (ok.hnd.keeps i'.hbKp.all).keeps fun _ _ e => Heap.get?_push_of_some _ e⟩, fields := ?_, there := ?_, offB := ?_, off := ?_, items := ?_ }
      · intro i h2 st b m
        obtain rfl := List.mem_singleton.mp m
        obtain ⟨o, e, _, hd⟩ := st.1.2.1
        exact ⟨o, _, e, hd⟩
      · intro i h2 st b m
        rcases List.mem_append.mp m with m | m
        · rcases List.mem_cons.mp m with rfl | m
          · obtain ⟨o, e, _⟩ := st.1.2.1; exact ⟨o, e⟩
          · obtain rfl := List.mem_singleton.mp m
            obtain ⟨o, e, _⟩ := st.1.2.2; exact ⟨o, e⟩
        · exact st.2.there b m
      · intro b m
        obtain rfl := List.mem_singleton.mp m
        exact i'.notB (size_none _)
      · intro b m
        rcases List.mem_append.mp m with m | m
        · rcases List.mem_cons.mp m with rfl | m
          · exact new_off i' (size_none _)
          · obtain rfl := List.mem_singleton.mp m
            obtain ⟨m, n⟩ := i'.ns
            exact ⟨nl, Look.ne_list n hl⟩
        · exact hx_off ok.hnd i' b m
      · intro i v hi e
        rw [List.length_reverse] at hi
        have hd : ds'.reverse[i]? = some (ds'[ds'.length - 1 - i]'(by omega)) := by
          rw [List.getElem?_reverse hi]
          exact List.getElem?_eq_getElem _
        obtain ⟨v', e2, r2⟩ := hr.get (i := ds'.length - 1 - i) (List.getElem?_eq_getElem (by omega))
        have e3 : vs[vs.length - 1 - i]? = some v := by simpa using e
        rw [hr.length, e2] at e3
        cases e3
        exact ⟨_, hd, r2.kp kp.nil⟩
    · cases hp
  · cases hp

/-- e[0] of pairs: for x, y in enumerate(e) -/
noncomputable def pTurnsE (x y : String) (b : PSt) : Nat → List PV → PSt
  | _, [] => fun ps => some (.next, ps)
  | n, d :: ds => fun ps => (pPuts [x, y] [.int n, d] ps).bind fun ps₁ => match b ps₁ with
    | none => none
    | some (.ret r, ps₂) => some (.ret r, ps₂)
    | some (_, ps₂) => pTurnsE x y b (n + 1) ds ps₂
noncomputable def pForE (x y : String) (p : PE PV) (b : PSt) : PSt := fun ps => match p ps with
  | some (.lst ds, ps₁) => if ds.length ≤ 2 ^ 20 then pTurnsE x y b 0 ds ps₁ else none
  | _ => none

inductive EI (c : Cx) (x y : String) (b : PSt) (ds : List PV) (vs : List Value) (o : PF) (ps' : PS) (it l : Addr) (s : Shared) (m : Nat) (s₁ : Shared) : Prop
  | mk (j : Nat) (h : Heap) (tk : Nat) (X : List Addr) (ps : PS) (em : m = ds.length - j) (hj : j ≤ ds.length) (es : s₁ = { s with heap := h, toks := tk }) (i : Inv c.hb c.B c.X₀ c.env h ps X)
      (st : ((∃ old, IsEnum h (it + 1) it (j : Nat) old) ∧ h.IsListIter it l j ∧ h.IsList l vs.toArray) ∧ Hd c.A h) (off : ∀ b ∈ [it + 1, it, l] ++ hx c.A, b ∉ X ∧ b ≠ c.env.locals)
      (its : ∀ (i : Nat) v, (List.toArray vs)[i]? = some v → ∃ d, ds[i]? = some d ∧ Rep X h v d) (hp : pTurnsE x y b j (ds.drop j) ps = some (o, ps')) : EI c x y b ds vs o ps' it l s m s₁
theorem sv_forE {x y : String} {xp yp tp pos np cp : Pos} {k n : Nat} {e : Expr} {f : Str} {bs : List Stmt} {p : PE PV} {b : PSt} (ok : Ok c k) (nx : SN c.env x) (ny : SN c.env y) (hn : NV c f (.type "enumerate")) (h1 : EV c e p) (hb : ∀ B, SSV { c with B := B } bs b)
    (hs1 : starEach [e] c.env = [(false, eval e c.env)] := by rfl)
    (hs : ∀ v, foldedSetIterable (.Call (.Name f np) [e] [] cp) c.env v = pure v := by intro _; rfl)
    (ha : assignEach [.Name (Str.ofString x) xp, .Name (Str.ofString y) yp] c.env = [(false, assign (.Name (Str.ofString x) xp) c.env), (false, assign (.Name (Str.ofString y) yp) c.env)] := by rfl) :
    SV c (.For (.Tuple [.Name (Str.ofString x) xp, .Name (Str.ofString y) yp] n tp) (.Call (.Name f np) [e] [] cp) bs [] pos) (pForE x y p b) := by
  intro s X ps o ps' Q E i hp hQ
  unfold pForE at hp
  split at hp
  · rename_i ds ps₁ e1
    split at hp
    · refine wpAny_For (wpAny_Call_NameR (hn np s X ps _ _ i ?_)) hs
      rw [hs1]
      refine PyProof.Rows.callWith_type rfl (Calls.evalArgs_plain (Calls.spliced_cons ?_))
      refine h1 s X ps _ ps₁ _ _ i e1 fun v h' tk k₁ i' r => Calls.spliced_nil ?_
      simp only [Rep] at r
      obtain ⟨l, vs, rfl, nl, hl, hr⟩ := r
      have hlt : l < h'.objs.size := by obtain ⟨_, e, _⟩ := hl; exact Heap.lt_size e
      refine call_enumerate_list (s := { s with heap := h', toks := tk }) hl fun h₁ he hit hsz hk => ?_
      dsimp only at he hit hsz hk ⊢
      refine wpAny_pyIter_enum he ?_
      generalize hI : h'.objs.size = it at he hit hsz hlt ⊢
      have hei : it + 1 ≠ it := Nat.succ_ne_self it
      have hle : l ≠ it + 1 := Nat.ne_of_lt (Nat.lt_succ_of_lt hlt)
      have hli : l ≠ it := Nat.ne_of_lt hlt
      have fI : h'.get? it = none := hI ▸ size_none _
      have fE : h'.get? (it + 1) = none := by
        cases q : h'.get? (it + 1) with
        | none => rfl
        | some o => exact absurd (Nat.lt_of_succ_lt (hI ▸ Heap.lt_size q)) (Nat.lt_irrefl _)
      have H' : Hd c.A h' := ok.hnd.keeps i'.hbKp.all
      have nI : it ∉ hx c.A := fun m => by obtain ⟨o, e⟩ := H'.there _ m; rw [fI] at e; cases e
      have nE : it + 1 ∉ hx c.A := fun m => by obtain ⟨o, e⟩ := H'.there _ m; rw [fE] at e; cases e
      have W := (walks_enum (prog := pw) (w := c.w) (A := c.A) (it + 1) it l nE nI hei hle hli vs.toArray).toU
      have kk : Kp [] h' h₁ := Kp.of hk
      have i₁ := i'.kp kk
      have hsize : (List.toArray vs).size = ds.length := by rw [List.size_toArray, hr.length]
      have wrB : ∀ b ∈ [it + 1, it], ∀ o, ¬ c.B b o := fun b m => by
        rcases List.mem_cons.mp m with rfl | m
        · exact i'.notB fE
        · obtain rfl := List.mem_singleton.mp m; exact i'.notB fI
      have fpO : ∀ b ∈ [it + 1, it, l] ++ hx c.A, b ∉ X ∧ b ≠ c.env.locals := fun b m => by
        rcases List.mem_append.mp m with m | m
        case inr => exact hx_off ok.hnd i' b m
        rcases List.mem_cons.mp m with rfl | m
        · exact new_off i' fE
        · rcases List.mem_cons.mp m with rfl | m
          · exact new_off i' fI
          · obtain rfl := List.mem_singleton.mp m
            obtain ⟨m, n⟩ := i'.ns
            exact ⟨nl, Look.ne_list n hl⟩
      have items : ∀ (i : Nat) v, (List.toArray vs)[i]? = some v → ∃ d, ds[i]? = some d ∧ Rep X h' v d := fun i v e => by
        have e' : vs[i]? = some v := by simpa using e
        have hlt : i < ds.length := by
          rw [← hr.length]
          rcases Nat.lt_or_ge i vs.length with q | q
          · exact q
          · rw [List.getElem?_eq_none q] at e'; cases e'
        obtain ⟨v', e2, r2⟩ := hr.get (List.getElem?_eq_getElem hlt)
        rw [e'] at e2; cases e2
        exact ⟨_, List.getElem?_eq_getElem hlt, r2⟩
      refine codeAny_forLoop_any (EI c x y b ds vs o ps' it l s) ?_ ds.length
        ⟨0, h₁, _, X, ps₁, rfl, Nat.zero_le _, rfl, i₁, ⟨⟨⟨_, he⟩, hit, IsList.kp kk List.not_mem_nil hl⟩, H'.keeps kk.all⟩, fpO, fun i v e => let ⟨d, e, r⟩ := items i v e; ⟨d, e, r.kp kk.nil⟩, by simpa using hp⟩
      rintro m s₁ ⟨j, h, tk, X, ps, rfl, hj, rfl, i, st, off, its, hp⟩
      have oddS : ∀ {h : Heap} {X : List Addr} {ps : PS} {j : Nat}, Inv c.hb c.B c.X₀ c.env h ps X → (((∃ old, IsEnum h (it + 1) it (j : Nat) old) ∧ h.IsListIter it l j ∧ h.IsList l vs.toArray) ∧ Hd c.A h) → ∀ b ∈ [it + 1, it], Odd c.env h b := by
        intro h X ps j i st b m
        rcases List.mem_cons.mp m with rfl | m
        · obtain ⟨old, e⟩ := st.1.1
          exact Odd.fields i ⟨_, _, e, rfl⟩
        · obtain rfl := List.mem_singleton.mp m
          obtain ⟨o, e, _, hd⟩ := st.1.2.1
          exact Odd.fields i ⟨_, _, e, hd⟩
      rcases Nat.lt_or_ge j ds.length with hlt | hge
      · refine W.item j _ _ _ (by rw [hsize]; exact hlt) st fun T vals h₂ tk₂ hP hT md hk₂ => ?_
        obtain ⟨t, u, hu, rfl⟩ := hP
        obtain ⟨i₂, r₂, rl₂, nl₂, nt₂⟩ := i.odd hk₂ (oddS i st) wrB
        have oddM : ∀ b ∈ [it + 1, it], Odd c.env h₂ b := by
          intro b m
          rcases List.mem_cons.mp m with rfl | m
          · obtain ⟨z, e⟩ := md.1.1
            exact Odd.fields i₂ ⟨_, _, e, rfl⟩
          · obtain rfl := List.mem_singleton.mp m
            obtain ⟨o, e, _, hd⟩ := md.1.2.1
            exact Odd.fields i₂ ⟨_, _, e, hd⟩
        have hap := W.apart j T h₂ md
        refine W.go _ _ _ j T { s with heap := h₂, toks := tk₂ } _ _ md fun h₃ st₃ hk₃ => ?_
        obtain ⟨i₃, r₃, rl₃, nl₃, nt₃⟩ := i₂.odd hk₃ oddM wrB
        have hT₃ : h₃.IsTuple T #[.int j t, u] := let ⟨o, e, q⟩ := hT; ⟨o, hk₃ _ _ hap e, q⟩
        obtain ⟨d, hd, rd⟩ := its j u hu
        have hdrop : ds.drop j = d :: ds.drop (j + 1) := by
          rw [List.drop_eq_getElem_cons hlt]
          have := List.getElem?_eq_getElem hlt
          rw [hd] at this
          rw [Option.some.inj this]
        rw [hdrop] at hp
        simp only [pTurnsE, Option.bind_eq_some_iff] at hp
        obtain ⟨ps₃, e3, hp⟩ := hp
        have its₃ : ∀ (i : Nat) v, (List.toArray vs)[i]? = some v → ∃ d, ds[i]? = some d ∧ Rep X h₃ v d := fun i' v e => let ⟨d, e, r⟩ := its i' v e; ⟨d, e, r₃ _ _ _ (r₂ _ _ _ r)⟩
        refine assign_t (s := { s with heap := h₃, toks := tk₂ }) (ok.hnd.keeps i₃.hbKp.all) hT₃ (by rw [ha]; rfl) (by rw [ha]; rfl) fun h₄ he₄ => ?_
        have k₄ : Kp [] h₃ h₄ := kp_new he₄
        rw [ha]
        show wpAny (model pw c.w) c.A (assignInOrder [assign (.Name (Str.ofString x) xp) c.env, assign (.Name (Str.ofString y) yp) c.env] [.int j t, u]) _ _ _
        obtain ⟨ps₄, q1, q2⟩ := Option.bind_eq_some_iff.mp e3
        obtain ⟨a1, a2, rfl⟩ := pPut_inv q1
        obtain ⟨ps₅, q3, q4⟩ := Option.bind_eq_some_iff.mp q2
        obtain ⟨b1, b2, rfl⟩ := pPut_inv q3
        cases q4
        refine wpAny_bind (wpAny_holding (assign_Name (store_tree (s := { s with heap := h₄, toks := tk₂ }) nx (i₃.kp k₄) (rep_int.mpr ⟨t, rfl⟩) a1 a2 fun h₅ tk₅ i₅ hs₅ => ?_)))
        refine wpAny_bind (wpAny_holding (assign_Name (store_tree (s := { s with heap := h₅, toks := tk₅ }) ny i₅ ((rep_local (i₃.kp k₄) hs₅).1 _ _ ((r₃ _ _ _ (r₂ _ _ _ rd)).kp k₄.nil)) b1 b2 fun h₆ tk₆ i₆ hs₆ => ?_)))
        refine wpAny_pure ?_
        have kp6 : ∀ b o, b ≠ c.env.locals → h₃.get? b = some o → h₆.get? b = some o := fun b o n e => (hs₆.2 b n).trans ((hs₅.2 b n).trans (k₄.all b o e))
        have st₆ := W.frame _ _ h₆ st₃ fun b hb o e => kp6 b o (off b hb).2 e
        have its₆ : ∀ (i : Nat) v, (List.toArray vs)[i]? = some v → ∃ d, ds[i]? = some d ∧ Rep X h₆ v d := fun i' v e => let ⟨d, e, r⟩ := its₃ i' v e; ⟨d, e, (rep_local i₅ hs₆).1 _ _ ((rep_local (i₃.kp k₄) hs₅).1 _ _ (r.kp k₄.nil))⟩
        cases e4 : b ((ps.set x (.int j)).set y d) with
        | none => rw [e4] at hp; cases hp
        | some q =>
          obtain ⟨o₂, ps₄⟩ := q
          rw [e4] at hp
          refine hb (more c.B c.env h₆ X) { s with heap := h₆, toks := tk₆ } X _ o₂ ps₄ _ _ i₆.more e4 fun fl h₇ tk₇ X₇ i₇ r₇ => ?_
          obtain ⟨i₇', kk⟩ := i₆.back i₇
          have next : ∀ (hp : pTurnsE x y b (j + 1) (ds.drop (j + 1)) ps₄ = some (o, ps')), ∃ m, m < ds.length - j ∧ EI c x y b ds vs o ps' it l s m ({ s with heap := h₇, toks := tk₇ } : Shared) := by
            intro hp
            have there : ∀ b ∈ [it + 1, it, l] ++ hx c.A, ∃ o, h₆.get? b = some o := fun b m => by
              rcases List.mem_append.mp m with m | m
              case inr => exact st₆.2.there b m
              rcases List.mem_cons.mp m with rfl | m
              · obtain ⟨old, e⟩ := st₆.1.1; exact ⟨_, e⟩
              · rcases List.mem_cons.mp m with rfl | m
                · obtain ⟨o, e, _⟩ := st₆.1.2.1; exact ⟨o, e⟩
                · obtain rfl := List.mem_singleton.mp m
                  obtain ⟨o, e, _⟩ := st₆.1.2.2; exact ⟨o, e⟩
            refine ⟨ds.length - (j + 1), by omega, j + 1, h₇, tk₇, X₇, ps₄, rfl, hlt, rfl, i₇', ?_, fun b hb => ?_, fun i' v e => ?_, hp⟩
            · exact W.frame _ _ h₇ st₆ fun b hb o e => (kk b o (off b hb).1 (off b hb).2 e).1
            · obtain ⟨o', e⟩ := there b hb
              exact ⟨(kk b o' (off b hb).1 (off b hb).2 e).2, (off b hb).2⟩
            · obtain ⟨d, e, r⟩ := its₆ i' v e
              refine ⟨d, e, (rep_move fun a o na e ⟨_, _, hd⟩ => kk a o na (fun q => ?_) e).1 d v r⟩
              obtain ⟨m, o', _, _, e', hd', _⟩ := i₆.ns
              subst q
              rw [e] at e'; cases e'; rw [hd] at hd'; cases hd'
          cases o₂ with
          | next =>
            cases fl with
            | next => exact next hp
            | _ => cases r₇
          | cont =>
            cases fl with
            | cont => exact next hp
            | _ => cases r₇
          | ret d =>
            cases hp
            cases fl with
            | ret v => exact hQ (.ret v) h₇ tk₇ X₇ i₇' r₇
            | _ => cases r₇
      · have hj' : j = ds.length := Nat.le_antisymm hj hge
        subst hj'
        refine W.done _ _ _ (by rw [hsize]; exact st) fun h₂ tk₂ hk₂ => ?_
        obtain ⟨i₂, _⟩ := i.odd hk₂ (oddS i st) wrB
        rw [List.drop_length] at hp
        cases hp
        exact wpAny_execs_nil (hQ .next h₂ tk₂ X i₂ trivial)
    · cases hp
  · cases hp
end
end NN
end

section
open PySem PySem.W PyProof.Rows PySem.Calls PySem.Spec
set_option Elab.async false
set_option autoImplicit false
set_option maxRecDepth 100000

namespace NN
section
variable {c : Cx}

/-- sum(e) of ints -/
noncomputable def intsOf : List PV → Option (List Int)
  | [] => some []
  | .int i :: xs => (intsOf xs).map (i :: ·)
  | _ :: _ => none
noncomputable def fSum : PV → Option PV
  | .lst xs => (intsOf xs).map fun ns => .int ns.sum
  | _ => none
theorem ints_are {X : List Addr} {h : Heap} : ∀ {xs : List PV} {ns : List Int} {vs : List Value}, intsOf xs = some ns → RepL X h vs xs → IntsAre vs ns
  | [], _, _, e, r => by cases e; rw [r.nil_inv]; exact .nil
  | .int i :: xs, _, _, e, r => by
    simp only [intsOf, Option.map_eq_some_iff] at e
    obtain ⟨ns, e, rfl⟩ := e
    obtain ⟨v, ws, rfl, r1, r2⟩ := r.cons_inv
    obtain ⟨t, rfl⟩ := rep_int.mp r1
    exact .cons _ _ (ints_are e r2)
  | .none :: _, _, _, e, _ => by cases e
  | .bool _ :: _, _, _, e, _ => by cases e
  | .str _ :: _, _, _, e, _ => by cases e
  | .tup _ :: _, _, _, e, _ => by cases e
  | .lst _ :: _, _, _, e, _ => by cases e
theorem un_sum (hh : c.A.handled = none) : UnS c (fun v => call (.builtin "sum") [v]) fSum := by
  intro s X ps x d a Q E i r e hQ
  unfold fSum at e
  split at e
  · simp only [Option.map_eq_some_iff] at e
    obtain ⟨ns, e, rfl⟩ := e
    obtain ⟨l, vs, rfl, hls, hr⟩ := r
    have hi := ints_are e hr
    obtain ⟨xs, hxs⟩ := hi.allInts.items
    rw [hxs] at hls
    refine sum_intListG hh hls fun h' tk t' hk => ?_
    have e2 : preSum (numAt xs) xs.size = ns.sum := by
      rw [preSum_eq, List.take_of_length_le (by simp), ← nums_intItems, ← hxs]
      have := hi.numsOf
      rw [show vs.toArray.toList = vs from rfl, this]
    rw [e2]
    exact hQ _ h' tk (Kp.of hk) (rep_int.mpr ⟨_, rfl⟩)
  · cases e

/-- int(e) of an int -/
noncomputable def fInt : PV → Option PV
  | .int i => some (.int i)
  | _ => none
theorem ev_int_of {x : Str} {np pos : Pos} {e : Expr} {p : PE PV} (hn : NV c x (.type "int")) (h1 : EV c e p) (hs : starEach [e] c.env = [(false, eval e c.env)] := by rfl) :
    EV c (.Call (.Name x np) [e] [] pos) (pUn fInt p) := by
  intro s X ps d ps' Q E i hp hQ
  obtain ⟨y, e1, e2⟩ := pUn_inv hp
  refine wpAny_Call_NameR (hn np s X ps _ _ i ?_)
  rw [hs]
  refine PyProof.Rows.callWith_type rfl (Calls.evalArgs_plain (Calls.spliced_cons ?_))
  refine h1 s X ps y ps' _ _ i e1 fun v h' tk k i' r => Calls.spliced_nil ?_
  unfold fInt at e2
  split at e2
  · cases e2
    obtain ⟨t, rfl⟩ := rep_int.mp r
    exact call_int_int (hQ _ h' tk k i' (rep_int.mpr ⟨_, rfl⟩))
  · cases e2

/-! functions that change a list of the caller's -/
noncomputable def FnP (mg : Str → Option Value) (hb : Heap) (k : Nat) (f : String) (sp : List PV → List PV → Option (PV × List PV)) : Prop :=
  ∃ fa o fd, mg (Str.ofString f) = some (.ref fa) ∧ hb.get? fa = some o ∧ o.data = .func fd ∧
    ∀ (w : World) (A : Around) (s : Shared) (X : List Addr) (a : Addr) (us vals : List Value) (pool ds : List PV) (d : PV) (pool' : List PV) (Q : Value → Shared → Prop) (E : Value → Shared → Prop),
      Pre A hb k → Kp [] hb s.heap → (∀ a ∈ X, hb.get? a = none ∧ ∃ o, s.heap.get? a = some o) → a ∈ X → s.heap.PlainList a us.toArray → RepL X s.heap us pool → RepL X s.heap vals ds → sp pool ds = some (d, pool') →
      (∀ v us' h' tk, (∀ b o, b ≠ a → s.heap.get? b = some o → h'.get? b = some o) → h'.PlainList a (List.toArray us') → RepL X h' us' pool' → Rep X h' v d → Q v { s with heap := h', toks := tk }) → wpAny (model pw w) A (call (.ref fa) (.ref a :: vals)) Q E s

noncomputable def pCallP (x : String) (sp : List PV → List PV → Option (PV × List PV)) (q : PE (List PV)) : PE PV := fun ps => match ps.loc x with
  | some (.lst _) => if ps.own = some x ∨ ps.par = some x then (match q ps with
    | none => none
    | some (ds, ps₁) => (match ps₁.loc x with
      | some (.lst pool) => if ps₁.own = some x ∨ ps₁.par = some x then (sp pool ds).map fun r => (r.1, ps₁.set x (.lst r.2)) else none
      | _ => none)) else none
  | _ => none

theorem ev_callP {mg : Str → Option Value} {f x : String} {k k' : Nat} {sp : List PV → List PV → Option (PV × List PV)} {np xp pos : Pos} {es : List Expr} {q : PE (List PV)} (F : FnP mg c.hb k f sp) (ok : Ok c k') (hk : k + 1 ≤ k')
    (hn : ∀ v, mg (Str.ofString f) = some v → NV c (Str.ofString f) v) (h1 : LV c es q)
    (hs : starEach (.Name (Str.ofString x) xp :: es) c.env = (false, eval (.Name (Str.ofString x) xp) c.env) :: starEach es c.env := by rfl) : EV c (.Call (.Name (Str.ofString f) np) (.Name (Str.ofString x) xp :: es) [] pos) (pCallP x sp q) := by
  intro s X ps d ps' Q E i hp hQ
  unfold pCallP at hp
  split at hp
  · rename_i ds₀ e0
    split at hp
    · rename_i hx0
      cases e1 : q ps with
      | none => rw [e1] at hp; cases hp
      | some r =>
        obtain ⟨ds, ps₁⟩ := r
        rw [e1] at hp
        simp only at hp
        split at hp
        · rename_i pool e2
          split at hp
          · rename_i hx1
            simp only [Option.map_eq_some_iff, Prod.mk.injEq] at hp
            obtain ⟨⟨d', pool'⟩, e3, rfl, rfl⟩ := hp
            obtain ⟨fa, o, fd, hm, ho, hd, F⟩ := F
            obtain ⟨a, us, la, pl, rl⟩ := i.mine hx0 e0
            refine wpAny_Call_NameR (hn _ hm np s X ps _ _ i ?_)
            refine Calls.callWith_function (o := o) (fd := fd) ?_
            have key : wpAny (model pw c.w) c.A (spliced (backTo pos (starEach (.Name (Str.ofString x) xp :: es) c.env))) (fun vs s₁ => (s₁.heap.get? fa = some o ∧ o.data = .func fd) ∧ wpAny (model pw c.w) c.A (call (.ref fa) ([] ++ vs) []) Q E s₁) E s := by
              refine wpAny_items_cons (la.name ?_) hs
              refine h1 pos s X ps ds ps₁ _ _ i e1 fun vs h₁ tk₁ k₁ i₁ r₁ => ⟨⟨i₁.hbKp.all _ _ ho, hd⟩, ?_⟩
              rw [List.nil_append]
              obtain ⟨e0, l, hf, _⟩ := ok.fr
              obtain ⟨b, us₁, lb, pl₁, rl₁⟩ := i₁.mine hx1 e2
              have := (la.kp k₁ i.offX (fun y c hc => (i.offC y c hc).1)).det lb
              cases this
              have haX : a ∈ X := by
                rcases hx1 with hx | hx
                · obtain ⟨b, us, es, e1, l', e2, e3, e4, e5, e6⟩ := i₁.own x hx
                  have := lb.det l'; cases this
                  exact e2
                · obtain ⟨b, us, es, e1, l', e2, e4, e5, e6⟩ := i₁.par x hx
                  have := lb.det l'; cases this
                  exact i₁.x0 _ (List.mem_of_head? e2)
              refine F c.w c.A _ X a us₁ vs pool ds d' pool' Q E ⟨ok.hnd, by have := ok.depth; omega, by have := ok.units; omega, ⟨_, hf⟩⟩ i₁.hbKp (fun a m => ⟨i₁.offH a m, i₁.live a m⟩) haX pl₁ rl₁ r₁ e3 fun v us' h' tk kb pl' rl' r' => ?_
              exact hQ v h' tk (k₁.trans fun b o n e => kb b o (fun q => n (q ▸ haX)) e) (i₁.upd2 hx1 lb kb pl' rl') r'
            rw [hs] at key ⊢
            exact Calls.evalArgs_plain (f := .ref fa) key
          · cases hp
        · cases hp
    · cases hp
  · cases hp

noncomputable def argsP (x : String) (xs : List String) (pool ds : List PV) : PS := { loc := fun y => ((x :: xs).zip (.lst pool :: ds)).lookup y, par := some x }
noncomputable def runP (x : String) (xs : List String) (p : PSt) (pool ds : List PV) : Option (PV × List PV) := if ds.length = xs.length then match p (argsP x xs pool ds) with
  | some (.ret d, ps) => (match ps.loc x with
    | some (.lst pool') => if ps.par = some x then some (d, pool') else none
    | _ => none)
  | _ => none else none

theorem fnP_intro {mg mb : Str → Option Value} {hb : Heap} {k : Nat} (Bs : Base mg mb hb) {name x : String} {d : DefRec} {xs : List String} {p : PSt} (hd : d ∈ recsOf pw) (hn : d.name = Str.ofString name)
    (hbind : ∀ (vals : List Value) (pm cd doc : Value), vals.length = (x :: xs).length → bindArgs (docDef d.name d.params d.body d.scope pm cd doc) ⟨vals, []⟩ = pure (((x :: xs).map Str.ofString).zip vals))
    (hnod : ((x :: xs).map Str.ofString).Nodup) (hdbg : ∀ y ∈ x :: xs, (Str.ofString y == ("__debug__" : Str)) = false)
    (hkind : ∀ y ∈ x :: xs, d.scope.names.lookup (Str.ofString y) = some .local)
    (hco : d.scope.isCoroutine = false) (hgen : d.scope.isGenerator = false) (hk : d.scope.kind = .function)
    (walk : ∀ (w : World) (A : Around) (B : Addr → Obj → Prop) (X₀ : List Addr) (L a : Addr) (cd : Value), G mg mb k ⟨w, A, hb, B, X₀, envOfC d.name d.scope L a cd⟩ → SSV ⟨w, A, hb, B, X₀, envOfC d.name d.scope L a cd⟩ d.body p) :
    FnP mg hb k name (runP x xs p) := by
  obtain ⟨fa, o, pm, code, doc, h1, h2, h3, h4⟩ := Bs.fn d hd
  refine ⟨fa, o, _, hn ▸ h1, h2, h3, ?_⟩
  intro w A s X a us vals pool ds r pool' Q E pre kb off haX pl rlp rl hr hQ
  unfold runP at hr
  split at hr
  · rename_i hlen
    split at hr
    · rename_i r' ps' e
      split at hr
      · rename_i pool₂ epool
        split at hr
        · rename_i epar
          cases hr
          have hvl : (Value.ref a :: vals).length = (x :: xs).length := by rw [List.length_cons, List.length_cons, rl.length, hlen]
          have kall : ∀ b o, hb.get? b = some o → s.heap.get? b = some o := fun b o e => kb.all b o e
          have hz : (((x :: xs).map Str.ofString).zip (Value.ref a :: vals)).map (·.1) = (x :: xs).map Str.ofString := List.map_fst_zip (by rw [List.length_map, hvl]; exact Nat.le_refl _)
          have hnod' : ((((x :: xs).map Str.ofString).zip (Value.ref a :: vals)).map (·.1)).Nodup := by rw [hz]; exact hnod
          refine wpAny_call (call_cells_ret (name := d.name) (binds := ((x :: xs).map Str.ofString).zip (Value.ref a :: vals)) (by have := pre.depth; omega) (kall _ _ h2) h3 (Bs.lim.keeps kall) (h4.keeps kall) (hbind _ pm code doc hvl) ?_ ?_ hco hgen hk)
          · intro y hx
            obtain ⟨y, hy, e⟩ := List.mem_map.mp (List.of_mem_zip hx).1
            rw [← e]
            exact .inl (hkind y hy)
          · intro h₁ tk F X'
            obtain ⟨l, hf⟩ := pre.fr
            have old : Kp [] s.heap h₁ := Kp.of fun b o e => F.keep b o e
            have nL : s.heap.get? s.heap.objs.size = none := size_none _
            have lX : ∀ a ∈ X, ∃ o, s.heap.get? a = some o := fun a m => (off a m).2
            have hne : ∀ {b : Addr}, (∃ o, s.heap.get? b = some o) → b ≠ s.heap.objs.size := fun ⟨o, e⟩ q => by rw [q, nL] at e; cases e
            have lX0 : ∀ b ∈ a :: X, b ∈ X := fun b m => by
              rcases List.mem_cons.mp m with q | q
              · exact q ▸ haX
              · exact q
            have g : G mg mb k ⟨w, A.deeper (envOfC d.name d.scope s.heap.objs.size fa code), hb, fun b o => s.heap.get? b = some o ∧ b ≠ a, a :: X, envOfC d.name d.scope s.heap.objs.size fa code⟩ := {
              base := Bs
              en := ⟨rfl, rfl, hk⟩
              ok := ⟨pre.hnd, by have := pre.depth; show A.depth + 1 + k + 150 < _; omega, by have := pre.units; show A.units + 3 + 10 * k + 100 < _; omega, ⟨_, l, by show A.frames.map _ = _; rw [hf]; rfl, hgen, hco, rfl, rfl⟩, Bs.lim, Bs.seer⟩ }
            have look : ∀ {y : String} {v : Value}, (Str.ofString y, v) ∈ ((x :: xs).map Str.ofString).zip (Value.ref a :: vals) → Look (envOfC d.name d.scope s.heap.objs.size fa code) h₁ (Str.ofString y) v := by
              intro y v hm
              obtain ⟨y', hy', e'⟩ := List.mem_map.mp (List.of_mem_zip hm).1
              obtain rfl := ofStr_inj e'
              exact ⟨hk, hdbg _ hy', .inl ⟨hkind _ hy', _, F.ns, bindL_get (hkind _ hy') hnod' hm⟩⟩
            have up : ∀ v d, Rep X s.heap v d → Rep (a :: X) h₁ v d := fun v d r => (r.kp old.nil).anti lX0
            have upL : ∀ v d, RepL X s.heap v d → RepL (a :: X) h₁ v d := fun v d r => (r.kp old.nil).anti lX0
            have i : Inv hb (fun b o => s.heap.get? b = some o ∧ b ≠ a) (a :: X) (envOfC d.name d.scope s.heap.objs.size fa code) h₁ (argsP x xs pool ds) (a :: X) := {
              base := fun a o e => F.keep a o e.1
              top := fun b o e => ⟨kall b o e, fun q => by
                have := (off a haX).1
                rw [← q, e] at this; cases this⟩
              offB := fun o e => by have e2 : s.heap.get? s.heap.objs.size = some o := e.1; rw [nL] at e2; cases e2
              offX := fun m => hne (lX _ (lX0 _ m)) rfl
              offC := fun y c e => by
                have hab := X'.above y c (mem_of_lookup e)
                refine ⟨fun m => ?_, Nat.ne_of_gt hab, _, X'.cell y c e⟩
                obtain ⟨o, e'⟩ := lX _ (lX0 _ m)
                exact Nat.lt_asymm hab (Heap.lt_size e')
              ns := ⟨_, F.ns⟩
              x0 := fun _ m => m
              mark := fun b m => by
                by_cases q : b = a
                · subst q
                  obtain ⟨n, e⟩ := pl
                  exact .inr ⟨_, n, F.keep _ _ e⟩
                · obtain ⟨o, e⟩ := lX b (lX0 _ m)
                  exact .inl ⟨o, e, q⟩
              xB := fun a m => .inl m
              offH := fun a m => (off a (lX0 _ m)).1
              frz := fun y dd e _ h2 => by
                have hy : y ≠ x := fun q => h2 (by rw [q]; rfl)
                simp only [argsP, List.zip_cons_cons, List.lookup_cons] at e
                rw [show (y == x) = false from by simpa using hy] at e
                obtain ⟨v, hm, r⟩ := mem_zip_of rl e
                exact ⟨v, look (by simp only [List.map_cons, List.zip_cons_cons]; exact List.mem_cons_of_mem _ hm), up _ _ r⟩
              own := fun y e => by cases e
              par := fun y e => by
                simp only [argsP, Option.some.injEq] at e
                subst e
                refine ⟨a, us, pool, by simp [argsP], look (by simp), rfl, fun o q => q.2 rfl, ?_, upL _ _ rlp⟩
                obtain ⟨n, e⟩ := pl
                exact ⟨n, F.keep _ _ e⟩ }
            refine walk _ _ _ _ _ _ _ g { s with heap := h₁, toks := tk } (a :: X) _ (.ret r) ps' _ _ i e fun fl h' tk' X'' i'' fr => ?_
            obtain ⟨a', us', ds', e1, _, e2, _, pl', rl'⟩ := i''.par x epar
            rw [epool] at e1
            cases e1
            cases e2
            have sub : ∀ b ∈ X, b ∈ a :: X := fun b m => List.mem_cons_of_mem _ m
            cases fl with
            | ret v => exact hQ v us' h' tk' (fun b o n e => i''.base b o ⟨e, n⟩) pl' (rl'.anti fun b m => i''.x0 b (sub b m)) (Rep.anti sub fr)
            | _ => cases fr
        · cases hr
      · cases hr
    · cases hr
  · cases hr
end
end NN
end

section
open PySem PySem.W PyProof.Rows PySem.Calls PySem.Spec
set_option Elab.async false
set_option autoImplicit false
set_option maxRecDepth 100000

namespace NN
noncomputable def recOfStmt : Stmt → DefRec
  | .FunctionDef name args body _ _ _ sc _ _ pos => ⟨name, args, body, sc, pos⟩
  | _ => ⟨"", {posonlyargs := [], args := [], vararg := none, kwonlyargs := [], kw_defaults := [], kwarg := none, defaults := []}, [], {kind := .function, names := [], isGenerator := false, isCoroutine := false, more := []}, ⟨0,0,0,0⟩⟩
noncomputable def recAt (i : Nat) : DefRec := recOfStmt (pw.main.body.getD i (.Pass ⟨0,0,0,0⟩))
noncomputable def idxs : List Nat := [3, 7, 8, 9, 10, 11, 12, 14, 15, 16, 17, 18, 19, 20, 21, 22, 23, 24, 25, 26, 30, 31, 32, 33, 34, 35, 36, 37, 38, 39, 40, 41, 42, 43, 45, 46, 47, 48, 49, 50, 51, 52, 53, 54]
theorem recs_eq : recsOf pw = idxs.map recAt := by kernel_rfl
theorem mem_rec {i : Nat} (h : i ∈ idxs) : recAt i ∈ recsOf pw := by rw [recs_eq]; exact List.mem_map_of_mem h

theorem ev_congr {c : Cx} {e : Expr} {p q : PE PV} (h : EV c e p) (hq : ∀ ps, q ps = p ps) : EV c e q := fun s X ps d ps' Q E i hp hQ => h s X ps d ps' Q E i (by rw [← hq]; exact hp) hQ
theorem SN.of {env : Env} {x : String} (k : env.kindOf (Str.ofString x) = some .local) (f : env.scope.kind = .function) (d : (Str.ofString x == ("__debug__" : Str)) = false) : SN env x := ⟨k, f, d⟩
theorem ev_cc {mg mb : Str → Option Value} {k : Nat} {c : Cx} {scope : Scope} {cl : List (Str × Addr)} {C : Addr} {B : Addr → Obj → Prop} {X₀ : List Addr} {e : Expr} {p : PE PV} (g : G mg mb k c) (hk : scope.kind = .function) (h : G mg mb k (cc c scope cl C B X₀) → EV (cc c scope cl C B X₀) e p) : EV (cc c scope cl C B X₀) e p :=
  h (g.cc scope hk cl C B X₀)
theorem ctv_cc {mg mb : Str → Option Value} {k : Nat} {c : Cx} {scope : Scope} {cl : List (Str × Addr)} {C : Addr} {B : Addr → Obj → Prop} {X₀ : List Addr} {e : List Expr} {p : PE Bool} (g : G mg mb k c) (hk : scope.kind = .function) (h : G mg mb k (cc c scope cl C B X₀) → CTV (cc c scope cl C B X₀) e p) : CTV (cc c scope cl C B X₀) e p :=
  h (g.cc scope hk cl C B X₀)
theorem kinds_of {names : List (Str × NameKind)} {xs : List String} (h : ∀ x ∈ xs, names.lookup (Str.ofString x) = some .local ∨ names.lookup (Str.ofString x) = some .cell) :
    ∀ x ∈ xs, names.lookup (Str.ofString x) = some .local ∨ (names.lookup (Str.ofString x) = some .cell ∧ ∀ n, ((cellsFrom n names []).lookup (Str.ofString x)).isSome = true) := fun x hx =>
  (h x hx).imp id fun q => ⟨q, fun n => cellsFrom_some _ _ _ (.inl q)⟩
end NN
end

section
open PySem PySem.W PyProof.Rows PySem.Calls PySem.Spec
set_option Elab.async false
set_option autoImplicit false
set_option maxRecDepth 100000

namespace NN
noncomputable def p_gcd : PSt := (pSeq (pUnpR ["a", "b"] (pTup (pCons (pUnN fAbs "a") (pCons (pUnN fAbs "b") pNil))))
    (pSeq (pWh (pCmpN fNe "b" (pK (.int 0))) (pSeq (pUnpR ["a", "b"] (pTup (pCons (pVar "b") (pCons (pBin fMod (pVar "a") (pVar "b")) pNil))))
    pEnd))
    (pSeq (pRet (pVar "a"))
    pEnd)))
noncomputable def sp_gcd := run ["a", "b"] p_gcd
theorem fn_gcd {mg mb : Str → Option Value} {hb : Heap} (Bs : Base mg mb hb) : Fn mg hb 1 "gcd" sp_gcd :=
  fn_intro Bs (d := recAt 3) (mem_rec (by decide)) (by kernel_rfl) (fun vals _ _ _ h => match vals, h with | [_, _], _ => by kernel_rfl) (by decide +kernel) (by decide +kernel) (kinds_of (by decide +kernel)) (by kernel_rfl) (by kernel_rfl) (by kernel_rfl)
    (fun w A B X₀ L a cd g =>
      have sn_a : SN (envOfC (recAt 3).name (recAt 3).scope L a cd) "a" := SN.of (by kernel_rfl) g.en.k (by decide +kernel)
      have sn_b : SN (envOfC (recAt 3).name (recAt 3).scope L a cd) "b" := SN.of (by kernel_rfl) g.en.k (by decide +kernel)
      (ssv_cons (sv_unpR (names := [Str.ofString "a", Str.ofString "b"]) g.ok (.bind sn_b (.bind sn_a .nil)) (by rfl) (ev_tuple (lv_cons (ev_call1_name (G.nvb g (x := "abs") (v := .builtin "abs") (by decide +kernel) (by kernel_rfl) (by kernel_rfl) (by decide +kernel) (by decide +kernel)) un_abs) (lv_cons (ev_call1_name (G.nvb g (x := "abs") (v := .builtin "abs") (by decide +kernel) (by kernel_rfl) (by kernel_rfl) (by decide +kernel) (by decide +kernel)) un_abs) lv_nil))) (by kernel_rfl) (by kernel_rfl))
      (ssv_cons (sv_wh (tv_cmp_name (cm_ne g.ok) ev_int) (ssv_cons (sv_unpR (names := [Str.ofString "a", Str.ofString "b"]) g.ok (.bind sn_b (.bind sn_a .nil)) (by rfl) (ev_tuple (lv_cons ev_name (lv_cons (ev_bin op_mod ev_name ev_name) lv_nil))) (by kernel_rfl) (by kernel_rfl))
      ssv_nil))
      (ssv_cons (sv_ret ev_name)
      ssv_nil))))

noncomputable def p_rat : PSt := (pSeq (pStIf (pCmpN fEq "bottom" (pK (.int 0))) (pSeq pNo
    pEnd) pEnd)
    (pSeq (pAssign "g" (pIf (pCmpN fGt "bottom" (pK (.int 0))) (pCall sp_gcd (pCons (pVar "top") (pCons (pVar "bottom") pNil))) (pBin fSub (pK (.int 0)) (pCall sp_gcd (pCons (pVar "top") (pCons (pVar "bottom") pNil))))))
    (pSeq (pRet (pTup (pCons (pBin fDiv (pVar "top") (pVar "g")) (pCons (pBin fDiv (pVar "bottom") (pVar "g")) pNil))))
    pEnd)))
noncomputable def sp_rat := run ["top", "bottom"] p_rat
theorem fn_rat {mg mb : Str → Option Value} {hb : Heap} (Bs : Base mg mb hb) : Fn mg hb 2 "rat" sp_rat :=
  fn_intro Bs (d := recAt 7) (mem_rec (by decide)) (by kernel_rfl) (fun vals _ _ _ h => match vals, h with | [_, _], _ => by kernel_rfl) (by decide +kernel) (by decide +kernel) (kinds_of (by decide +kernel)) (by kernel_rfl) (by kernel_rfl) (by kernel_rfl)
    (fun w A B X₀ L a cd g =>
      have sn_g : SN (envOfC (recAt 7).name (recAt 7).scope L a cd) "g" := SN.of (by kernel_rfl) g.en.k (by decide +kernel)
      (ssv_cons (sv_if (tv_cmp_name (cm_eq g.ok) ev_int) (ssv_cons sv_no
      ssv_nil) ssv_nil)
      (ssv_cons (sv_assign sn_g (ev_if (tv_cmp_name cm_gt ev_int) (g.call (fn_gcd g.base) (by decide) (by kernel_rfl) (by decide +kernel) (lv_cons ev_name (lv_cons ev_name lv_nil))) (ev_bin op_sub ev_int (g.call (fn_gcd g.base) (by decide) (by kernel_rfl) (by decide +kernel) (lv_cons ev_name (lv_cons ev_name lv_nil))))))
      (ssv_cons (sv_ret (ev_tuple (lv_cons (ev_bin (op_div g.ok) ev_name ev_name) (lv_cons (ev_bin (op_div g.ok) ev_name ev_name) lv_nil))))
      ssv_nil))))

noncomputable def p_radd : PSt := (pSeq (pRet (pCall sp_rat (pCons (pBin fAdd (pBin fMul (pSubN "a" (pK (.int 0))) (pSubN "b" (pK (.int 1)))) (pBin fMul (pSubN "b" (pK (.int 0))) (pSubN "a" (pK (.int 1))))) (pCons (pBin fMul (pSubN "a" (pK (.int 1))) (pSubN "b" (pK (.int 1)))) pNil))))
    pEnd)
noncomputable def sp_radd := run ["a", "b"] p_radd
theorem fn_radd {mg mb : Str → Option Value} {hb : Heap} (Bs : Base mg mb hb) : Fn mg hb 3 "radd" sp_radd :=
  fn_intro Bs (d := recAt 8) (mem_rec (by decide)) (by kernel_rfl) (fun vals _ _ _ h => match vals, h with | [_, _], _ => by kernel_rfl) (by decide +kernel) (by decide +kernel) (kinds_of (by decide +kernel)) (by kernel_rfl) (by kernel_rfl) (by kernel_rfl)
    (fun w A B X₀ L a cd g =>
      (ssv_cons (sv_ret (g.call (fn_rat g.base) (by decide) (by kernel_rfl) (by decide +kernel) (lv_cons (ev_bin op_add (ev_bin op_mul (ev_sub_name ev_int) (ev_sub_name ev_int)) (ev_bin op_mul (ev_sub_name ev_int) (ev_sub_name ev_int))) (lv_cons (ev_bin op_mul (ev_sub_name ev_int) (ev_sub_name ev_int)) lv_nil))))
      ssv_nil))

noncomputable def p_rmul : PSt := (pSeq (pRet (pCall sp_rat (pCons (pBin fMul (pSubN "a" (pK (.int 0))) (pSubN "b" (pK (.int 0)))) (pCons (pBin fMul (pSubN "a" (pK (.int 1))) (pSubN "b" (pK (.int 1)))) pNil))))
    pEnd)
noncomputable def sp_rmul := run ["a", "b"] p_rmul
theorem fn_rmul {mg mb : Str → Option Value} {hb : Heap} (Bs : Base mg mb hb) : Fn mg hb 3 "rmul" sp_rmul :=
  fn_intro Bs (d := recAt 9) (mem_rec (by decide)) (by kernel_rfl) (fun vals _ _ _ h => match vals, h with | [_, _], _ => by kernel_rfl) (by decide +kernel) (by decide +kernel) (kinds_of (by decide +kernel)) (by kernel_rfl) (by kernel_rfl) (by kernel_rfl)
    (fun w A B X₀ L a cd g =>
      (ssv_cons (sv_ret (g.call (fn_rat g.base) (by decide) (by kernel_rfl) (by decide +kernel) (lv_cons (ev_bin op_mul (ev_sub_name ev_int) (ev_sub_name ev_int)) (lv_cons (ev_bin op_mul (ev_sub_name ev_int) (ev_sub_name ev_int)) lv_nil))))
      ssv_nil))

noncomputable def p_rdiv : PSt := (pSeq (pRet (pCall sp_rat (pCons (pBin fMul (pSubN "a" (pK (.int 0))) (pSubN "b" (pK (.int 1)))) (pCons (pBin fMul (pSubN "a" (pK (.int 1))) (pSubN "b" (pK (.int 0)))) pNil))))
    pEnd)
noncomputable def sp_rdiv := run ["a", "b"] p_rdiv
theorem fn_rdiv {mg mb : Str → Option Value} {hb : Heap} (Bs : Base mg mb hb) : Fn mg hb 3 "rdiv" sp_rdiv :=
  fn_intro Bs (d := recAt 10) (mem_rec (by decide)) (by kernel_rfl) (fun vals _ _ _ h => match vals, h with | [_, _], _ => by kernel_rfl) (by decide +kernel) (by decide +kernel) (kinds_of (by decide +kernel)) (by kernel_rfl) (by kernel_rfl) (by kernel_rfl)
    (fun w A B X₀ L a cd g =>
      (ssv_cons (sv_ret (g.call (fn_rat g.base) (by decide) (by kernel_rfl) (by decide +kernel) (lv_cons (ev_bin op_mul (ev_sub_name ev_int) (ev_sub_name ev_int)) (lv_cons (ev_bin op_mul (ev_sub_name ev_int) (ev_sub_name ev_int)) lv_nil))))
      ssv_nil))

noncomputable def p_rneg : PSt := (pSeq (pRet (pTup (pCons (pBin fSub (pK (.int 0)) (pSubN "a" (pK (.int 0)))) (pCons (pSubN "a" (pK (.int 1))) pNil))))
    pEnd)
noncomputable def sp_rneg := run ["a"] p_rneg
theorem fn_rneg {mg mb : Str → Option Value} {hb : Heap} (Bs : Base mg mb hb) : Fn mg hb 1 "rneg" sp_rneg :=
  fn_intro Bs (d := recAt 11) (mem_rec (by decide)) (by kernel_rfl) (fun vals _ _ _ h => match vals, h with | [_], _ => by kernel_rfl) (by decide +kernel) (by decide +kernel) (kinds_of (by decide +kernel)) (by kernel_rfl) (by kernel_rfl) (by kernel_rfl)
    (fun w A B X₀ L a cd g =>
      (ssv_cons (sv_ret (ev_tuple (lv_cons (ev_bin op_sub ev_int (ev_sub_name ev_int)) (lv_cons (ev_sub_name ev_int) lv_nil))))
      ssv_nil))

noncomputable def p_rinv : PSt := (pSeq (pRet (pCall sp_rat (pCons (pSubN "a" (pK (.int 1))) (pCons (pSubN "a" (pK (.int 0))) pNil))))
    pEnd)
noncomputable def sp_rinv := run ["a"] p_rinv
theorem fn_rinv {mg mb : Str → Option Value} {hb : Heap} (Bs : Base mg mb hb) : Fn mg hb 3 "rinv" sp_rinv :=
  fn_intro Bs (d := recAt 12) (mem_rec (by decide)) (by kernel_rfl) (fun vals _ _ _ h => match vals, h with | [_], _ => by kernel_rfl) (by decide +kernel) (by decide +kernel) (kinds_of (by decide +kernel)) (by kernel_rfl) (by kernel_rfl) (by kernel_rfl)
    (fun w A B X₀ L a cd g =>
      (ssv_cons (sv_ret (g.call (fn_rat g.base) (by decide) (by kernel_rfl) (by decide +kernel) (lv_cons (ev_sub_name ev_int) (lv_cons (ev_sub_name ev_int) lv_nil))))
      ssv_nil))

noncomputable def p_qtrim : PSt := (pSeq (pAssign "size" (pUnN fLen "row"))
    (pSeq (pWh (pAnd (pCmpN fGt "size" (pK (.int 0))) (pAnd (pCmp fEq (pSub (pSubN "row" (pBin fSub (pVar "size") (pK (.int 1)))) (pK (.int 0))) (pK (.int 0))) (pBool true))) (pSeq (pAug "size" fSub (pK (.int 1)))
    pEnd))
    (pSeq (pRet (pFr (pCopy (pBin fUpto (pVar "row") (pVar "size")))))
    pEnd)))
noncomputable def sp_qtrim := run ["row"] p_qtrim
theorem fn_qtrim {mg mb : Str → Option Value} {hb : Heap} (Bs : Base mg mb hb) : Fn mg hb 1 "qtrim" sp_qtrim :=
  fn_intro Bs (d := recAt 14) (mem_rec (by decide)) (by kernel_rfl) (fun vals _ _ _ h => match vals, h with | [_], _ => by kernel_rfl) (by decide +kernel) (by decide +kernel) (kinds_of (by decide +kernel)) (by kernel_rfl) (by kernel_rfl) (by kernel_rfl)
    (fun w A B X₀ L a cd g =>
      have sn_size : SN (envOfC (recAt 14).name (recAt 14).scope L a cd) "size" := SN.of (by kernel_rfl) g.en.k (by decide +kernel)
      (ssv_cons (sv_assign sn_size (ev_call1_name (G.nvb g (x := "len") (v := .builtin "len") (by decide +kernel) (by kernel_rfl) (by kernel_rfl) (by decide +kernel) (by decide +kernel)) un_len))
      (ssv_cons (sv_wh (tv_bool (av_and (tv_cmp_name cm_gt ev_int) (av_and (tv_cmp (cm_eq g.ok) (ev_sub (ev_sub_name (ev_bin op_sub ev_name ev_int)) ev_int) ev_int) av_and_nil))) (ssv_cons (sv_augSub sn_size ev_int)
      ssv_nil))
      (ssv_cons (sv_ret (ev_fresh (fv_copy (G.nvb g (x := "list") (v := .type "list") (by decide +kernel) (by kernel_rfl) (by kernel_rfl) (by decide +kernel) (by decide +kernel)) (ev_upto ev_name ev_name))))
      ssv_nil))))

noncomputable def p_qdegree : PSt := (pSeq (pRet (pBin fSub (pUnN fLen "p") (pK (.int 1))))
    pEnd)
noncomputable def sp_qdegree := run ["p"] p_qdegree
theorem fn_qdegree {mg mb : Str → Option Value} {hb : Heap} (Bs : Base mg mb hb) : Fn mg hb 1 "qdegree" sp_qdegree :=
  fn_intro Bs (d := recAt 15) (mem_rec (by decide)) (by kernel_rfl) (fun vals _ _ _ h => match vals, h with | [_], _ => by kernel_rfl) (by decide +kernel) (by decide +kernel) (kinds_of (by decide +kernel)) (by kernel_rfl) (by kernel_rfl) (by kernel_rfl)
    (fun w A B X₀ L a cd g =>
      (ssv_cons (sv_ret (ev_bin op_sub (ev_call1_name (G.nvb g (x := "len") (v := .builtin "len") (by decide +kernel) (by kernel_rfl) (by kernel_rfl) (by decide +kernel) (by decide +kernel)) un_len) ev_int))
      ssv_nil))

noncomputable def p_qlead : PSt := (pSeq (pRet (pIf (pCmp fGt (pUnN fLen "p") (pK (.int 0))) (pSubN "p" (pUn fNeg (pK (.int 1)))) (pK (rt 0 1))))
    pEnd)
noncomputable def sp_qlead := run ["p"] p_qlead
theorem fn_qlead {mg mb : Str → Option Value} {hb : Heap} (Bs : Base mg mb hb) : Fn mg hb 1 "qlead" sp_qlead :=
  fn_intro Bs (d := recAt 16) (mem_rec (by decide)) (by kernel_rfl) (fun vals _ _ _ h => match vals, h with | [_], _ => by kernel_rfl) (by decide +kernel) (by decide +kernel) (kinds_of (by decide +kernel)) (by kernel_rfl) (by kernel_rfl) (by kernel_rfl)
    (fun w A B X₀ L a cd g =>
      (ssv_cons (sv_ret (ev_if (tv_cmp cm_gt (ev_call1_name (G.nvb g (x := "len") (v := .builtin "len") (by decide +kernel) (by kernel_rfl) (by kernel_rfl) (by decide +kernel) (by decide +kernel)) un_len) ev_int) (ev_sub_name (ev_neg ev_int)) (g.tree (x := "R0") (d := rt 0 1) (by simp [gtrees]) (by kernel_rfl) (by decide +kernel))))
      ssv_nil))

noncomputable def p_qadd : PSt := (pSeq (pAssign "size" (pBin fMax (pUnN fLen "a") (pUnN fLen "b")))
    (pSeq (pRet (pCall sp_qtrim (pCons (pFr (pLC "at" ["a", "b"] (pBool true) (pCall sp_radd (pCons (pIf (pCmpN fLt "at" (pUnN fLen "a")) (pSubN "a" (pVar "at")) (pK (rt 0 1))) (pCons (pIf (pCmpN fLt "at" (pUnN fLen "b")) (pSubN "b" (pVar "at")) (pK (rt 0 1))) pNil))) (pRg (pVar "size")))) pNil)))
    pEnd))
noncomputable def sp_qadd := run ["a", "b"] p_qadd
theorem fn_qadd {mg mb : Str → Option Value} {hb : Heap} (Bs : Base mg mb hb) : Fn mg hb 4 "qadd" sp_qadd :=
  fn_intro Bs (d := recAt 17) (mem_rec (by decide)) (by kernel_rfl) (fun vals _ _ _ h => match vals, h with | [_, _], _ => by kernel_rfl) (by decide +kernel) (by decide +kernel) (kinds_of (by decide +kernel)) (by kernel_rfl) (by kernel_rfl) (by kernel_rfl)
    (fun w A B X₀ L a cd g =>
      have sn_size : SN (envOfC (recAt 17).name (recAt 17).scope L a cd) "size" := SN.of (by kernel_rfl) g.en.k (by decide +kernel)
      (ssv_cons (sv_assign sn_size (ev_max g.ok (G.nvb g (x := "max") (v := .builtin "max") (by decide +kernel) (by kernel_rfl) (by kernel_rfl) (by decide +kernel) (by decide +kernel)) (ev_call1_name (G.nvb g (x := "len") (v := .builtin "len") (by decide +kernel) (by kernel_rfl) (by kernel_rfl) (by decide +kernel) (by decide +kernel)) un_len) (ev_call1_name (G.nvb g (x := "len") (v := .builtin "len") (by decide +kernel) (by kernel_rfl) (by kernel_rfl) (by decide +kernel) (by decide +kernel)) un_len)))
      (ssv_cons (sv_ret (g.call (fn_qtrim g.base) (by decide) (by kernel_rfl) (by decide +kernel) (lv_cons (ev_fresh (fv_comp (cl := (cellsFrom (L + 1) (recAt 17).scope.names [])) (vis := ["a", "b"]) ⟨by kernel_rfl, by kernel_rfl, by decide +kernel, by decide +kernel, by decide +kernel, by decide +kernel, by kernel_rfl, (fun _ _ h => h), (by intro y hy C; simp only [List.mem_cons, List.not_mem_nil, or_false] at hy; rcases hy with rfl | rfl <;> exact ⟨by kernel_rfl, by kernel_rfl, fun a h => h⟩)⟩ (iv_range g.ok (G.nvb g (x := "range") (v := .type "range") (by decide +kernel) (by kernel_rfl) (by kernel_rfl) (by decide +kernel) (by decide +kernel)) ev_name) (fun C B X₀ => by exact ctv_cc g (by kernel_rfl) (fun g => ctv_nil)) (fun C B X₀ => by exact ev_cc g (by kernel_rfl) (fun g => (g.call (fn_radd g.base) (by decide) (by kernel_rfl) (by decide +kernel) (lv_cons (ev_if (tv_cmp_name cm_lt (ev_call1_name (G.nvb g (x := "len") (v := .builtin "len") (by decide +kernel) (by kernel_rfl) (by kernel_rfl) (by decide +kernel) (by decide +kernel)) un_len)) (ev_sub_name ev_name) (g.tree (x := "R0") (d := rt 0 1) (by simp [gtrees]) (by kernel_rfl) (by decide +kernel))) (lv_cons (ev_if (tv_cmp_name cm_lt (ev_call1_name (G.nvb g (x := "len") (v := .builtin "len") (by decide +kernel) (by kernel_rfl) (by kernel_rfl) (by decide +kernel) (by decide +kernel)) un_len)) (ev_sub_name ev_name) (g.tree (x := "R0") (d := rt 0 1) (by simp [gtrees]) (by kernel_rfl) (by decide +kernel))) lv_nil))))))) lv_nil)))
      ssv_nil)))

noncomputable def p_qneg : PSt := (pSeq (pRet (pFr (pLC "number" [] (pBool true) (pCall sp_rneg (pCons (pVar "number") pNil)) (pLs (pVar "p")))))
    pEnd)
noncomputable def sp_qneg := run ["p"] p_qneg
theorem fn_qneg {mg mb : Str → Option Value} {hb : Heap} (Bs : Base mg mb hb) : Fn mg hb 2 "qneg" sp_qneg :=
  fn_intro Bs (d := recAt 18) (mem_rec (by decide)) (by kernel_rfl) (fun vals _ _ _ h => match vals, h with | [_], _ => by kernel_rfl) (by decide +kernel) (by decide +kernel) (kinds_of (by decide +kernel)) (by kernel_rfl) (by kernel_rfl) (by kernel_rfl)
    (fun w A B X₀ L a cd g =>
      (ssv_cons (sv_ret (ev_fresh (fv_comp (cl := []) (vis := []) ⟨by kernel_rfl, by kernel_rfl, by decide +kernel, by decide +kernel, by decide +kernel, by decide +kernel, by kernel_rfl, (fun _ _ h => by cases h), (fun y hy => by cases hy)⟩ (iv_list g.ok ev_name) (fun C B X₀ => by exact ctv_cc g (by kernel_rfl) (fun g => ctv_nil)) (fun C B X₀ => by exact ev_cc g (by kernel_rfl) (fun g => (g.call (fn_rneg g.base) (by decide) (by kernel_rfl) (by decide +kernel) (lv_cons ev_name lv_nil)))))))
      ssv_nil))

noncomputable def p_qsub : PSt := (pSeq (pRet (pCall sp_qadd (pCons (pVar "a") (pCons (pCall sp_qneg (pCons (pVar "b") pNil)) pNil))))
    pEnd)
noncomputable def sp_qsub := run ["a", "b"] p_qsub
theorem fn_qsub {mg mb : Str → Option Value} {hb : Heap} (Bs : Base mg mb hb) : Fn mg hb 5 "qsub" sp_qsub :=
  fn_intro Bs (d := recAt 19) (mem_rec (by decide)) (by kernel_rfl) (fun vals _ _ _ h => match vals, h with | [_, _], _ => by kernel_rfl) (by decide +kernel) (by decide +kernel) (kinds_of (by decide +kernel)) (by kernel_rfl) (by kernel_rfl) (by kernel_rfl)
    (fun w A B X₀ L a cd g =>
      (ssv_cons (sv_ret (g.call (fn_qadd g.base) (by decide) (by kernel_rfl) (by decide +kernel) (lv_cons ev_name (lv_cons (g.call (fn_qneg g.base) (by decide) (by kernel_rfl) (by decide +kernel) (lv_cons ev_name lv_nil)) lv_nil))))
      ssv_nil))

noncomputable def p_qscale : PSt := (pSeq (pRet (pIf (pCmp fNe (pSubN "r" (pK (.int 0))) (pK (.int 0))) (pFr (pLC "number" ["r"] (pBool true) (pCall sp_rmul (pCons (pVar "number") (pCons (pVar "r") pNil))) (pLs (pVar "p")))) (pFr (pDisp pNil))))
    pEnd)
noncomputable def sp_qscale := run ["p", "r"] p_qscale
theorem fn_qscale {mg mb : Str → Option Value} {hb : Heap} (Bs : Base mg mb hb) : Fn mg hb 4 "qscale" sp_qscale :=
  fn_intro Bs (d := recAt 20) (mem_rec (by decide)) (by kernel_rfl) (fun vals _ _ _ h => match vals, h with | [_, _], _ => by kernel_rfl) (by decide +kernel) (by decide +kernel) (kinds_of (by decide +kernel)) (by kernel_rfl) (by kernel_rfl) (by kernel_rfl)
    (fun w A B X₀ L a cd g =>
      (ssv_cons (sv_ret (ev_if (tv_cmp (cm_ne g.ok) (ev_sub_name ev_int) ev_int) (ev_fresh (fv_comp (cl := (cellsFrom (L + 1) (recAt 20).scope.names [])) (vis := ["r"]) ⟨by kernel_rfl, by kernel_rfl, by decide +kernel, by decide +kernel, by decide +kernel, by decide +kernel, by kernel_rfl, (fun _ _ h => h), (by intro y hy C; simp only [List.mem_cons, List.not_mem_nil, or_false] at hy; subst hy <;> exact ⟨by kernel_rfl, by kernel_rfl, fun a h => h⟩)⟩ (iv_list g.ok ev_name) (fun C B X₀ => by exact ctv_cc g (by kernel_rfl) (fun g => ctv_nil)) (fun C B X₀ => by exact ev_cc g (by kernel_rfl) (fun g => (g.call (fn_rmul g.base) (by decide) (by kernel_rfl) (by decide +kernel) (lv_cons ev_name (lv_cons ev_name lv_nil))))))) (ev_fresh (fv_list lv_nil))))
      ssv_nil))

noncomputable def p_qraise : PSt := (pSeq (pRet (pIf (pCmp fGt (pUnN fLen "p") (pK (.int 0))) (pFr (pAddL (pFr (pMulL (pFr (pDisp (pCons (pK (rt 0 1)) pNil))) (pVar "many"))) (pFr (pCopy (pVar "p"))))) (pFr (pDisp pNil))))
    pEnd)
noncomputable def sp_qraise := run ["p", "many"] p_qraise
theorem fn_qraise {mg mb : Str → Option Value} {hb : Heap} (Bs : Base mg mb hb) : Fn mg hb 1 "qraise" sp_qraise :=
  fn_intro Bs (d := recAt 21) (mem_rec (by decide)) (by kernel_rfl) (fun vals _ _ _ h => match vals, h with | [_, _], _ => by kernel_rfl) (by decide +kernel) (by decide +kernel) (kinds_of (by decide +kernel)) (by kernel_rfl) (by kernel_rfl) (by kernel_rfl)
    (fun w A B X₀ L a cd g =>
      (ssv_cons (sv_ret (ev_if (tv_cmp cm_gt (ev_call1_name (G.nvb g (x := "len") (v := .builtin "len") (by decide +kernel) (by kernel_rfl) (by kernel_rfl) (by decide +kernel) (by decide +kernel)) un_len) ev_int) (ev_fresh (fv_add (ev_fresh (fv_mul (ev_fresh (fv_list (lv_cons (g.tree (x := "R0") (d := rt 0 1) (by simp [gtrees]) (by kernel_rfl) (by decide +kernel)) lv_nil))) ev_name)) (ev_fresh (fv_copy (G.nvb g (x := "list") (v := .type "list") (by decide +kernel) (by kernel_rfl) (by kernel_rfl) (by decide +kernel) (by decide +kernel)) ev_name)))) (ev_fresh (fv_list lv_nil))))
      ssv_nil))

noncomputable def p_qmul : PSt := (pSeq (pStIf (pOr (pCmp fEq (pUnN fLen "a") (pK (.int 0))) (pOr (pCmp fEq (pUnN fLen "b") (pK (.int 0))) (pBool false))) (pSeq (pRet (pFr (pDisp pNil)))
    pEnd) pEnd)
    (pSeq (pAssignO "found" (pMulL (pFr (pDisp (pCons (pK (rt 0 1)) pNil))) (pBin fSub (pBin fAdd (pUnN fLen "a") (pUnN fLen "b")) (pK (.int 1)))))
    (pSeq (pForE "one" "left" (pVar "a") (pSeq (pForE "other" "right" (pVar "b") (pSeq (pSetItem "found" (pBin fAdd (pVar "one") (pVar "other")) (pCall sp_radd (pCons (pSubN "found" (pBin fAdd (pVar "one") (pVar "other"))) (pCons (pCall sp_rmul (pCons (pVar "left") (pCons (pVar "right") pNil))) pNil))))
    pEnd))
    pEnd))
    (pSeq (pRet (pVar "found"))
    pEnd))))
noncomputable def sp_qmul := run ["a", "b"] p_qmul
theorem fn_qmul {mg mb : Str → Option Value} {hb : Heap} (Bs : Base mg mb hb) : Fn mg hb 4 "qmul" sp_qmul :=
  fn_intro Bs (d := recAt 22) (mem_rec (by decide)) (by kernel_rfl) (fun vals _ _ _ h => match vals, h with | [_, _], _ => by kernel_rfl) (by decide +kernel) (by decide +kernel) (kinds_of (by decide +kernel)) (by kernel_rfl) (by kernel_rfl) (by kernel_rfl)
    (fun w A B X₀ L a cd g =>
      have sn_found : SN (envOfC (recAt 22).name (recAt 22).scope L a cd) "found" := SN.of (by kernel_rfl) g.en.k (by decide +kernel)
      have sn_left : SN (envOfC (recAt 22).name (recAt 22).scope L a cd) "left" := SN.of (by kernel_rfl) g.en.k (by decide +kernel)
      have sn_one : SN (envOfC (recAt 22).name (recAt 22).scope L a cd) "one" := SN.of (by kernel_rfl) g.en.k (by decide +kernel)
      have sn_other : SN (envOfC (recAt 22).name (recAt 22).scope L a cd) "other" := SN.of (by kernel_rfl) g.en.k (by decide +kernel)
      have sn_right : SN (envOfC (recAt 22).name (recAt 22).scope L a cd) "right" := SN.of (by kernel_rfl) g.en.k (by decide +kernel)
      (ssv_cons (sv_if (tv_bool (av_or (tv_cmp (cm_eq g.ok) (ev_call1_name (G.nvb g (x := "len") (v := .builtin "len") (by decide +kernel) (by kernel_rfl) (by kernel_rfl) (by decide +kernel) (by decide +kernel)) un_len) ev_int) (av_or (tv_cmp (cm_eq g.ok) (ev_call1_name (G.nvb g (x := "len") (v := .builtin "len") (by decide +kernel) (by kernel_rfl) (by kernel_rfl) (by decide +kernel) (by decide +kernel)) un_len) ev_int) av_or_nil))) (ssv_cons (sv_ret (ev_fresh (fv_list lv_nil)))
      ssv_nil) ssv_nil)
      (ssv_cons (sv_assign_own sn_found (fv_mul (ev_fresh (fv_list (lv_cons (g.tree (x := "R0") (d := rt 0 1) (by simp [gtrees]) (by kernel_rfl) (by decide +kernel)) lv_nil))) (ev_bin op_sub (ev_bin op_add (ev_call1_name (G.nvb g (x := "len") (v := .builtin "len") (by decide +kernel) (by kernel_rfl) (by kernel_rfl) (by decide +kernel) (by decide +kernel)) un_len) (ev_call1_name (G.nvb g (x := "len") (v := .builtin "len") (by decide +kernel) (by kernel_rfl) (by kernel_rfl) (by decide +kernel) (by decide +kernel)) un_len)) ev_int)))
      (ssv_cons (sv_forE g.ok sn_one sn_left (G.nvb g (x := "enumerate") (v := .type "enumerate") (by decide +kernel) (by kernel_rfl) (by kernel_rfl) (by decide +kernel) (by decide +kernel)) ev_name (fun B => have g := G.withB g B; (ssv_cons (sv_forE g.ok sn_other sn_right (G.nvb g (x := "enumerate") (v := .type "enumerate") (by decide +kernel) (by kernel_rfl) (by kernel_rfl) (by decide +kernel) (by decide +kernel)) ev_name (fun B => have g := G.withB g B; (ssv_cons (sv_setItem (g.call (fn_radd g.base) (by decide) (by kernel_rfl) (by decide +kernel) (lv_cons (ev_sub_name (ev_bin op_add ev_name ev_name)) (lv_cons (g.call (fn_rmul g.base) (by decide) (by kernel_rfl) (by decide +kernel) (lv_cons ev_name (lv_cons ev_name lv_nil))) lv_nil))) (ev_bin op_add ev_name ev_name))
      ssv_nil)))
      ssv_nil)))
      (ssv_cons (sv_ret ev_name)
      ssv_nil)))))

noncomputable def p_qdivmod : PSt := (pSeq (pStIf (pCmp fEq (pUnN fLen "b") (pK (.int 0))) (pSeq pNo
    pEnd) pEnd)
    (pSeq (pUnpO "rest" "found" (pFr (pCopy (pVar "a"))) (pMulL (pFr (pDisp (pCons (pK (rt 0 1)) pNil))) (pBin fMax (pK (.int 0)) (pBin fAdd (pBin fSub (pUnN fLen "a") (pUnN fLen "b")) (pK (.int 1))))))
    (pSeq (pWh (pCmp fGe (pUnN fLen "rest") (pUnN fLen "b")) (pSeq (pUnpR ["number", "power"] (pTup (pCons (pCall sp_rdiv (pCons (pSubN "rest" (pUn fNeg (pK (.int 1)))) (pCons (pSubN "b" (pUn fNeg (pK (.int 1)))) pNil))) (pCons (pBin fSub (pUnN fLen "rest") (pUnN fLen "b")) pNil))))
    (pSeq (pSetItem "found" (pVar "power") (pVar "number"))
    (pSeq (pAssign "lower" (pCall sp_qsub (pCons (pBin fUpto (pVar "rest") (pUn fNeg (pK (.int 1)))) (pCons (pCall sp_qraise (pCons (pCall sp_qscale (pCons (pBin fUpto (pVar "b") (pUn fNeg (pK (.int 1)))) (pCons (pVar "number") pNil))) (pCons (pVar "power") pNil))) pNil))))
    (pSeq (pAssign "rest" (pVar "lower"))
    pEnd)))))
    (pSeq (pRet (pTup (pCons (pCall sp_qtrim (pCons (pVar "found") pNil)) (pCons (pVar "rest") pNil))))
    pEnd))))
noncomputable def sp_qdivmod := run ["a", "b"] p_qdivmod
theorem fn_qdivmod {mg mb : Str → Option Value} {hb : Heap} (Bs : Base mg mb hb) : Fn mg hb 6 "qdivmod" sp_qdivmod :=
  fn_intro Bs (d := recAt 23) (mem_rec (by decide)) (by kernel_rfl) (fun vals _ _ _ h => match vals, h with | [_, _], _ => by kernel_rfl) (by decide +kernel) (by decide +kernel) (kinds_of (by decide +kernel)) (by kernel_rfl) (by kernel_rfl) (by kernel_rfl)
    (fun w A B X₀ L a cd g =>
      have sn_found : SN (envOfC (recAt 23).name (recAt 23).scope L a cd) "found" := SN.of (by kernel_rfl) g.en.k (by decide +kernel)
      have sn_lower : SN (envOfC (recAt 23).name (recAt 23).scope L a cd) "lower" := SN.of (by kernel_rfl) g.en.k (by decide +kernel)
      have sn_number : SN (envOfC (recAt 23).name (recAt 23).scope L a cd) "number" := SN.of (by kernel_rfl) g.en.k (by decide +kernel)
      have sn_power : SN (envOfC (recAt 23).name (recAt 23).scope L a cd) "power" := SN.of (by kernel_rfl) g.en.k (by decide +kernel)
      have sn_rest : SN (envOfC (recAt 23).name (recAt 23).scope L a cd) "rest" := SN.of (by kernel_rfl) g.en.k (by decide +kernel)
      (ssv_cons (sv_if (tv_cmp (cm_eq g.ok) (ev_call1_name (G.nvb g (x := "len") (v := .builtin "len") (by decide +kernel) (by kernel_rfl) (by kernel_rfl) (by decide +kernel) (by decide +kernel)) un_len) ev_int) (ssv_cons sv_no
      ssv_nil) ssv_nil)
      (ssv_cons (sv_unpO g.ok sn_rest sn_found (ev_fresh (fv_copy (G.nvb g (x := "list") (v := .type "list") (by decide +kernel) (by kernel_rfl) (by kernel_rfl) (by decide +kernel) (by decide +kernel)) ev_name)) (fv_mul (ev_fresh (fv_list (lv_cons (g.tree (x := "R0") (d := rt 0 1) (by simp [gtrees]) (by kernel_rfl) (by decide +kernel)) lv_nil))) (ev_max g.ok (G.nvb g (x := "max") (v := .builtin "max") (by decide +kernel) (by kernel_rfl) (by kernel_rfl) (by decide +kernel) (by decide +kernel)) ev_int (ev_bin op_add (ev_bin op_sub (ev_call1_name (G.nvb g (x := "len") (v := .builtin "len") (by decide +kernel) (by kernel_rfl) (by kernel_rfl) (by decide +kernel) (by decide +kernel)) un_len) (ev_call1_name (G.nvb g (x := "len") (v := .builtin "len") (by decide +kernel) (by kernel_rfl) (by kernel_rfl) (by decide +kernel) (by decide +kernel)) un_len)) ev_int))) (by kernel_rfl) (by kernel_rfl))
      (ssv_cons (sv_wh (tv_cmp cm_ge (ev_call1_name (G.nvb g (x := "len") (v := .builtin "len") (by decide +kernel) (by kernel_rfl) (by kernel_rfl) (by decide +kernel) (by decide +kernel)) un_len) (ev_call1_name (G.nvb g (x := "len") (v := .builtin "len") (by decide +kernel) (by kernel_rfl) (by kernel_rfl) (by decide +kernel) (by decide +kernel)) un_len)) (ssv_cons (sv_unpR (names := [Str.ofString "number", Str.ofString "power"]) g.ok (.bind sn_power (.bind sn_number .nil)) (by rfl) (ev_tuple (lv_cons (g.call (fn_rdiv g.base) (by decide) (by kernel_rfl) (by decide +kernel) (lv_cons (ev_sub_name (ev_neg ev_int)) (lv_cons (ev_sub_name (ev_neg ev_int)) lv_nil))) (lv_cons (ev_bin op_sub (ev_call1_name (G.nvb g (x := "len") (v := .builtin "len") (by decide +kernel) (by kernel_rfl) (by kernel_rfl) (by decide +kernel) (by decide +kernel)) un_len) (ev_call1_name (G.nvb g (x := "len") (v := .builtin "len") (by decide +kernel) (by kernel_rfl) (by kernel_rfl) (by decide +kernel) (by decide +kernel)) un_len)) lv_nil))) (by kernel_rfl) (by kernel_rfl))
      (ssv_cons (sv_setItem ev_name ev_name)
      (ssv_cons (sv_assign sn_lower (g.call (fn_qsub g.base) (by decide) (by kernel_rfl) (by decide +kernel) (lv_cons (ev_upto ev_name (ev_neg ev_int)) (lv_cons (g.call (fn_qraise g.base) (by decide) (by kernel_rfl) (by decide +kernel) (lv_cons (g.call (fn_qscale g.base) (by decide) (by kernel_rfl) (by decide +kernel) (lv_cons (ev_upto ev_name (ev_neg ev_int)) (lv_cons ev_name lv_nil))) (lv_cons ev_name lv_nil))) lv_nil))))
      (ssv_cons (sv_assign sn_rest ev_name)
      ssv_nil)))))
      (ssv_cons (sv_ret (ev_tuple (lv_cons (g.call (fn_qtrim g.base) (by decide) (by kernel_rfl) (by decide +kernel) (lv_cons ev_name lv_nil)) (lv_cons ev_name lv_nil))))
      ssv_nil)))))

noncomputable def p_qmonic : PSt := (pSeq (pRet (pIf (pCmp fGt (pUnN fLen "p") (pK (.int 0))) (pCall sp_qscale (pCons (pVar "p") (pCons (pCall sp_rinv (pCons (pSubN "p" (pUn fNeg (pK (.int 1)))) pNil)) pNil))) (pFr (pDisp pNil))))
    pEnd)
noncomputable def sp_qmonic := run ["p"] p_qmonic
theorem fn_qmonic {mg mb : Str → Option Value} {hb : Heap} (Bs : Base mg mb hb) : Fn mg hb 5 "qmonic" sp_qmonic :=
  fn_intro Bs (d := recAt 24) (mem_rec (by decide)) (by kernel_rfl) (fun vals _ _ _ h => match vals, h with | [_], _ => by kernel_rfl) (by decide +kernel) (by decide +kernel) (kinds_of (by decide +kernel)) (by kernel_rfl) (by kernel_rfl) (by kernel_rfl)
    (fun w A B X₀ L a cd g =>
      (ssv_cons (sv_ret (ev_if (tv_cmp cm_gt (ev_call1_name (G.nvb g (x := "len") (v := .builtin "len") (by decide +kernel) (by kernel_rfl) (by kernel_rfl) (by decide +kernel) (by decide +kernel)) un_len) ev_int) (g.call (fn_qscale g.base) (by decide) (by kernel_rfl) (by decide +kernel) (lv_cons ev_name (lv_cons (g.call (fn_rinv g.base) (by decide) (by kernel_rfl) (by decide +kernel) (lv_cons (ev_sub_name (ev_neg ev_int)) lv_nil)) lv_nil))) (ev_fresh (fv_list lv_nil))))
      ssv_nil))

noncomputable def p_qgcd : PSt := (pSeq (pWh (pCmp fGt (pUnN fLen "b") (pK (.int 0))) (pSeq (pUnpR ["a", "b"] (pTup (pCons (pVar "b") (pCons (pCall sp_qmonic (pCons (pSub (pCall sp_qdivmod (pCons (pVar "a") (pCons (pVar "b") pNil))) (pK (.int 1))) pNil)) pNil))))
    pEnd))
    (pSeq (pRet (pCall sp_qmonic (pCons (pVar "a") pNil)))
    pEnd))
noncomputable def sp_qgcd := run ["a", "b"] p_qgcd
theorem fn_qgcd {mg mb : Str → Option Value} {hb : Heap} (Bs : Base mg mb hb) : Fn mg hb 7 "qgcd" sp_qgcd :=
  fn_intro Bs (d := recAt 25) (mem_rec (by decide)) (by kernel_rfl) (fun vals _ _ _ h => match vals, h with | [_, _], _ => by kernel_rfl) (by decide +kernel) (by decide +kernel) (kinds_of (by decide +kernel)) (by kernel_rfl) (by kernel_rfl) (by kernel_rfl)
    (fun w A B X₀ L a cd g =>
      have sn_a : SN (envOfC (recAt 25).name (recAt 25).scope L a cd) "a" := SN.of (by kernel_rfl) g.en.k (by decide +kernel)
      have sn_b : SN (envOfC (recAt 25).name (recAt 25).scope L a cd) "b" := SN.of (by kernel_rfl) g.en.k (by decide +kernel)
      (ssv_cons (sv_wh (tv_cmp cm_gt (ev_call1_name (G.nvb g (x := "len") (v := .builtin "len") (by decide +kernel) (by kernel_rfl) (by kernel_rfl) (by decide +kernel) (by decide +kernel)) un_len) ev_int) (ssv_cons (sv_unpR (names := [Str.ofString "a", Str.ofString "b"]) g.ok (.bind sn_b (.bind sn_a .nil)) (by rfl) (ev_tuple (lv_cons ev_name (lv_cons (g.call (fn_qmonic g.base) (by decide) (by kernel_rfl) (by decide +kernel) (lv_cons (ev_sub (g.call (fn_qdivmod g.base) (by decide) (by kernel_rfl) (by decide +kernel) (lv_cons ev_name (lv_cons ev_name lv_nil))) ev_int) lv_nil)) lv_nil))) (by kernel_rfl) (by kernel_rfl))
      ssv_nil))
      (ssv_cons (sv_ret (g.call (fn_qmonic g.base) (by decide) (by kernel_rfl) (by decide +kernel) (lv_cons ev_name lv_nil)))
      ssv_nil)))

noncomputable def p_qat : PSt := (pSeq (pAssign "found" (pK (rt 0 1)))
    (pSeq (pFor "number" (pRv (pVar "p")) (pSeq (pAssign "found" (pCall sp_radd (pCons (pCall sp_rmul (pCons (pVar "found") (pCons (pVar "r") pNil))) (pCons (pVar "number") pNil))))
    pEnd))
    (pSeq (pRet (pVar "found"))
    pEnd)))
noncomputable def sp_qat := run ["p", "r"] p_qat
theorem fn_qat {mg mb : Str → Option Value} {hb : Heap} (Bs : Base mg mb hb) : Fn mg hb 4 "qat" sp_qat :=
  fn_intro Bs (d := recAt 26) (mem_rec (by decide)) (by kernel_rfl) (fun vals _ _ _ h => match vals, h with | [_, _], _ => by kernel_rfl) (by decide +kernel) (by decide +kernel) (kinds_of (by decide +kernel)) (by kernel_rfl) (by kernel_rfl) (by kernel_rfl)
    (fun w A B X₀ L a cd g =>
      have sn_found : SN (envOfC (recAt 26).name (recAt 26).scope L a cd) "found" := SN.of (by kernel_rfl) g.en.k (by decide +kernel)
      have sn_number : SN (envOfC (recAt 26).name (recAt 26).scope L a cd) "number" := SN.of (by kernel_rfl) g.en.k (by decide +kernel)
      (ssv_cons (sv_assign sn_found (g.tree (x := "R0") (d := rt 0 1) (by simp [gtrees]) (by kernel_rfl) (by decide +kernel)))
      (ssv_cons (sv_for sn_number (iv_reversed g.ok (G.nvb g (x := "reversed") (v := .type "reversed") (by decide +kernel) (by kernel_rfl) (by kernel_rfl) (by decide +kernel) (by decide +kernel)) ev_name) (fun B => have g := G.withB g B; (ssv_cons (sv_assign sn_found (g.call (fn_radd g.base) (by decide) (by kernel_rfl) (by decide +kernel) (lv_cons (g.call (fn_rmul g.base) (by decide) (by kernel_rfl) (by decide +kernel) (lv_cons ev_name (lv_cons ev_name lv_nil))) (lv_cons ev_name lv_nil))))
      ssv_nil)))
      (ssv_cons (sv_ret ev_name)
      ssv_nil))))
end NN
end

section
open PySem PySem.W PyProof.Rows PySem.Calls PySem.Spec
set_option Elab.async false
set_option autoImplicit false
set_option maxRecDepth 100000

namespace NN
noncomputable def p_fmake : PSt := (pSeq (pStIf (pCmpN fEq "bottom" (pFr (pDisp pNil))) (pSeq pNo
    pEnd) pEnd)
    (pSeq (pStIf (pCmpN fEq "top" (pFr (pDisp pNil))) (pSeq (pRet (pK (.tup [.lst [], .lst [rt 1 1]])))
    pEnd) pEnd)
    (pSeq (pAssign "common" (pCall sp_qgcd (pCons (pVar "top") (pCons (pVar "bottom") pNil))))
    (pSeq (pStIf (pCmp fGt (pCall sp_qdegree (pCons (pVar "common") pNil)) (pK (.int 0))) (pSeq (pUnpR ["top", "bottom"] (pTup (pCons (pSub (pCall sp_qdivmod (pCons (pVar "top") (pCons (pVar "common") pNil))) (pK (.int 0))) (pCons (pSub (pCall sp_qdivmod (pCons (pVar "bottom") (pCons (pVar "common") pNil))) (pK (.int 0))) pNil))))
    pEnd) pEnd)
    (pSeq (pAssign "scale" (pCall sp_rinv (pCons (pCall sp_qlead (pCons (pVar "bottom") pNil)) pNil)))
    (pSeq (pRet (pTup (pCons (pCall sp_qscale (pCons (pVar "top") (pCons (pVar "scale") pNil))) (pCons (pCall sp_qscale (pCons (pVar "bottom") (pCons (pVar "scale") pNil))) pNil))))
    pEnd))))))
noncomputable def sp_fmake := run ["top", "bottom"] p_fmake
theorem fn_fmake {mg mb : Str → Option Value} {hb : Heap} (Bs : Base mg mb hb) : Fn mg hb 8 "fmake" sp_fmake :=
  fn_intro Bs (d := recAt 30) (mem_rec (by decide)) (by kernel_rfl) (fun vals _ _ _ h => match vals, h with | [_, _], _ => by kernel_rfl) (by decide +kernel) (by decide +kernel) (kinds_of (by decide +kernel)) (by kernel_rfl) (by kernel_rfl) (by kernel_rfl)
    (fun w A B X₀ L a cd g =>
      have sn_bottom : SN (envOfC (recAt 30).name (recAt 30).scope L a cd) "bottom" := SN.of (by kernel_rfl) g.en.k (by decide +kernel)
      have sn_common : SN (envOfC (recAt 30).name (recAt 30).scope L a cd) "common" := SN.of (by kernel_rfl) g.en.k (by decide +kernel)
      have sn_scale : SN (envOfC (recAt 30).name (recAt 30).scope L a cd) "scale" := SN.of (by kernel_rfl) g.en.k (by decide +kernel)
      have sn_top : SN (envOfC (recAt 30).name (recAt 30).scope L a cd) "top" := SN.of (by kernel_rfl) g.en.k (by decide +kernel)
      (ssv_cons (sv_if (tv_cmp_name (cm_eq g.ok) (ev_fresh (fv_list lv_nil))) (ssv_cons sv_no
      ssv_nil) ssv_nil)
      (ssv_cons (sv_if (tv_cmp_name (cm_eq g.ok) (ev_fresh (fv_list lv_nil))) (ssv_cons (sv_ret (g.tree (x := "F0") (d := .tup [.lst [], .lst [rt 1 1]]) (by simp [gtrees]) (by kernel_rfl) (by decide +kernel)))
      ssv_nil) ssv_nil)
      (ssv_cons (sv_assign sn_common (g.call (fn_qgcd g.base) (by decide) (by kernel_rfl) (by decide +kernel) (lv_cons ev_name (lv_cons ev_name lv_nil))))
      (ssv_cons (sv_if (tv_cmp cm_gt (g.call (fn_qdegree g.base) (by decide) (by kernel_rfl) (by decide +kernel) (lv_cons ev_name lv_nil)) ev_int) (ssv_cons (sv_unpR (names := [Str.ofString "top", Str.ofString "bottom"]) g.ok (.bind sn_bottom (.bind sn_top .nil)) (by rfl) (ev_tuple (lv_cons (ev_sub (g.call (fn_qdivmod g.base) (by decide) (by kernel_rfl) (by decide +kernel) (lv_cons ev_name (lv_cons ev_name lv_nil))) ev_int) (lv_cons (ev_sub (g.call (fn_qdivmod g.base) (by decide) (by kernel_rfl) (by decide +kernel) (lv_cons ev_name (lv_cons ev_name lv_nil))) ev_int) lv_nil))) (by kernel_rfl) (by kernel_rfl))
      ssv_nil) ssv_nil)
      (ssv_cons (sv_assign sn_scale (g.call (fn_rinv g.base) (by decide) (by kernel_rfl) (by decide +kernel) (lv_cons (g.call (fn_qlead g.base) (by decide) (by kernel_rfl) (by decide +kernel) (lv_cons ev_name lv_nil)) lv_nil)))
      (ssv_cons (sv_ret (ev_tuple (lv_cons (g.call (fn_qscale g.base) (by decide) (by kernel_rfl) (by decide +kernel) (lv_cons ev_name (lv_cons ev_name lv_nil))) (lv_cons (g.call (fn_qscale g.base) (by decide) (by kernel_rfl) (by decide +kernel) (lv_cons ev_name (lv_cons ev_name lv_nil))) lv_nil))))
      ssv_nil)))))))

noncomputable def p_fpoly : PSt := (pSeq (pRet (pTup (pCons (pFr (pCopy (pVar "p"))) (pCons (pFr (pDisp (pCons (pK (rt 1 1)) pNil))) pNil))))
    pEnd)
noncomputable def sp_fpoly := run ["p"] p_fpoly
theorem fn_fpoly {mg mb : Str → Option Value} {hb : Heap} (Bs : Base mg mb hb) : Fn mg hb 1 "fpoly" sp_fpoly :=
  fn_intro Bs (d := recAt 31) (mem_rec (by decide)) (by kernel_rfl) (fun vals _ _ _ h => match vals, h with | [_], _ => by kernel_rfl) (by decide +kernel) (by decide +kernel) (kinds_of (by decide +kernel)) (by kernel_rfl) (by kernel_rfl) (by kernel_rfl)
    (fun w A B X₀ L a cd g =>
      (ssv_cons (sv_ret (ev_tuple (lv_cons (ev_fresh (fv_copy (G.nvb g (x := "list") (v := .type "list") (by decide +kernel) (by kernel_rfl) (by kernel_rfl) (by decide +kernel) (by decide +kernel)) ev_name)) (lv_cons (ev_fresh (fv_list (lv_cons (g.tree (x := "R1") (d := rt 1 1) (by simp [gtrees]) (by kernel_rfl) (by decide +kernel)) lv_nil))) lv_nil))))
      ssv_nil))

noncomputable def p_fnumber : PSt := (pSeq (pRet (pTup (pCons (pIf (pCmpN fEq "r" (pK (rt 0 1))) (pFr (pDisp pNil)) (pFr (pDisp (pCons (pVar "r") pNil)))) (pCons (pFr (pDisp (pCons (pK (rt 1 1)) pNil))) pNil))))
    pEnd)
noncomputable def sp_fnumber := run ["r"] p_fnumber
theorem fn_fnumber {mg mb : Str → Option Value} {hb : Heap} (Bs : Base mg mb hb) : Fn mg hb 1 "fnumber" sp_fnumber :=
  fn_intro Bs (d := recAt 32) (mem_rec (by decide)) (by kernel_rfl) (fun vals _ _ _ h => match vals, h with | [_], _ => by kernel_rfl) (by decide +kernel) (by decide +kernel) (kinds_of (by decide +kernel)) (by kernel_rfl) (by kernel_rfl) (by kernel_rfl)
    (fun w A B X₀ L a cd g =>
      (ssv_cons (sv_ret (ev_tuple (lv_cons (ev_if (tv_cmp_name (cm_eq g.ok) (g.tree (x := "R0") (d := rt 0 1) (by simp [gtrees]) (by kernel_rfl) (by decide +kernel))) (ev_fresh (fv_list lv_nil)) (ev_fresh (fv_list (lv_cons ev_name lv_nil)))) (lv_cons (ev_fresh (fv_list (lv_cons (g.tree (x := "R1") (d := rt 1 1) (by simp [gtrees]) (by kernel_rfl) (by decide +kernel)) lv_nil))) lv_nil))))
      ssv_nil))

noncomputable def p_fadd : PSt := (pSeq (pRet (pCall sp_fmake (pCons (pCall sp_qadd (pCons (pCall sp_qmul (pCons (pSubN "f" (pK (.int 0))) (pCons (pSubN "g" (pK (.int 1))) pNil))) (pCons (pCall sp_qmul (pCons (pSubN "g" (pK (.int 0))) (pCons (pSubN "f" (pK (.int 1))) pNil))) pNil))) (pCons (pCall sp_qmul (pCons (pSubN "f" (pK (.int 1))) (pCons (pSubN "g" (pK (.int 1))) pNil))) pNil))))
    pEnd)
noncomputable def sp_fadd := run ["f", "g"] p_fadd
theorem fn_fadd {mg mb : Str → Option Value} {hb : Heap} (Bs : Base mg mb hb) : Fn mg hb 9 "fadd" sp_fadd :=
  fn_intro Bs (d := recAt 33) (mem_rec (by decide)) (by kernel_rfl) (fun vals _ _ _ h => match vals, h with | [_, _], _ => by kernel_rfl) (by decide +kernel) (by decide +kernel) (kinds_of (by decide +kernel)) (by kernel_rfl) (by kernel_rfl) (by kernel_rfl)
    (fun w A B X₀ L a cd g =>
      (ssv_cons (sv_ret (g.call (fn_fmake g.base) (by decide) (by kernel_rfl) (by decide +kernel) (lv_cons (g.call (fn_qadd g.base) (by decide) (by kernel_rfl) (by decide +kernel) (lv_cons (g.call (fn_qmul g.base) (by decide) (by kernel_rfl) (by decide +kernel) (lv_cons (ev_sub_name ev_int) (lv_cons (ev_sub_name ev_int) lv_nil))) (lv_cons (g.call (fn_qmul g.base) (by decide) (by kernel_rfl) (by decide +kernel) (lv_cons (ev_sub_name ev_int) (lv_cons (ev_sub_name ev_int) lv_nil))) lv_nil))) (lv_cons (g.call (fn_qmul g.base) (by decide) (by kernel_rfl) (by decide +kernel) (lv_cons (ev_sub_name ev_int) (lv_cons (ev_sub_name ev_int) lv_nil))) lv_nil))))
      ssv_nil))

noncomputable def p_fneg : PSt := (pSeq (pRet (pTup (pCons (pCall sp_qneg (pCons (pSubN "f" (pK (.int 0))) pNil)) (pCons (pFr (pCopy (pSubN "f" (pK (.int 1))))) pNil))))
    pEnd)
noncomputable def sp_fneg := run ["f"] p_fneg
theorem fn_fneg {mg mb : Str → Option Value} {hb : Heap} (Bs : Base mg mb hb) : Fn mg hb 3 "fneg" sp_fneg :=
  fn_intro Bs (d := recAt 34) (mem_rec (by decide)) (by kernel_rfl) (fun vals _ _ _ h => match vals, h with | [_], _ => by kernel_rfl) (by decide +kernel) (by decide +kernel) (kinds_of (by decide +kernel)) (by kernel_rfl) (by kernel_rfl) (by kernel_rfl)
    (fun w A B X₀ L a cd g =>
      (ssv_cons (sv_ret (ev_tuple (lv_cons (g.call (fn_qneg g.base) (by decide) (by kernel_rfl) (by decide +kernel) (lv_cons (ev_sub_name ev_int) lv_nil)) (lv_cons (ev_fresh (fv_copy (G.nvb g (x := "list") (v := .type "list") (by decide +kernel) (by kernel_rfl) (by kernel_rfl) (by decide +kernel) (by decide +kernel)) (ev_sub_name ev_int))) lv_nil))))
      ssv_nil))

noncomputable def p_fsub : PSt := (pSeq (pRet (pCall sp_fadd (pCons (pVar "f") (pCons (pCall sp_fneg (pCons (pVar "g") pNil)) pNil))))
    pEnd)
noncomputable def sp_fsub := run ["f", "g"] p_fsub
theorem fn_fsub {mg mb : Str → Option Value} {hb : Heap} (Bs : Base mg mb hb) : Fn mg hb 10 "fsub" sp_fsub :=
  fn_intro Bs (d := recAt 35) (mem_rec (by decide)) (by kernel_rfl) (fun vals _ _ _ h => match vals, h with | [_, _], _ => by kernel_rfl) (by decide +kernel) (by decide +kernel) (kinds_of (by decide +kernel)) (by kernel_rfl) (by kernel_rfl) (by kernel_rfl)
    (fun w A B X₀ L a cd g =>
      (ssv_cons (sv_ret (g.call (fn_fadd g.base) (by decide) (by kernel_rfl) (by decide +kernel) (lv_cons ev_name (lv_cons (g.call (fn_fneg g.base) (by decide) (by kernel_rfl) (by decide +kernel) (lv_cons ev_name lv_nil)) lv_nil))))
      ssv_nil))

noncomputable def p_fmul : PSt := (pSeq (pRet (pCall sp_fmake (pCons (pCall sp_qmul (pCons (pSubN "f" (pK (.int 0))) (pCons (pSubN "g" (pK (.int 0))) pNil))) (pCons (pCall sp_qmul (pCons (pSubN "f" (pK (.int 1))) (pCons (pSubN "g" (pK (.int 1))) pNil))) pNil))))
    pEnd)
noncomputable def sp_fmul := run ["f", "g"] p_fmul
theorem fn_fmul {mg mb : Str → Option Value} {hb : Heap} (Bs : Base mg mb hb) : Fn mg hb 9 "fmul" sp_fmul :=
  fn_intro Bs (d := recAt 36) (mem_rec (by decide)) (by kernel_rfl) (fun vals _ _ _ h => match vals, h with | [_, _], _ => by kernel_rfl) (by decide +kernel) (by decide +kernel) (kinds_of (by decide +kernel)) (by kernel_rfl) (by kernel_rfl) (by kernel_rfl)
    (fun w A B X₀ L a cd g =>
      (ssv_cons (sv_ret (g.call (fn_fmake g.base) (by decide) (by kernel_rfl) (by decide +kernel) (lv_cons (g.call (fn_qmul g.base) (by decide) (by kernel_rfl) (by decide +kernel) (lv_cons (ev_sub_name ev_int) (lv_cons (ev_sub_name ev_int) lv_nil))) (lv_cons (g.call (fn_qmul g.base) (by decide) (by kernel_rfl) (by decide +kernel) (lv_cons (ev_sub_name ev_int) (lv_cons (ev_sub_name ev_int) lv_nil))) lv_nil))))
      ssv_nil))

noncomputable def p_finv : PSt := (pSeq (pRet (pCall sp_fmake (pCons (pSubN "f" (pK (.int 1))) (pCons (pSubN "f" (pK (.int 0))) pNil))))
    pEnd)
noncomputable def sp_finv := run ["f"] p_finv
theorem fn_finv {mg mb : Str → Option Value} {hb : Heap} (Bs : Base mg mb hb) : Fn mg hb 9 "finv" sp_finv :=
  fn_intro Bs (d := recAt 37) (mem_rec (by decide)) (by kernel_rfl) (fun vals _ _ _ h => match vals, h with | [_], _ => by kernel_rfl) (by decide +kernel) (by decide +kernel) (kinds_of (by decide +kernel)) (by kernel_rfl) (by kernel_rfl) (by kernel_rfl)
    (fun w A B X₀ L a cd g =>
      (ssv_cons (sv_ret (g.call (fn_fmake g.base) (by decide) (by kernel_rfl) (by decide +kernel) (lv_cons (ev_sub_name ev_int) (lv_cons (ev_sub_name ev_int) lv_nil))))
      ssv_nil))

noncomputable def p_fdiv : PSt := (pSeq (pRet (pCall sp_fmake (pCons (pCall sp_qmul (pCons (pSubN "f" (pK (.int 0))) (pCons (pSubN "g" (pK (.int 1))) pNil))) (pCons (pCall sp_qmul (pCons (pSubN "f" (pK (.int 1))) (pCons (pSubN "g" (pK (.int 0))) pNil))) pNil))))
    pEnd)
noncomputable def sp_fdiv := run ["f", "g"] p_fdiv
theorem fn_fdiv {mg mb : Str → Option Value} {hb : Heap} (Bs : Base mg mb hb) : Fn mg hb 9 "fdiv" sp_fdiv :=
  fn_intro Bs (d := recAt 38) (mem_rec (by decide)) (by kernel_rfl) (fun vals _ _ _ h => match vals, h with | [_, _], _ => by kernel_rfl) (by decide +kernel) (by decide +kernel) (kinds_of (by decide +kernel)) (by kernel_rfl) (by kernel_rfl) (by kernel_rfl)
    (fun w A B X₀ L a cd g =>
      (ssv_cons (sv_ret (g.call (fn_fmake g.base) (by decide) (by kernel_rfl) (by decide +kernel) (lv_cons (g.call (fn_qmul g.base) (by decide) (by kernel_rfl) (by decide +kernel) (lv_cons (ev_sub_name ev_int) (lv_cons (ev_sub_name ev_int) lv_nil))) (lv_cons (g.call (fn_qmul g.base) (by decide) (by kernel_rfl) (by decide +kernel) (lv_cons (ev_sub_name ev_int) (lv_cons (ev_sub_name ev_int) lv_nil))) lv_nil))))
      ssv_nil))

noncomputable def p_fscale : PSt := (pSeq (pRet (pIf (pCmpN fEq "r" (pK (rt 0 1))) (pK (.tup [.lst [], .lst [rt 1 1]])) (pTup (pCons (pCall sp_qscale (pCons (pSubN "f" (pK (.int 0))) (pCons (pVar "r") pNil))) (pCons (pFr (pCopy (pSubN "f" (pK (.int 1))))) pNil)))))
    pEnd)
noncomputable def sp_fscale := run ["f", "r"] p_fscale
theorem fn_fscale {mg mb : Str → Option Value} {hb : Heap} (Bs : Base mg mb hb) : Fn mg hb 5 "fscale" sp_fscale :=
  fn_intro Bs (d := recAt 39) (mem_rec (by decide)) (by kernel_rfl) (fun vals _ _ _ h => match vals, h with | [_, _], _ => by kernel_rfl) (by decide +kernel) (by decide +kernel) (kinds_of (by decide +kernel)) (by kernel_rfl) (by kernel_rfl) (by kernel_rfl)
    (fun w A B X₀ L a cd g =>
      (ssv_cons (sv_ret (ev_if (tv_cmp_name (cm_eq g.ok) (g.tree (x := "R0") (d := rt 0 1) (by simp [gtrees]) (by kernel_rfl) (by decide +kernel))) (g.tree (x := "F0") (d := .tup [.lst [], .lst [rt 1 1]]) (by simp [gtrees]) (by kernel_rfl) (by decide +kernel)) (ev_tuple (lv_cons (g.call (fn_qscale g.base) (by decide) (by kernel_rfl) (by decide +kernel) (lv_cons (ev_sub_name ev_int) (lv_cons ev_name lv_nil))) (lv_cons (ev_fresh (fv_copy (G.nvb g (x := "list") (v := .type "list") (by decide +kernel) (by kernel_rfl) (by kernel_rfl) (by decide +kernel) (by decide +kernel)) (ev_sub_name ev_int))) lv_nil)))))
      ssv_nil))

noncomputable def p_fpower : PSt := (pSeq (pUnpR ["found", "base", "left"] (pTup (pCons (pK (.tup [.lst [rt 1 1], .lst [rt 1 1]])) (pCons (pIf (pCmpN fLt "n" (pK (.int 0))) (pCall sp_finv (pCons (pVar "f") pNil)) (pVar "f")) (pCons (pUnN fAbs "n") pNil)))))
    (pSeq (pWh (pCmpN fGt "left" (pK (.int 0))) (pSeq (pStIf (pCmp fEq (pBin fMod (pVar "left") (pK (.int 2))) (pK (.int 1))) (pSeq (pAssign "found" (pCall sp_fmul (pCons (pVar "found") (pCons (pVar "base") pNil))))
    pEnd) pEnd)
    (pSeq (pUnpR ["base", "left"] (pTup (pCons (pIf (pCmpN fGt "left" (pK (.int 1))) (pCall sp_fmul (pCons (pVar "base") (pCons (pVar "base") pNil))) (pVar "base")) (pCons (pBin fDiv (pVar "left") (pK (.int 2))) pNil))))
    pEnd)))
    (pSeq (pRet (pVar "found"))
    pEnd)))
noncomputable def sp_fpower := run ["f", "n"] p_fpower
theorem fn_fpower {mg mb : Str → Option Value} {hb : Heap} (Bs : Base mg mb hb) : Fn mg hb 10 "fpower" sp_fpower :=
  fn_intro Bs (d := recAt 40) (mem_rec (by decide)) (by kernel_rfl) (fun vals _ _ _ h => match vals, h with | [_, _], _ => by kernel_rfl) (by decide +kernel) (by decide +kernel) (kinds_of (by decide +kernel)) (by kernel_rfl) (by kernel_rfl) (by kernel_rfl)
    (fun w A B X₀ L a cd g =>
      have sn_base : SN (envOfC (recAt 40).name (recAt 40).scope L a cd) "base" := SN.of (by kernel_rfl) g.en.k (by decide +kernel)
      have sn_found : SN (envOfC (recAt 40).name (recAt 40).scope L a cd) "found" := SN.of (by kernel_rfl) g.en.k (by decide +kernel)
      have sn_left : SN (envOfC (recAt 40).name (recAt 40).scope L a cd) "left" := SN.of (by kernel_rfl) g.en.k (by decide +kernel)
      (ssv_cons (sv_unpR (names := [Str.ofString "found", Str.ofString "base", Str.ofString "left"]) g.ok (.bind sn_left (.bind sn_base (.bind sn_found .nil))) (by rfl) (ev_tuple (lv_cons (g.tree (x := "F1") (d := .tup [.lst [rt 1 1], .lst [rt 1 1]]) (by simp [gtrees]) (by kernel_rfl) (by decide +kernel)) (lv_cons (ev_if (tv_cmp_name cm_lt ev_int) (g.call (fn_finv g.base) (by decide) (by kernel_rfl) (by decide +kernel) (lv_cons ev_name lv_nil)) ev_name) (lv_cons (ev_call1_name (G.nvb g (x := "abs") (v := .builtin "abs") (by decide +kernel) (by kernel_rfl) (by kernel_rfl) (by decide +kernel) (by decide +kernel)) un_abs) lv_nil)))) (by kernel_rfl) (by kernel_rfl))
      (ssv_cons (sv_wh (tv_cmp_name cm_gt ev_int) (ssv_cons (sv_if (tv_cmp (cm_eq g.ok) (ev_bin op_mod ev_name ev_int) ev_int) (ssv_cons (sv_assign sn_found (g.call (fn_fmul g.base) (by decide) (by kernel_rfl) (by decide +kernel) (lv_cons ev_name (lv_cons ev_name lv_nil))))
      ssv_nil) ssv_nil)
      (ssv_cons (sv_unpR (names := [Str.ofString "base", Str.ofString "left"]) g.ok (.bind sn_left (.bind sn_base .nil)) (by rfl) (ev_tuple (lv_cons (ev_if (tv_cmp_name cm_gt ev_int) (g.call (fn_fmul g.base) (by decide) (by kernel_rfl) (by decide +kernel) (lv_cons ev_name (lv_cons ev_name lv_nil))) ev_name) (lv_cons (ev_bin (op_div g.ok) ev_name ev_int) lv_nil))) (by kernel_rfl) (by kernel_rfl))
      ssv_nil)))
      (ssv_cons (sv_ret ev_name)
      ssv_nil))))

noncomputable def p_fat : PSt := (pSeq (pAssign "below" (pCall sp_qat (pCons (pSubN "f" (pK (.int 1))) (pCons (pVar "r") pNil))))
    (pSeq (pRet (pIf (pCmpN fEq "below" (pK (rt 0 1))) (pK .none) (pCall sp_rdiv (pCons (pCall sp_qat (pCons (pSubN "f" (pK (.int 0))) (pCons (pVar "r") pNil))) (pCons (pVar "below") pNil)))))
    pEnd))
noncomputable def sp_fat := run ["f", "r"] p_fat
theorem fn_fat {mg mb : Str → Option Value} {hb : Heap} (Bs : Base mg mb hb) : Fn mg hb 5 "fat" sp_fat :=
  fn_intro Bs (d := recAt 41) (mem_rec (by decide)) (by kernel_rfl) (fun vals _ _ _ h => match vals, h with | [_, _], _ => by kernel_rfl) (by decide +kernel) (by decide +kernel) (kinds_of (by decide +kernel)) (by kernel_rfl) (by kernel_rfl) (by kernel_rfl)
    (fun w A B X₀ L a cd g =>
      have sn_below : SN (envOfC (recAt 41).name (recAt 41).scope L a cd) "below" := SN.of (by kernel_rfl) g.en.k (by decide +kernel)
      (ssv_cons (sv_assign sn_below (g.call (fn_qat g.base) (by decide) (by kernel_rfl) (by decide +kernel) (lv_cons (ev_sub_name ev_int) (lv_cons ev_name lv_nil))))
      (ssv_cons (sv_ret (ev_if (tv_cmp_name (cm_eq g.ok) (g.tree (x := "R0") (d := rt 0 1) (by simp [gtrees]) (by kernel_rfl) (by decide +kernel))) ev_none (g.call (fn_rdiv g.base) (by decide) (by kernel_rfl) (by decide +kernel) (lv_cons (g.call (fn_qat g.base) (by decide) (by kernel_rfl) (by decide +kernel) (lv_cons (ev_sub_name ev_int) (lv_cons ev_name lv_nil))) (lv_cons ev_name lv_nil)))))
      ssv_nil)))

noncomputable def p_fcompose : PSt := (pSeq (pAssignO "values" (pDisp pNil))
    (pSeq (pFor "p" (pTs (pVar "f")) (pSeq (pAssign "value" (pK (.tup [.lst [], .lst [rt 1 1]])))
    (pSeq (pFor "r" (pLs (pUn fRev (pVar "p"))) (pSeq (pAssign "value" (pCall sp_fadd (pCons (pCall sp_fmul (pCons (pVar "value") (pCons (pVar "g") pNil))) (pCons (pCall sp_fnumber (pCons (pVar "r") pNil)) pNil))))
    pEnd))
    (pSeq (pAppend "values" (pVar "value"))
    pEnd))))
    (pSeq (pRet (pCall sp_fdiv (pCons (pSubN "values" (pK (.int 0))) (pCons (pSubN "values" (pK (.int 1))) pNil))))
    pEnd)))
noncomputable def sp_fcompose := run ["f", "g"] p_fcompose
theorem fn_fcompose {mg mb : Str → Option Value} {hb : Heap} (Bs : Base mg mb hb) : Fn mg hb 10 "fcompose" sp_fcompose :=
  fn_intro Bs (d := recAt 42) (mem_rec (by decide)) (by kernel_rfl) (fun vals _ _ _ h => match vals, h with | [_, _], _ => by kernel_rfl) (by decide +kernel) (by decide +kernel) (kinds_of (by decide +kernel)) (by kernel_rfl) (by kernel_rfl) (by kernel_rfl)
    (fun w A B X₀ L a cd g =>
      have sn_p : SN (envOfC (recAt 42).name (recAt 42).scope L a cd) "p" := SN.of (by kernel_rfl) g.en.k (by decide +kernel)
      have sn_r : SN (envOfC (recAt 42).name (recAt 42).scope L a cd) "r" := SN.of (by kernel_rfl) g.en.k (by decide +kernel)
      have sn_value : SN (envOfC (recAt 42).name (recAt 42).scope L a cd) "value" := SN.of (by kernel_rfl) g.en.k (by decide +kernel)
      have sn_values : SN (envOfC (recAt 42).name (recAt 42).scope L a cd) "values" := SN.of (by kernel_rfl) g.en.k (by decide +kernel)
      (ssv_cons (sv_assign_own sn_values (fv_list lv_nil))
      (ssv_cons (sv_for sn_p (iv_tuple g.ok ev_name) (fun B => have g := G.withB g B; (ssv_cons (sv_assign sn_value (g.tree (x := "F0") (d := .tup [.lst [], .lst [rt 1 1]]) (by simp [gtrees]) (by kernel_rfl) (by decide +kernel)))
      (ssv_cons (sv_for sn_r (iv_list g.ok (ev_rev ev_name (ev_congr (ev_neg ev_int) (fun _ => rfl)))) (fun B => have g := G.withB g B; (ssv_cons (sv_assign sn_value (g.call (fn_fadd g.base) (by decide) (by kernel_rfl) (by decide +kernel) (lv_cons (g.call (fn_fmul g.base) (by decide) (by kernel_rfl) (by decide +kernel) (lv_cons ev_name (lv_cons ev_name lv_nil))) (lv_cons (g.call (fn_fnumber g.base) (by decide) (by kernel_rfl) (by decide +kernel) (lv_cons ev_name lv_nil)) lv_nil))))
      ssv_nil)))
      (ssv_cons (sv_append ev_name)
      ssv_nil)))))
      (ssv_cons (sv_ret (g.call (fn_fdiv g.base) (by decide) (by kernel_rfl) (by decide +kernel) (lv_cons (ev_sub_name ev_int) (lv_cons (ev_sub_name ev_int) lv_nil))))
      ssv_nil))))

noncomputable def p_fsplit : PSt := (pSeq (pUnp ["whole", "rest"] (pCall sp_qdivmod (pCons (pSubN "f" (pK (.int 0))) (pCons (pSubN "f" (pK (.int 1))) pNil))))
    (pSeq (pRet (pTup (pCons (pVar "whole") (pCons (pIf (pCmpN fNe "rest" (pFr (pDisp pNil))) (pTup (pCons (pVar "rest") (pCons (pFr (pCopy (pSubN "f" (pK (.int 1))))) pNil))) (pK (.tup [.lst [], .lst [rt 1 1]]))) pNil))))
    pEnd))
noncomputable def sp_fsplit := run ["f"] p_fsplit
theorem fn_fsplit {mg mb : Str → Option Value} {hb : Heap} (Bs : Base mg mb hb) : Fn mg hb 7 "fsplit" sp_fsplit :=
  fn_intro Bs (d := recAt 43) (mem_rec (by decide)) (by kernel_rfl) (fun vals _ _ _ h => match vals, h with | [_], _ => by kernel_rfl) (by decide +kernel) (by decide +kernel) (kinds_of (by decide +kernel)) (by kernel_rfl) (by kernel_rfl) (by kernel_rfl)
    (fun w A B X₀ L a cd g =>
      have sn_rest : SN (envOfC (recAt 43).name (recAt 43).scope L a cd) "rest" := SN.of (by kernel_rfl) g.en.k (by decide +kernel)
      have sn_whole : SN (envOfC (recAt 43).name (recAt 43).scope L a cd) "whole" := SN.of (by kernel_rfl) g.en.k (by decide +kernel)
      (ssv_cons (sv_unp (xs := ["whole", "rest"]) g.ok (.name sn_whole (.name sn_rest .nil)) (by kernel_rfl) (g.call (fn_qdivmod g.base) (by decide) (by kernel_rfl) (by decide +kernel) (lv_cons (ev_sub_name ev_int) (lv_cons (ev_sub_name ev_int) lv_nil))) (by kernel_rfl) (by kernel_rfl) (by kernel_rfl))
      (ssv_cons (sv_ret (ev_tuple (lv_cons ev_name (lv_cons (ev_if (tv_cmp_name (cm_ne g.ok) (ev_fresh (fv_list lv_nil))) (ev_tuple (lv_cons ev_name (lv_cons (ev_fresh (fv_copy (G.nvb g (x := "list") (v := .type "list") (by decide +kernel) (by kernel_rfl) (by kernel_rfl) (by decide +kernel) (by decide +kernel)) (ev_sub_name ev_int))) lv_nil))) (g.tree (x := "F0") (d := .tup [.lst [], .lst [rt 1 1]]) (by simp [gtrees]) (by kernel_rfl) (by decide +kernel))) lv_nil))))
      ssv_nil)))
end NN
end

section
open PySem PySem.W PyProof.Rows PySem.Calls PySem.Spec
set_option Elab.async false
set_option autoImplicit false
set_option maxRecDepth 100000

namespace NN
noncomputable def p_law_draw : PSt := (pSeq (pAssign "script" (pSubN "pool" (pK (.int 1))))
    (pSeq (pAssign "cell" (pIf (pCmpN fNe "script" (pFr (pDisp pNil))) (pUn fAbs (pSubN "script" (pBin fMod (pSubN "pool" (pK (.int 2))) (pUnN fLen "script")))) (pK (.int 3))))
    (pSeq (pSetItem "pool" (pK (.int 2)) (pBin fAdd (pSubN "pool" (pK (.int 2))) (pK (.int 1))))
    (pSeq (pSetItem "pool" (pK (.int 0)) (pBin fMod (pBin fAdd (pBin fAdd (pBin fMul (pSubN "pool" (pK (.int 0))) (pK (.int 48271))) (pBin fMod (pVar "cell") (pK (.int 1000003)))) (pK (.int 29))) (pK (.int 2147483647))))
    (pSeq (pRet (pBin fMod (pBin fDiv (pSubN "pool" (pK (.int 0))) (pK (.int 13))) (pVar "many")))
    pEnd)))))
noncomputable def sp_law_draw := runP "pool" ["many"] p_law_draw
theorem fn_law_draw {mg mb : Str → Option Value} {hb : Heap} (Bs : Base mg mb hb) : FnP mg hb 1 "_law_draw" sp_law_draw :=
  fnP_intro Bs (d := recAt 45) (mem_rec (by decide)) (by kernel_rfl) (fun vals _ _ _ h => match vals, h with | [_, _], _ => by kernel_rfl) (by decide +kernel) (by decide +kernel) (by decide +kernel) (by kernel_rfl) (by kernel_rfl) (by kernel_rfl)
    (fun w A B X₀ L a cd g =>
      have sn_cell : SN (envOfC (recAt 45).name (recAt 45).scope L a cd) "cell" := SN.of (by kernel_rfl) g.en.k (by decide +kernel)
      have sn_script : SN (envOfC (recAt 45).name (recAt 45).scope L a cd) "script" := SN.of (by kernel_rfl) g.en.k (by decide +kernel)
      (ssv_cons (sv_assign sn_script (ev_sub_name ev_int))
      (ssv_cons (sv_assign sn_cell (ev_if (tv_cmp_name (cm_ne g.ok) (ev_fresh (fv_list lv_nil))) (ev_call1 (G.nvb g (x := "abs") (v := .builtin "abs") (by decide +kernel) (by kernel_rfl) (by kernel_rfl) (by decide +kernel) (by decide +kernel)) un_abs (ev_sub_name (ev_bin op_mod (ev_sub_name ev_int) (ev_call1_name (G.nvb g (x := "len") (v := .builtin "len") (by decide +kernel) (by kernel_rfl) (by kernel_rfl) (by decide +kernel) (by decide +kernel)) un_len)))) ev_int))
      (ssv_cons (sv_setItem (ev_bin op_add (ev_sub_name ev_int) ev_int) ev_int)
      (ssv_cons (sv_setItem (ev_bin op_mod (ev_bin op_add (ev_bin op_add (ev_bin op_mul (ev_sub_name ev_int) ev_int) (ev_bin op_mod ev_name ev_int)) ev_int) ev_int) ev_int)
      (ssv_cons (sv_ret (ev_bin op_mod (ev_bin (op_div g.ok) (ev_sub_name ev_int) ev_int) ev_name))
      ssv_nil))))))

noncomputable def p_law_poly : PSt := (pSeq (pAssignO "found" (pDisp pNil))
    (pSeq (pFor "turn" (pRg (pBin fAdd (pVar "degree") (pK (.int 1)))) (pSeq (pAppend "found" (pCall sp_rat (pCons (pBin fSub (pCallP "pool" sp_law_draw (pCons (pK (.int 9)) pNil)) (pK (.int 4))) (pCons (pSub (pFr (pDisp (pCons (pK (.int 1)) (pCons (pK (.int 1)) (pCons (pK (.int 1)) (pCons (pK (.int 2)) (pCons (pK (.int 3)) pNil))))))) (pCallP "pool" sp_law_draw (pCons (pK (.int 5)) pNil))) pNil))))
    pEnd))
    (pSeq (pWh (pAnd (pCmpN fNe "found" (pFr (pDisp pNil))) (pAnd (pCmp fEq (pSub (pSubN "found" (pUn fNeg (pK (.int 1)))) (pK (.int 0))) (pK (.int 0))) (pBool true))) (pSeq (pPop "found")
    pEnd))
    (pSeq (pRet (pVar "found"))
    pEnd))))
noncomputable def sp_law_poly := runP "pool" ["degree"] p_law_poly
theorem fn_law_poly {mg mb : Str → Option Value} {hb : Heap} (Bs : Base mg mb hb) : FnP mg hb 3 "_law_poly" sp_law_poly :=
  fnP_intro Bs (d := recAt 46) (mem_rec (by decide)) (by kernel_rfl) (fun vals _ _ _ h => match vals, h with | [_, _], _ => by kernel_rfl) (by decide +kernel) (by decide +kernel) (by decide +kernel) (by kernel_rfl) (by kernel_rfl) (by kernel_rfl)
    (fun w A B X₀ L a cd g =>
      have sn_found : SN (envOfC (recAt 46).name (recAt 46).scope L a cd) "found" := SN.of (by kernel_rfl) g.en.k (by decide +kernel)
      have sn_turn : SN (envOfC (recAt 46).name (recAt 46).scope L a cd) "turn" := SN.of (by kernel_rfl) g.en.k (by decide +kernel)
      (ssv_cons (sv_assign_own sn_found (fv_list lv_nil))
      (ssv_cons (sv_for sn_turn (iv_range g.ok (G.nvb g (x := "range") (v := .type "range") (by decide +kernel) (by kernel_rfl) (by kernel_rfl) (by decide +kernel) (by decide +kernel)) (ev_bin op_add ev_name ev_int)) (fun B => have g := G.withB g B; (ssv_cons (sv_append (g.call (fn_rat g.base) (by decide) (by kernel_rfl) (by decide +kernel) (lv_cons (ev_bin op_sub (ev_callP (fn_law_draw g.base) g.ok (by decide) (fun _ hv => g.nv hv (by kernel_rfl) (by decide +kernel)) (lv_cons ev_int lv_nil)) ev_int) (lv_cons (ev_sub (ev_fresh (fv_list (lv_cons ev_int (lv_cons ev_int (lv_cons ev_int (lv_cons ev_int (lv_cons ev_int lv_nil))))))) (ev_callP (fn_law_draw g.base) g.ok (by decide) (fun _ hv => g.nv hv (by kernel_rfl) (by decide +kernel)) (lv_cons ev_int lv_nil))) lv_nil))))
      ssv_nil)))
      (ssv_cons (sv_wh (tv_bool (av_and (tv_cmp_name (cm_ne g.ok) (ev_fresh (fv_list lv_nil))) (av_and (tv_cmp (cm_eq g.ok) (ev_sub (ev_sub_name (ev_neg ev_int)) ev_int) ev_int) av_and_nil))) (ssv_cons sv_pop
      ssv_nil))
      (ssv_cons (sv_ret ev_name)
      ssv_nil)))))

noncomputable def p_law_value : PSt := (pSeq (pUnp ["top", "bottom"] (pTup (pCons (pK (.int 0)) (pCons (pK (.int 1)) pNil))))
    (pSeq (pForE "at" "r" (pVar "p") (pSeq (pUnpR ["above", "below"] (pTup (pCons (pBin fMul (pSubN "r" (pK (.int 0))) (pBin fPow (pSubN "x" (pK (.int 0))) (pVar "at"))) (pCons (pBin fMul (pSubN "r" (pK (.int 1))) (pBin fPow (pSubN "x" (pK (.int 1))) (pVar "at"))) pNil))))
    (pSeq (pUnpR ["top", "bottom"] (pTup (pCons (pBin fAdd (pBin fMul (pVar "top") (pVar "below")) (pBin fMul (pVar "above") (pVar "bottom"))) (pCons (pBin fMul (pVar "bottom") (pVar "below")) pNil))))
    pEnd)))
    (pSeq (pRet (pTup (pCons (pVar "top") (pCons (pVar "bottom") pNil))))
    pEnd)))
noncomputable def sp_law_value := run ["p", "x"] p_law_value
theorem fn_law_value {mg mb : Str → Option Value} {hb : Heap} (Bs : Base mg mb hb) : Fn mg hb 1 "_law_value" sp_law_value :=
  fn_intro Bs (d := recAt 47) (mem_rec (by decide)) (by kernel_rfl) (fun vals _ _ _ h => match vals, h with | [_, _], _ => by kernel_rfl) (by decide +kernel) (by decide +kernel) (kinds_of (by decide +kernel)) (by kernel_rfl) (by kernel_rfl) (by kernel_rfl)
    (fun w A B X₀ L a cd g =>
      have sn_above : SN (envOfC (recAt 47).name (recAt 47).scope L a cd) "above" := SN.of (by kernel_rfl) g.en.k (by decide +kernel)
      have sn_at : SN (envOfC (recAt 47).name (recAt 47).scope L a cd) "at" := SN.of (by kernel_rfl) g.en.k (by decide +kernel)
      have sn_below : SN (envOfC (recAt 47).name (recAt 47).scope L a cd) "below" := SN.of (by kernel_rfl) g.en.k (by decide +kernel)
      have sn_bottom : SN (envOfC (recAt 47).name (recAt 47).scope L a cd) "bottom" := SN.of (by kernel_rfl) g.en.k (by decide +kernel)
      have sn_r : SN (envOfC (recAt 47).name (recAt 47).scope L a cd) "r" := SN.of (by kernel_rfl) g.en.k (by decide +kernel)
      have sn_top : SN (envOfC (recAt 47).name (recAt 47).scope L a cd) "top" := SN.of (by kernel_rfl) g.en.k (by decide +kernel)
      (ssv_cons (sv_unp (xs := ["top", "bottom"]) g.ok (.name sn_top (.name sn_bottom .nil)) (by kernel_rfl) (ev_tuple (lv_cons ev_int (lv_cons ev_int lv_nil))) (by kernel_rfl) (by kernel_rfl) (by kernel_rfl))
      (ssv_cons (sv_forE g.ok sn_at sn_r (G.nvb g (x := "enumerate") (v := .type "enumerate") (by decide +kernel) (by kernel_rfl) (by kernel_rfl) (by decide +kernel) (by decide +kernel)) ev_name (fun B => have g := G.withB g B; (ssv_cons (sv_unpR (names := [Str.ofString "above", Str.ofString "below"]) g.ok (.bind sn_below (.bind sn_above .nil)) (by rfl) (ev_tuple (lv_cons (ev_bin op_mul (ev_sub_name ev_int) (ev_bin op_pow (ev_sub_name ev_int) ev_name)) (lv_cons (ev_bin op_mul (ev_sub_name ev_int) (ev_bin op_pow (ev_sub_name ev_int) ev_name)) lv_nil))) (by kernel_rfl) (by kernel_rfl))
      (ssv_cons (sv_unpR (names := [Str.ofString "top", Str.ofString "bottom"]) g.ok (.bind sn_bottom (.bind sn_top .nil)) (by rfl) (ev_tuple (lv_cons (ev_bin op_add (ev_bin op_mul ev_name ev_name) (ev_bin op_mul ev_name ev_name)) (lv_cons (ev_bin op_mul ev_name ev_name) lv_nil))) (by kernel_rfl) (by kernel_rfl))
      ssv_nil))))
      (ssv_cons (sv_ret (ev_tuple (lv_cons ev_name (lv_cons ev_name lv_nil))))
      ssv_nil))))

noncomputable def p_law_same : PSt := (pSeq (pRet (pB (pCmp fEq (pBin fMul (pSubN "one" (pK (.int 0))) (pSubN "other" (pK (.int 1)))) (pBin fMul (pSubN "other" (pK (.int 0))) (pSubN "one" (pK (.int 1)))))))
    pEnd)
noncomputable def sp_law_same := run ["one", "other"] p_law_same
theorem fn_law_same {mg mb : Str → Option Value} {hb : Heap} (Bs : Base mg mb hb) : Fn mg hb 1 "_law_same" sp_law_same :=
  fn_intro Bs (d := recAt 48) (mem_rec (by decide)) (by kernel_rfl) (fun vals _ _ _ h => match vals, h with | [_, _], _ => by kernel_rfl) (by decide +kernel) (by decide +kernel) (kinds_of (by decide +kernel)) (by kernel_rfl) (by kernel_rfl) (by kernel_rfl)
    (fun w A B X₀ L a cd g =>
      (ssv_cons (sv_ret (ev_cmp (cm_eq g.ok) (ev_bin op_mul (ev_sub_name ev_int) (ev_sub_name ev_int)) (ev_bin op_mul (ev_sub_name ev_int) (ev_sub_name ev_int))))
      ssv_nil))

noncomputable def p_law_grown : PSt := (pSeq (pAssignO "found" (pIf (pAnd (pCmpN fNe "p" (pFr (pDisp pNil))) (pAnd (pCmpN fNe "q" (pFr (pDisp pNil))) (pBool true))) (pLC "turn" [] (pBool true) (pTup (pCons (pK (.int 0)) (pCons (pK (.int 1)) pNil))) (pRg (pBin fSub (pBin fAdd (pUnN fLen "p") (pUnN fLen "q")) (pK (.int 1))))) (pDisp pNil)))
    (pSeq (pForE "at" "one" (pVar "p") (pSeq (pForE "spot" "other" (pVar "q") (pSeq (pAssign "here" (pSubN "found" (pBin fAdd (pVar "at") (pVar "spot"))))
    (pSeq (pSetItem "found" (pBin fAdd (pVar "at") (pVar "spot")) (pCall sp_rat (pCons (pBin fAdd (pBin fMul (pBin fMul (pSubN "here" (pK (.int 0))) (pSubN "one" (pK (.int 1)))) (pSubN "other" (pK (.int 1)))) (pBin fMul (pBin fMul (pSubN "one" (pK (.int 0))) (pSubN "other" (pK (.int 0)))) (pSubN "here" (pK (.int 1))))) (pCons (pBin fMul (pBin fMul (pSubN "here" (pK (.int 1))) (pSubN "one" (pK (.int 1)))) (pSubN "other" (pK (.int 1)))) pNil))))
    pEnd)))
    pEnd))
    (pSeq (pRet (pVar "found"))
    pEnd)))
noncomputable def sp_law_grown := run ["p", "q"] p_law_grown
theorem fn_law_grown {mg mb : Str → Option Value} {hb : Heap} (Bs : Base mg mb hb) : Fn mg hb 3 "_law_grown" sp_law_grown :=
  fn_intro Bs (d := recAt 49) (mem_rec (by decide)) (by kernel_rfl) (fun vals _ _ _ h => match vals, h with | [_, _], _ => by kernel_rfl) (by decide +kernel) (by decide +kernel) (kinds_of (by decide +kernel)) (by kernel_rfl) (by kernel_rfl) (by kernel_rfl)
    (fun w A B X₀ L a cd g =>
      have sn_at : SN (envOfC (recAt 49).name (recAt 49).scope L a cd) "at" := SN.of (by kernel_rfl) g.en.k (by decide +kernel)
      have sn_found : SN (envOfC (recAt 49).name (recAt 49).scope L a cd) "found" := SN.of (by kernel_rfl) g.en.k (by decide +kernel)
      have sn_here : SN (envOfC (recAt 49).name (recAt 49).scope L a cd) "here" := SN.of (by kernel_rfl) g.en.k (by decide +kernel)
      have sn_one : SN (envOfC (recAt 49).name (recAt 49).scope L a cd) "one" := SN.of (by kernel_rfl) g.en.k (by decide +kernel)
      have sn_other : SN (envOfC (recAt 49).name (recAt 49).scope L a cd) "other" := SN.of (by kernel_rfl) g.en.k (by decide +kernel)
      have sn_spot : SN (envOfC (recAt 49).name (recAt 49).scope L a cd) "spot" := SN.of (by kernel_rfl) g.en.k (by decide +kernel)
      (ssv_cons (sv_assign_own sn_found (fv_if (tv_bool (av_and (tv_cmp_name (cm_ne g.ok) (ev_fresh (fv_list lv_nil))) (av_and (tv_cmp_name (cm_ne g.ok) (ev_fresh (fv_list lv_nil))) av_and_nil))) (fv_comp (cl := []) (vis := []) ⟨by kernel_rfl, by kernel_rfl, by decide +kernel, by decide +kernel, by decide +kernel, by decide +kernel, by kernel_rfl, (fun _ _ h => by cases h), (fun y hy => by cases hy)⟩ (iv_range g.ok (G.nvb g (x := "range") (v := .type "range") (by decide +kernel) (by kernel_rfl) (by kernel_rfl) (by decide +kernel) (by decide +kernel)) (ev_bin op_sub (ev_bin op_add (ev_call1_name (G.nvb g (x := "len") (v := .builtin "len") (by decide +kernel) (by kernel_rfl) (by kernel_rfl) (by decide +kernel) (by decide +kernel)) un_len) (ev_call1_name (G.nvb g (x := "len") (v := .builtin "len") (by decide +kernel) (by kernel_rfl) (by kernel_rfl) (by decide +kernel) (by decide +kernel)) un_len)) ev_int)) (fun C B X₀ => by exact ctv_cc g (by kernel_rfl) (fun g => ctv_nil)) (fun C B X₀ => by exact ev_cc g (by kernel_rfl) (fun g => (ev_tuple (lv_cons ev_int (lv_cons ev_int lv_nil)))))) (fv_list lv_nil)))
      (ssv_cons (sv_forE g.ok sn_at sn_one (G.nvb g (x := "enumerate") (v := .type "enumerate") (by decide +kernel) (by kernel_rfl) (by kernel_rfl) (by decide +kernel) (by decide +kernel)) ev_name (fun B => have g := G.withB g B; (ssv_cons (sv_forE g.ok sn_spot sn_other (G.nvb g (x := "enumerate") (v := .type "enumerate") (by decide +kernel) (by kernel_rfl) (by kernel_rfl) (by decide +kernel) (by decide +kernel)) ev_name (fun B => have g := G.withB g B; (ssv_cons (sv_assign sn_here (ev_sub_name (ev_bin op_add ev_name ev_name)))
      (ssv_cons (sv_setItem (g.call (fn_rat g.base) (by decide) (by kernel_rfl) (by decide +kernel) (lv_cons (ev_bin op_add (ev_bin op_mul (ev_bin op_mul (ev_sub_name ev_int) (ev_sub_name ev_int)) (ev_sub_name ev_int)) (ev_bin op_mul (ev_bin op_mul (ev_sub_name ev_int) (ev_sub_name ev_int)) (ev_sub_name ev_int))) (lv_cons (ev_bin op_mul (ev_bin op_mul (ev_sub_name ev_int) (ev_sub_name ev_int)) (ev_sub_name ev_int)) lv_nil))) (ev_bin op_add ev_name ev_name))
      ssv_nil))))
      ssv_nil)))
      (ssv_cons (sv_ret ev_name)
      ssv_nil))))

noncomputable def p_law_pair : PSt := (pSeq (pUnpR ["upper", "lower"] (pTup (pCons (pCallP "pool" sp_law_poly (pCons (pK (.int 1)) pNil)) (pCons (pCallP "pool" sp_law_poly (pCons (pK (.int 1)) pNil)) pNil))))
    (pSeq (pAssign "lower" (pIf (pCmpN fNe "lower" (pFr (pDisp pNil))) (pVar "lower") (pFr (pDisp (pCons (pTup (pCons (pK (.int 1)) (pCons (pK (.int 1)) pNil))) pNil)))))
    (pSeq (pAssign "shared" (pIf (pCmp fGt (pCallP "pool" sp_law_draw (pCons (pK (.int 3)) pNil)) (pK (.int 0))) (pFr (pDisp (pCons (pCall sp_rat (pCons (pBin fSub (pCallP "pool" sp_law_draw (pCons (pK (.int 5)) pNil)) (pK (.int 2))) (pCons (pK (.int 1)) pNil))) (pCons (pTup (pCons (pK (.int 1)) (pCons (pK (.int 1)) pNil))) pNil)))) (pFr (pDisp (pCons (pTup (pCons (pK (.int 3)) (pCons (pK (.int 2)) pNil))) pNil)))))
    (pSeq (pRet (pTup (pCons (pCall sp_law_grown (pCons (pVar "upper") (pCons (pVar "shared") pNil))) (pCons (pCall sp_law_grown (pCons (pVar "lower") (pCons (pVar "shared") pNil))) pNil))))
    pEnd))))
noncomputable def sp_law_pair := runP "pool" [] p_law_pair
theorem fn_law_pair {mg mb : Str → Option Value} {hb : Heap} (Bs : Base mg mb hb) : FnP mg hb 4 "_law_pair" sp_law_pair :=
  fnP_intro Bs (d := recAt 50) (mem_rec (by decide)) (by kernel_rfl) (fun vals _ _ _ h => match vals, h with | [_], _ => by kernel_rfl) (by decide +kernel) (by decide +kernel) (by decide +kernel) (by kernel_rfl) (by kernel_rfl) (by kernel_rfl)
    (fun w A B X₀ L a cd g =>
      have sn_lower : SN (envOfC (recAt 50).name (recAt 50).scope L a cd) "lower" := SN.of (by kernel_rfl) g.en.k (by decide +kernel)
      have sn_shared : SN (envOfC (recAt 50).name (recAt 50).scope L a cd) "shared" := SN.of (by kernel_rfl) g.en.k (by decide +kernel)
      have sn_upper : SN (envOfC (recAt 50).name (recAt 50).scope L a cd) "upper" := SN.of (by kernel_rfl) g.en.k (by decide +kernel)
      (ssv_cons (sv_unpR (names := [Str.ofString "upper", Str.ofString "lower"]) g.ok (.bind sn_lower (.bind sn_upper .nil)) (by rfl) (ev_tuple (lv_cons (ev_callP (fn_law_poly g.base) g.ok (by decide) (fun _ hv => g.nv hv (by kernel_rfl) (by decide +kernel)) (lv_cons ev_int lv_nil)) (lv_cons (ev_callP (fn_law_poly g.base) g.ok (by decide) (fun _ hv => g.nv hv (by kernel_rfl) (by decide +kernel)) (lv_cons ev_int lv_nil)) lv_nil))) (by kernel_rfl) (by kernel_rfl))
      (ssv_cons (sv_assign sn_lower (ev_if (tv_cmp_name (cm_ne g.ok) (ev_fresh (fv_list lv_nil))) ev_name (ev_fresh (fv_list (lv_cons (ev_tuple (lv_cons ev_int (lv_cons ev_int lv_nil))) lv_nil)))))
      (ssv_cons (sv_assign sn_shared (ev_if (tv_cmp cm_gt (ev_callP (fn_law_draw g.base) g.ok (by decide) (fun _ hv => g.nv hv (by kernel_rfl) (by decide +kernel)) (lv_cons ev_int lv_nil)) ev_int) (ev_fresh (fv_list (lv_cons (g.call (fn_rat g.base) (by decide) (by kernel_rfl) (by decide +kernel) (lv_cons (ev_bin op_sub (ev_callP (fn_law_draw g.base) g.ok (by decide) (fun _ hv => g.nv hv (by kernel_rfl) (by decide +kernel)) (lv_cons ev_int lv_nil)) ev_int) (lv_cons ev_int lv_nil))) (lv_cons (ev_tuple (lv_cons ev_int (lv_cons ev_int lv_nil))) lv_nil)))) (ev_fresh (fv_list (lv_cons (ev_tuple (lv_cons ev_int (lv_cons ev_int lv_nil))) lv_nil)))))
      (ssv_cons (sv_ret (ev_tuple (lv_cons (g.call (fn_law_grown g.base) (by decide) (by kernel_rfl) (by decide +kernel) (lv_cons ev_name (lv_cons ev_name lv_nil))) (lv_cons (g.call (fn_law_grown g.base) (by decide) (by kernel_rfl) (by decide +kernel) (lv_cons ev_name (lv_cons ev_name lv_nil))) lv_nil))))
      ssv_nil)))))

noncomputable def p_law_at : PSt := (pSeq (pUnpR ["one", "other"] (pTup (pCons (pCall sp_law_value (pCons (pSubN "pair" (pK (.int 0))) (pCons (pVar "x") pNil))) (pCons (pCall sp_law_value (pCons (pSubN "pair" (pK (.int 1))) (pCons (pVar "x") pNil))) pNil))))
    (pSeq (pRet (pIf (pCmp fEq (pSubN "other" (pK (.int 0))) (pK (.int 0))) (pK .none) (pTup (pCons (pBin fMul (pSubN "one" (pK (.int 0))) (pSubN "other" (pK (.int 1)))) (pCons (pBin fMul (pSubN "one" (pK (.int 1))) (pSubN "other" (pK (.int 0)))) pNil)))))
    pEnd))
noncomputable def sp_law_at := run ["pair", "x"] p_law_at
theorem fn_law_at {mg mb : Str → Option Value} {hb : Heap} (Bs : Base mg mb hb) : Fn mg hb 2 "_law_at" sp_law_at :=
  fn_intro Bs (d := recAt 51) (mem_rec (by decide)) (by kernel_rfl) (fun vals _ _ _ h => match vals, h with | [_, _], _ => by kernel_rfl) (by decide +kernel) (by decide +kernel) (kinds_of (by decide +kernel)) (by kernel_rfl) (by kernel_rfl) (by kernel_rfl)
    (fun w A B X₀ L a cd g =>
      have sn_one : SN (envOfC (recAt 51).name (recAt 51).scope L a cd) "one" := SN.of (by kernel_rfl) g.en.k (by decide +kernel)
      have sn_other : SN (envOfC (recAt 51).name (recAt 51).scope L a cd) "other" := SN.of (by kernel_rfl) g.en.k (by decide +kernel)
      (ssv_cons (sv_unpR (names := [Str.ofString "one", Str.ofString "other"]) g.ok (.bind sn_other (.bind sn_one .nil)) (by rfl) (ev_tuple (lv_cons (g.call (fn_law_value g.base) (by decide) (by kernel_rfl) (by decide +kernel) (lv_cons (ev_sub_name ev_int) (lv_cons ev_name lv_nil))) (lv_cons (g.call (fn_law_value g.base) (by decide) (by kernel_rfl) (by decide +kernel) (lv_cons (ev_sub_name ev_int) (lv_cons ev_name lv_nil))) lv_nil))) (by kernel_rfl) (by kernel_rfl))
      (ssv_cons (sv_ret (ev_if (tv_cmp (cm_eq g.ok) (ev_sub_name ev_int) ev_int) ev_none (ev_tuple (lv_cons (ev_bin op_mul (ev_sub_name ev_int) (ev_sub_name ev_int)) (lv_cons (ev_bin op_mul (ev_sub_name ev_int) (ev_sub_name ev_int)) lv_nil)))))
      ssv_nil)))

noncomputable def p_law_is_made : PSt := (pSeq (pStIf (pOr (pCmp fEq (pSubN "f" (pK (.int 1))) (pFr (pDisp pNil))) (pOr (pCmp fNe (pSub (pSubN "f" (pK (.int 1))) (pUn fNeg (pK (.int 1)))) (pTup (pCons (pK (.int 1)) (pCons (pK (.int 1)) pNil)))) (pOr (pAnd (pCmp fNe (pSubN "f" (pK (.int 0))) (pFr (pDisp pNil))) (pAnd (pCmp fEq (pSub (pSub (pSubN "f" (pK (.int 0))) (pUn fNeg (pK (.int 1)))) (pK (.int 0))) (pK (.int 0))) (pBool true))) (pBool false)))) (pSeq (pRet (pK (.bool false)))
    pEnd) pEnd)
    (pSeq (pRet (pOr2 (pB (pCmp fNe (pSubN "f" (pK (.int 0))) (pFr (pDisp pNil)))) (pB (pCmp fEq (pSubN "f" (pK (.int 1))) (pFr (pDisp (pCons (pTup (pCons (pK (.int 1)) (pCons (pK (.int 1)) pNil))) pNil)))))))
    pEnd))
noncomputable def sp_law_is_made := run ["f"] p_law_is_made
theorem fn_law_is_made {mg mb : Str → Option Value} {hb : Heap} (Bs : Base mg mb hb) : Fn mg hb 1 "_law_is_made" sp_law_is_made :=
  fn_intro Bs (d := recAt 52) (mem_rec (by decide)) (by kernel_rfl) (fun vals _ _ _ h => match vals, h with | [_], _ => by kernel_rfl) (by decide +kernel) (by decide +kernel) (kinds_of (by decide +kernel)) (by kernel_rfl) (by kernel_rfl) (by kernel_rfl)
    (fun w A B X₀ L a cd g =>
      (ssv_cons (sv_if (tv_bool (av_or (tv_cmp (cm_eq g.ok) (ev_sub_name ev_int) (ev_fresh (fv_list lv_nil))) (av_or (tv_cmp (cm_ne g.ok) (ev_sub (ev_sub_name ev_int) (ev_neg ev_int)) (ev_tuple (lv_cons ev_int (lv_cons ev_int lv_nil)))) (av_or (tv_bool (av_and (tv_cmp (cm_ne g.ok) (ev_sub_name ev_int) (ev_fresh (fv_list lv_nil))) (av_and (tv_cmp (cm_eq g.ok) (ev_sub (ev_sub (ev_sub_name ev_int) (ev_neg ev_int)) ev_int) ev_int) av_and_nil))) av_or_nil)))) (ssv_cons (sv_ret ev_bool)
      ssv_nil) ssv_nil)
      (ssv_cons (sv_ret (ev_or2 (ev_cmp (cm_ne g.ok) (ev_sub_name ev_int) (ev_fresh (fv_list lv_nil))) (ev_cmp (cm_eq g.ok) (ev_sub_name ev_int) (ev_fresh (fv_list (lv_cons (ev_tuple (lv_cons ev_int (lv_cons ev_int lv_nil))) lv_nil))))))
      ssv_nil)))

noncomputable def p_law_is_value : PSt := (pSeq (pAssign "told" (pCall sp_fat (pCons (pVar "f") (pCons (pVar "x") pNil))))
    (pSeq (pRet (pAnd2 (pB (pCmpN fIsNot "told" (pK .none))) (pCall sp_law_same (pCons (pVar "told") (pCons (pVar "due") pNil)))))
    pEnd))
noncomputable def sp_law_is_value := run ["f", "x", "due"] p_law_is_value
theorem fn_law_is_value {mg mb : Str → Option Value} {hb : Heap} (Bs : Base mg mb hb) : Fn mg hb 6 "_law_is_value" sp_law_is_value :=
  fn_intro Bs (d := recAt 53) (mem_rec (by decide)) (by kernel_rfl) (fun vals _ _ _ h => match vals, h with | [_, _, _], _ => by kernel_rfl) (by decide +kernel) (by decide +kernel) (kinds_of (by decide +kernel)) (by kernel_rfl) (by kernel_rfl) (by kernel_rfl)
    (fun w A B X₀ L a cd g =>
      have sn_told : SN (envOfC (recAt 53).name (recAt 53).scope L a cd) "told" := SN.of (by kernel_rfl) g.en.k (by decide +kernel)
      (ssv_cons (sv_assign sn_told (g.call (fn_fat g.base) (by decide) (by kernel_rfl) (by decide +kernel) (lv_cons ev_name (lv_cons ev_name lv_nil))))
      (ssv_cons (sv_ret (ev_and2 (ev_cmp_name cm_isNot ev_none) (g.call (fn_law_same g.base) (by decide) (by kernel_rfl) (by decide +kernel) (lv_cons ev_name (lv_cons ev_name lv_nil)))))
      ssv_nil)))
end NN
end

section
open PySem PySem.W PyProof.Rows PySem.Calls PySem.Spec
open Sem (wp)
set_option Elab.async false
set_option autoImplicit false
set_option maxRecDepth 100000

namespace NN
noncomputable abbrev bmE : List Value := [.type "Exception", .type "BaseException", .type "object"]
section
variable {prog : Program} {w : World} {A : Around} {E : Value → Shared → Prop} {h : Heap} {g : Array GenState} {d : Drawn} {t : Nat} {os : OsState}
variable {nm q : Str} {C N fI : Addr} {bs : List Value} {hdct : Bool} {sn : List Str} {sub : List Value} {ab : Bool} {col : Option Bool} {dd : Option Addr} {k0 k1 k2 k3 k5 : Option Value}

noncomputable abbrev excObj (C t : Addr) : Obj := { cls := .ref C, data := .fields #[.ref t, .none, .none, .none, .bool false, .none] }

theorem bind_func {M : Model} {s : Shared} {f : Addr} {self : Value} {o : Obj} {Q : Value × List Value → Shared → Prop} (ho : s.heap.get? f = some o) (hc : o.cls = .type "function") (hq : Q (.ref f, [self]) s) : wpAny M A (bindSpecial (.ref f) self) Q E s := by
  obtain ⟨h, g, d, t, os⟩ := s
  unfold bindSpecial
  refine wpAny_bind ?_
  unfold typeOf
  refine wpAny_bind (wpAny_loadPart_at ho ?_)
  rw [hc]
  refine wpAny_pure ?_
  exact wpAny_pure hq

theorem fail_type_call {mN : Str → Option Value} {rest : List Value} {Q : Fin → Shared → Prop} {ofn : Obj}
    (hC : h.get? C = some (excClassObj nm q C N bs bmE hdct sn sub ab col dd k0 k1 k2 k3 k5 "Exception.__new__")) (hn : h.Ns N mN) (hni : mN "__init__" = some (.ref fI)) (hf : h.get? fI = some ofn) (hfc : ofn.cls = .type "function")
    (hq : ∀ e T h', h'.get? e = some (excObj C T) → (∀ b o, h.get? b = some o → h'.get? b = some o) → h.get? e = none → wpAny (model prog w) A (call (.ref fI) (.ref e :: rest)) (fun v s' => v = .none ∧ Q (.done (.ret (.ref e))) s') E ⟨h', g, d, t, os⟩) (hrest : rest.length ≤ sizeLine := by size_fits) :
    wpAny (model prog w) A (Builtin.«type.__call__» ⟨.ref C :: rest, []⟩) Q E ⟨h, g, d, t, os⟩ := by
  have F := PySem.F.excBase_Exception

  repeat (first | with_reducible refine wpAny_loadPart_at hC ?_ | with_reducible refine wpAny_madeBy_exc hC ?_ | wp_step)
  refine codeAny_call_builtin_code (Code.quiet_builtin _ F.quiet) (wpAny_check_new_sub F hC ?_)
  refine codeAny_exc_new_sub F hC ?_ hrest
  show wpAny _ _ _ _ _ _
  have hC₁ := Heap.get?_push_of_some { cls := .ref C, data := .fields #[.ref h.objs.size, .none, .none, .none, .bool false, .none] }
    (Heap.get?_push_of_some { cls := .type "tuple", data := .seq rest.toArray } hC)
  have hf₁ := Heap.get?_push_of_some { cls := .ref C, data := .fields #[.ref h.objs.size, .none, .none, .none, .bool false, .none] }
    (Heap.get?_push_of_some { cls := .type "tuple", data := .seq rest.toArray } hf)
  have hn₁ : ((h.push { cls := .type "tuple", data := .seq rest.toArray }).push { cls := .ref C, data := .fields #[.ref h.objs.size, .none, .none, .none, .bool false, .none] }).Ns N mN :=
    let ⟨o, es, ep, e, r⟩ := hn; ⟨o, es, ep, Heap.get?_push_of_some _ (Heap.get?_push_of_some _ e), r⟩
  have hget : ((h.push { cls := .type "tuple", data := .seq rest.toArray }).push
      { cls := .ref C, data := .fields #[.ref h.objs.size, .none, .none, .none, .bool false, .none] }).get? (h.objs.size + 1) = some
      { cls := .ref C, data := .fields #[.ref h.objs.size, .none, .none, .none, .bool false, .none] } := by heap_get
  have hcC : (Value.ref C :: bmE).contains (.ref C) = true := by simp
  unfold isInstance
  repeat (first | with_reducible refine wpAny_loadPart_at hget ?_ | (with_reducible refine wpAny_isSubtype_exc hC₁ ?_; rw [hcC]) | wp_step)
  show wpAny _ _ (typeLookup (.ref C) _) _ _ _
  refine wpAny_typeLookup_exc hC₁ hn₁ F.mroIs F.init.lookup ?_
  rw [hni]
  refine wpAny_holding (wpAny_bind (bind_func hf₁ hfc ?_))
  dsimp only
  refine wpAny_bind (wpAny_mono (hq _ _ _ hget (fun b o e => Heap.get?_push_of_some _ (Heap.get?_push_of_some _ e)) (Heap.get?_none_of_le (Nat.le_succ _))) (fun v s' hv => ?_) fun _ _ e => e)
  obtain ⟨rfl, hv⟩ := hv
  refine wpAny_pure ?_
  dsimp only
  rw [if_neg (by decide)]
  exact wpAny_pure hv

/-- the class is called -/
theorem fail_call {mN : Str → Option Value} {rest : List Value} {Q : Value → Shared → Prop} {ofn : Obj}
    (hC : h.get? C = some (excClassObj nm q C N bs bmE hdct sn sub ab col dd k0 k1 k2 k3 k5 "Exception.__new__")) (hn : h.Ns N mN) (hni : mN "__init__" = some (.ref fI)) (hf : h.get? fI = some ofn) (hfc : ofn.cls = .type "function")
    (hq : ∀ e T h', h'.get? e = some (excObj C T) → (∀ b o, h.get? b = some o → h'.get? b = some o) → h.get? e = none → wpAny (model prog w) (A.under (.builtin "type.__call__" ⟨.ref C :: rest, []⟩)) (call (.ref fI) (.ref e :: rest)) (fun v s' => v = .none ∧ Q (.ref e) s') E ⟨h', g, d, t, os⟩) (hrest : rest.length ≤ sizeLine := by size_fits) :
    wpAny (model prog w) A (call (.ref C) rest) Q E ⟨h, g, d, t, os⟩ := by
  have f1 := tc_lookup
  have f2 := tc_bind (.ref C)
  have hT : (⟨h, g, d, t, os⟩ : Shared).TypeIs (.ref C) "type" := ⟨_, hC, rfl⟩
  refine wpAny_call (codeAny_of_tree ?_)
  show wpAny _ _ (callAny (.ref C) _) _ _ _
  repeat (any_goals (first | assumption | with_reducible refine wpAny_loadPart_at hC ?_ | wp_step))
  refine ⟨rfl, ?_⟩
  refine codeAny_call_builtin_at (Code.quiet_builtin _ (by decide +kernel)) entry_typeCall (wpAny_check_type_call_sub hC (fail_type_call (hrest := hrest) hC hn hni hf hfc fun e T h' he hk hne => ?_))
  refine wpAny_mono (hq e T h' he hk hne) (fun v s' hv => ⟨hv.1, ?_⟩) fun _ _ e => e
  exact hv.2
end
end NN
end

section
open PySem PySem.W PyProof.Rows PySem.Calls PySem.Spec
open Sem (wp)
set_option Elab.async false
set_option autoImplicit false
set_option maxRecDepth 100000

namespace NN
noncomputable def initRec : DefRec := match pw.main.body.getD 1 (.Pass ⟨0,0,0,0⟩) with
  | .ClassDef _ _ _ (st :: _) .. => recOfStmt st
  | _ => recAt 0
noncomputable abbrev envI (L f : Addr) (cd pm : Value) : Env := callEnv (fnX "__init__" "CasFail.__init__" initRec.params initRec.body initRec.scope [] .none .none .none pm none cd .none) L f
section
variable {prog : Program} {w : World} {A : Around} {E : Value → Shared → Prop}
variable {nm q : Str} {C N fI : Addr} {bs : List Value} {hdct : Bool} {sn : List Str} {sub : List Value} {ab : Bool} {col : Option Bool} {dd : Option Addr} {k0 k1 k2 k3 k5 : Option Value}

theorem cls_init : findCls [] (.type "Exception") (.type "type") "__init__" = some (.val (.builtin "Exception.__init__")) := by kernel_rfl
theorem sub_tt : subIn [] (.type "type") (.type "type") = some true := by kernel_rfl
theorem getm_init {s : Shared} {pl : Sem Bool} {Q : Value × List Value → Shared → Prop} (h : Q (.builtin "Exception.__init__", []) { s with toks := s.toks + 1 }) :
    wpAny (model prog w) A (getMethod (.type "Exception") "__init__" pl) Q E s := by
  have X : Frag.In [] s.heap := fun _ _ e => by cases e
  have hstub : opaqueClassAbove (.type "Exception") = pure none := by unfold opaqueClassAbove; dsimp only; rw [show Manifest.isStub "Exception" = false by decide +kernel]; rfl
  have ht : typeOf (.type "Exception") = pure (.type "type") := by first | rfl | kernel_rfl
  have L0 : Looks (model prog w) s.heap (typeOf (.type "Exception")) (.type "type") := Looks.of_pure ht
  have hg : findIn [] (.type "type") "__getattribute__" = some (some (.builtin "type.__getattribute__")) := type_tga
  unfold getMethod specialOf
  refine wpAny_bind (wpAny_bind (L0.here ((looks_findIn X hg).here ?_)))
  dsimp only
  rw [if_pos (by decide +kernel)]
  refine wpAny_bind (wpAny_mono (Q := fun v => Q (v, [])) (E := E) ?_ (fun _ _ z => wpAny_pure z) fun _ _ z => z)
  have LO : Looks (model prog w) s.heap (opaqueClassAbove (.type "Exception")) none := Looks.of_pure hstub
  refine cls_open X LO L0 hg (looks_hook X (r := none) (by rfl)) sub_tt cls_init ?_
  exact wpAny_pure (handed_on rfl h)

/-- Exception.__init__(e, x) -/
theorem call_exc_init {h : Heap} {g : Array GenState} {d : Drawn} {t : Nat} {os : OsState} {e T : Addr} {x : Value} {Q : Value → Shared → Prop}
    (hC : h.get? C = some (excClassObj nm q C N bs bmE hdct sn sub ab col dd k0 k1 k2 k3 k5 "Exception.__new__")) (he : h.get? e = some (excObj C T))
    (hq : ∀ h' T', h'.get? e = some (excObj C T') → (∀ b o, b ≠ e → h.get? b = some o → h'.get? b = some o) → Q .none ⟨h', g, d, t, os⟩) :
    wpAny (model prog w) A (call (.builtin "Exception.__init__") [.ref e, x]) Q E ⟨h, g, d, t, os⟩ := by
  have F := PySem.F.excBase_Exception
  refine wpAny_call (codeAny_call_builtin F.init.plain F.initEntry (wpAny_check_init_sub F hC he rfl ?_))
  unfold Builtin.«BaseException.__init__»
  wp_walk
  have he' := Heap.get?_push_of_some { cls := .type "tuple", data := .seq [x].toArray } he
  refine hq _ h.objs.size ?_ ?_
  · rw [Heap.get?_update_self _ he' rfl]
    rfl
  · intro b o hb hbo
    rw [Heap.get?_update_other _ _ (Ne.symm hb)]
    exact Heap.get?_push_of_some _ hbo

section
open Builtin Builtin.ObjectAttr
variable {h : Heap} {g : Array GenState} {d : Drawn} {t : Nat} {os : OsState} {x : Addr} {mN : Str → Option Value} {name : Str} {v : Value} {nm q : Str} {bs : List Value} {sn : List Str} {sub : List Value} {ab : Bool} {col : Option Bool} {dd : Option Addr} {k0 k1 k2 k3 k5 : Option Value}
/-- the first field of an exception: its dict is new -/
theorem first_entry {tk : Tok} {Q : Fin → Shared → Prop} {o : Obj}
    (hC : h.get? C = some (excClassObj nm q C N bs bmE true sn sub ab col dd k0 k1 k2 k3 k5 "Exception.__new__")) (hn : h.Ns N mN) (hna : mN name = none)
    (hB : typeLookup (.type "Exception") name = pure none) (hx : h.get? x = some o) (hc : o.cls = .ref C) (hnc : ∀ c, o.data ≠ .cls c) (hdn : o.dict = none)
    (hq : ∀ h' tk' dx, h.get? dx = none → dx ≠ x → h'.get? x = some { cls := o.cls, dict := some dx, data := o.data, slots := o.slots } → h'.Ns1 dx (fun y => if y = name then some v else none) →
      (∀ b o, b ≠ x → h.get? b = some o → h'.get? b = some o) → Q (.done (.ret .none)) ⟨h', g, d, tk', os⟩) :
    wpAny (model prog w) A (Builtin.«object.__setattr__» ⟨[.ref x, .str name tk, v], []⟩) Q E ⟨h, g, d, t, os⟩ := by
  have SF := PySem.F.store_Exception
  have hpass := SF.passes (.ref x)
  unfold Builtin.«object.__setattr__»
  repeat (first | rw [refuse_eq] | (rw [refuseLoop_ref, hpass]) | (with_reducible refine wpAny_loadPart_at hx ?_; rw [hc]) | with_reducible refine wpAny_mroOf_exc hC ?_ | (with_reducible refine wpAny_typeLookup_exc hC hn SF.mro hB ?_; rw [hna]) | wp_step)
  rw [hdn, if_neg (by simp [typeHasDict])]
  split
  · rename_i hcd
    cases hcd
  split
  · rename_i c hcd
    exact absurd hcd (hnc c)
  · have hx₁ : (h.push { cls := .type "dict", data := .dict #[] }).get? x = some o := Heap.get?_push_of_some _ hx
    have hxs : x ≠ h.objs.size := Nat.ne_of_lt (Heap.lt_size hx)
    refine wpAny_bind (wpAny_alloc' ?_)
    refine wpAny_bind (wpAny_update' hx₁ ?_)
    refine wpAny_pure ?_
    have hgd : ((h.push { cls := .type "dict", data := .dict #[] }).update x fun o => { cls := o.cls, dict := some h.objs.size, data := o.data, slots := o.slots }).get? h.objs.size
        = some { cls := .type "dict", data := .dict #[] } :=
      (Heap.get?_update_ne _ _ _ _ hxs.symm).trans (Heap.get?_push_at rfl rfl)
    have hnd : ((h.push { cls := .type "dict", data := .dict #[] }).update x fun o => { cls := o.cls, dict := some h.objs.size, data := o.data, slots := o.slots }).Ns h.objs.size (fun _ => none) :=
      ⟨_, #[], _, hgd, rfl, fun e he => absurd he (by simp), fun _ => rfl⟩
    show wpAny _ _ (storeInDict h.objs.size (.str name _) name v) _ _ _
    unfold storeInDict newKeyGuard
    refine wpAny_bind (wpAny_pure (wpAny_bind (wpAny_nsSet1 (Heap.Ns1.of_empty hnd) fun h' hn' hs => ?_)))
    obtain ⟨oD, esD, epD, hoD, hdD, hcD⟩ := hn'.count (Within.cons name v Within.nil)
    refine wpAny_bind (wpAny_lookBehind hoD (by rw [hdD]; exact pastItsLine_dict (Nat.le_trans hcD (by rw [List.length_cons, List.length_nil, sizeLine_eq]; omega))) ?_)
    wp_walk
    refine hq h' _ h.objs.size (size_none _) hxs.symm ?_ ?_ ?_
    · refine (hs.2 x hxs).trans (Heap.get?_update_self _ hx₁ ?_)
      have hfr := (Heap.get?_some_iff.mp hx).2
      obtain ⟨oc, od, odt, osl⟩ := o
      cases odt <;> first | rfl | exact hfr
    · obtain ⟨o', es, ep, e1, e2, e3, eu, e4⟩ := hn'
      exact ⟨o', es, ep, e1, e2, e3, eu, fun y => by rw [e4 y]⟩
    · intro b ob hbx hb
      exact (hs.2 b (Nat.ne_of_lt (Heap.lt_size hb))).trans ((Heap.get?_update_ne _ _ _ _ hbx).trans (Heap.get?_push_of_some _ hb))

end
end
end NN
end

section
open PySem PySem.W PyProof.Rows PySem.Calls PySem.Spec
open Sem (wp)
set_option Elab.async false
set_option autoImplicit false
set_option maxRecDepth 100000

namespace NN
section
variable {prog : Program} {w : World} {A : Around} {E : Value → Shared → Prop}
variable {nm q : Str} {C N fI : Addr} {bs : List Value} {hdct : Bool} {sn : List Str} {sub : List Value} {ab : Bool} {col : Option Bool} {dd : Option Addr} {k0 k1 k2 k3 k5 : Option Value}
section
open Builtin Builtin.ObjectAttr
variable {h : Heap} {g : Array GenState} {d : Drawn} {t : Nat} {os : OsState} {x : Addr} {mN : Str → Option Value} {name : Str} {v : Value}
theorem first_field {Q : Unit → Shared → Prop} {o : Obj}
    (hC : h.get? C = some (excClassObj nm q C N bs bmE true sn sub ab col dd k0 k1 k2 k3 k5 "Exception.__new__")) (hn : h.Ns N mN) (hns : mN "__setattr__" = none) (hna : mN name = none)
    (hB : typeLookup (.type "Exception") name = pure none) (hx : h.get? x = some o) (hc : o.cls = .ref C) (hnc : ∀ c, o.data ≠ .cls c) (hdn : o.dict = none)
    (hq : ∀ h' tk' dx, h.get? dx = none → dx ≠ x → h'.get? x = some { cls := o.cls, dict := some dx, data := o.data, slots := o.slots } → h'.Ns1 dx (fun y => if y = name then some v else none) →
      (∀ b o, b ≠ x → h.get? b = some o → h'.get? b = some o) → Q () ⟨h', g, d, tk', os⟩) :
    wpAny (model prog w) A (setAttr (.ref x) name v) Q E ⟨h, g, d, t, os⟩ := by
  have SF := PySem.F.store_Exception
  have f3 := SF.slot.bind (.ref x)
  unfold setAttr
  refine wpAny_bind (wpAny_mkText ?_)
  unfold callSpecial? specialOf
  refine wpAny_bind (wpAny_bind (wpAny_bind ?_))
  unfold typeOf
  refine wpAny_bind (wpAny_loadPart_at hx ?_)
  rw [hc]
  refine wpAny_pure ?_
  refine wpAny_typeLookup_exc hC hn SF.mro SF.slot.lookup ?_
  rw [hns]
  refine wpAny_holding (wpAny_bind (wpAny_of_eq f3 ?_))
  refine wpAny_bind ?_
  show wpAny _ _ (call (.builtin "object.__setattr__") [.ref x, .str name t, v]) _ _ _
  refine wpAny_call ?_
  refine codeAny_call_builtin SF.slot.plain SF.entry ?_
  refine wpAny_check_sa (nameV := .str name t) (v := v) (sa := "object.__setattr__") (owner := "object") SF (C := C) hC hx hc ?_
  refine wpAny_mono (first_entry (Q := fun fin s' => fin = .done (.ret .none) ∧ Q () s') hC hn hna hB hx hc hnc hdn fun h' tk' dx a1 a2 a3 a4 a5 => ⟨rfl, hq h' tk' dx a1 a2 a3 a4 a5⟩) ?_ (fun _ _ e => e)
  rintro fin s' ⟨rfl, hq'⟩
  exact wpAny_pure (wpAny_pure hq')
end

/-- what the class of the refusal says -/
structure Cls (h : Heap) (mg mb : Str → Option Value) (C N fI : Addr) (mN : Str → Option Value) (nm q : Str) (bs : List Value) (sn : List Str) (sub : List Value) (ab : Bool) (col : Option Bool) (dd : Option Addr) (k0 k1 k2 k3 k5 : Option Value) (pm cd : Value) (ofn : Obj) : Prop where
  g : h.Ns mainGlobals mg
  b : h.Ns builtinsNs mb
  lim : h.NoLimit
  exn : mg "Exception" = none
  exb : mb "Exception" = some (.type "Exception")
  nameC : mg "CasFail" = some (.ref C)
  cls : h.get? C = some (excClassObj nm q C N bs bmE true sn sub ab col dd k0 k1 k2 k3 k5 "Exception.__new__")
  ns : h.Ns N mN
  init : mN "__init__" = some (.ref fI)
  sa : mN "__setattr__" = none
  ga : mN "__getattribute__" = none
  gt : mN "__getattr__" = none
  kind : mN "kind" = none
  text : mN "text" = none
  fn : h.get? fI = some ofn
  fnc : ofn.cls = .type "function"
  fnd : ofn.data = .func (fnX "__init__" "CasFail.__init__" initRec.params initRec.body initRec.scope [] .none .none .none pm none cd .none)
  code : h.CodeRec cd "CasFail.__init__"

section
variable {h h' : Heap} {mg mb mN : Str → Option Value} {nm q : Str} {bs : List Value} {sn : List Str} {sub : List Value} {ab : Bool} {col : Option Bool} {dd : Option Addr} {k0 k1 k2 k3 k5 : Option Value} {pm cd : Value} {ofn : Obj}
theorem Cls.keeps (c : Cls h mg mb C N fI mN nm q bs sn sub ab col dd k0 k1 k2 k3 k5 pm cd ofn) (k : ∀ b o, h.get? b = some o → h'.get? b = some o) : Cls h' mg mb C N fI mN nm q bs sn sub ab col dd k0 k1 k2 k3 k5 pm cd ofn where
  g := c.g.keeps k
  b := c.b.keeps k
  lim := c.lim.keeps k
  exn := c.exn
  exb := c.exb
  nameC := c.nameC
  cls := k _ _ c.cls
  ns := c.ns.keeps k
  init := c.init
  sa := c.sa
  ga := c.ga
  gt := c.gt
  kind := c.kind
  text := c.text
  fn := k _ _ c.fn
  fnc := c.fnc
  fnd := c.fnd
  code := c.code.keeps k

theorem lk_kind : typeLookup (.type "Exception") "kind" = pure none := by rw [typeLookup_type, builtinLookup_eq_fast]; kernel_rfl
theorem lk_text : typeLookup (.type "Exception") "text" = pure none := by rw [typeLookup_type, builtinLookup_eq_fast]; kernel_rfl

theorem fail_body {A : Around} {E : Value → Shared → Prop} {L f e T : Addr} {s : Shared} {m : Str → Option Value} {kd tx : Str} {t1 t2 : Tok} {Q : Flow → Shared → Prop}
    {hc : Heap} (c : Cls hc mg mb C N fI mN nm q bs sn sub ab col dd k0 k1 k2 k3 k5 pm cd ofn) (kc : ∀ b o, hc.get? b = some o → s.heap.get? b = some o)
    (hn : s.heap.Ns L m) (hs : m "self" = some (.ref e)) (hk : m "kind" = some (.str kd t1)) (ht : m "text" = some (.str tx t2)) (he : s.heap.get? e = some (excObj C T))
    (hz : kd.length + 2 + tx.length ≤ sizeLine) (fe : hc.get? e = none) (fL : hc.get? L = none)
    (hQ : ∀ h' tk mA T' dx, h'.Inst e C mA → mA "kind" = some (.str kd t1) → h'.get? e = some { cls := .ref C, dict := some dx, data := .fields #[.ref T', .none, .none, .none, .bool false, .none] } → s.heap.get? dx = none → (∀ b o, b ≠ e → s.heap.get? b = some o → h'.get? b = some o) → Q .next { s with heap := h', toks := tk }) :
    wpAny (model pw w) A (execs initRec.body (envI L f cd pm)) Q E s := by
  show wpAny _ _ (execs (_ :: _ :: _ :: []) _) _ _ _
  have hkf : (envI L f cd pm).scope.kind = .function := by kernel_rfl
  have kx : ∀ x ∈ ["self", "kind", "text"], (envI L f cd pm).kindOf (Str.ofString x) = some .local := by
    intro x hx
    have : ∀ x ∈ ["self", "kind", "text"], initRec.scope.names.lookup (Str.ofString x) = some .local := by decide +kernel
    exact this x hx
  have name : ∀ {x : String} {v : Value} {pos : Pos} {s : Shared} {Q : Value → Shared → Prop} {E : Value → Shared → Prop}, x ∈ ["self", "kind", "text"] → s.heap.Ns L m → m (Str.ofString x) = some v → Q v s → wpAny (model pw w) A (eval (.Name (Str.ofString x) pos) (envI L f cd pm)) Q E s := by
    intro x v pos s Q E hx hn hv h
    have hd : ∀ x ∈ ["self", "kind", "text"], (Str.ofString x == ("__debug__" : Str)) = false := by decide +kernel
    exact wpAny_Name (wpAny_loadName_local hkf (kx x hx) hn hv h) (hd x hx)
  refine wpAny_execs_cons ?_
  have hi : interactive (envI L f cd pm) = false := by rfl
  rw [exec_Expr _ _ _ hi (by kernel_rfl)]
  refine wpAny_bind (wpAny_standAt (wpAny_bind ?_))
  rw [arm_eval_Call]
  refine wpAny_bind ?_
  show wpAny _ _ (eval (.Name (Str.ofString "Exception") _) _) _ _ _
  refine Calls.Name_function_global hkf (by kernel_rfl) (Calls.loadGlobal_builtin (env := envI L f cd pm) (c.g.keeps kc) c.exn (c.b.keeps kc) c.exb ?_) (by decide +kernel)
  refine wpAny_bind (wpAny_standAt ?_)
  unfold methodCall
  refine wpAny_bind (wpAny_holding ?_)
  unfold calleeOf
  rw [if_pos (by kernel_rfl)]
  refine getm_init ?_
  refine wpAny_bind (wpAny_of_eq (a := _) (by kernel_rfl : methodCallPos _ _ _ _ _ = pure ⟨5, 8, 5, 52⟩) ?_)
  refine Calls.callWith_builtin (pos := ⟨5, 8, 5, 52⟩) rfl (Calls.evalArgs_plain (x := eval (.Name "self" ⟨5, 27, 5, 31⟩) (envI L f cd pm))
    (rest := [(false, eval (.BinOp (.BinOp (.Name "kind" ⟨5, 33, 5, 37⟩) .Add (.Constant (.str ": ") 0 ⟨5, 40, 5, 44⟩) ⟨5, 33, 5, 44⟩) .Add (.Name "text" ⟨5, 47, 5, 51⟩) ⟨5, 33, 5, 51⟩) (envI L f cd pm))]) (Calls.spliced_cons ?_))
  obtain ⟨hp, g, d, tk, os⟩ := s
  dsimp only at hn he hQ kc ⊢
  refine name (x := "self") (by simp) hn hs ?_
  refine Calls.spliced_cons ?_
  refine wpAny_BinOp (wpAny_BinOp (name (x := "kind") (by simp) hn hk ?_))
  refine wpAny_Constant_str ?_
  refine add_str (fun t3 tk3 => ?_) (by rw [PySem.ofString_length]; rw [sizeLine_eq] at hz ⊢; show _ + 2 ≤ _; omega)
  refine name (x := "text") (by simp) hn ht ?_
  refine add_str (fun t4 tk4 => ?_) (by rw [strLen_append, PySem.ofString_length]; rw [sizeLine_eq] at hz ⊢; show _ + 2 + _ ≤ _; omega)
  refine Calls.spliced_nil ?_
  dsimp only [List.nil_append]
  have hC := kc _ _ c.cls
  refine call_exc_init hC he fun h₁ T₁ he₁ k₁ => ?_
  refine wpAny_dropValue ?_
  -- the fields
  have nC : C ≠ e := fun q => by subst q; rw [hC] at he; cases he
  have nL : L ≠ e := fun q => by subst q; obtain ⟨o, es, ep, e1, e2, _⟩ := hn; rw [e1] at he; cases he; cases e2
  have kc₁ : ∀ b o, hc.get? b = some o → h₁.get? b = some o := fun b o q => k₁ b o (fun q2 => by subst q2; rw [fe] at q; cases q) (kc b o q)
  have hn₁ : h₁.Ns L m := let ⟨o, es, ep, e1, r⟩ := hn; ⟨o, es, ep, k₁ _ _ nL e1, r⟩
  have c₁ := c.keeps kc₁
  refine wpAny_execs_cons (plainObj_wpAny_Assign_Attribute (name (x := "kind") (by simp) hn₁ hk (name (x := "self") (by simp) hn₁ hs ?_)) (by kernel_rfl))
  refine first_field c₁.cls c₁.ns c₁.sa c₁.kind lk_kind he₁ rfl (fun _ q => by cases q) rfl fun h₂ tk₂ dx fdx ndx he₂ nsd k₂ => ?_
  have fdp : hp.get? dx = none := by
    cases q : hp.get? dx with
    | none => rfl
    | some o => have := k₁ dx o ndx q; rw [fdx] at this; cases this
  have kc₂ : ∀ b o, hc.get? b = some o → h₂.get? b = some o := fun b o q => k₂ b o (fun q2 => by subst q2; rw [fe] at q; cases q) (kc₁ b o q)
  have hn₂ : h₂.Ns L m := let ⟨o, es, ep, e1, r⟩ := hn₁; ⟨o, es, ep, k₂ _ _ nL e1, r⟩
  have c₂ := c.keeps kc₂
  have I₂ : h₂.Inst e C (fun y => if y = "kind" then some (.str kd t1) else none) := ⟨_, he₂, rfl, fun _ q => (by cases q), .inr ⟨dx, rfl, ndx, nsd⟩⟩
  refine wpAny_execs_cons (plainObj_wpAny_Assign_Attribute (name (x := "text") (by simp) hn₂ ht (name (x := "self") (by simp) hn₂ hs ?_)) (by kernel_rfl))
  refine store_attr PySem.F.store_Exception c₂.cls c₂.ns c₂.sa c₂.text lk_text (Ne.symm nC) I₂ fun h₃ tk₃ I₃ k₃ same₃ => ?_
  obtain ⟨o₃, he₃, hc₃, hd₃, hsl₃, hdx₃⟩ := same₃ _ he₂
  refine wpAny_execs_nil (hQ h₃ tk₃ _ T₁ dx I₃ (by rw [if_neg (by decide +kernel), if_pos rfl]) ?_ fdp ?_)
  · rw [he₃]
    obtain ⟨oc, od, odt, osl⟩ := o₃
    have hdx₄ := hdx₃ dx rfl
    dsimp only at hc₃ hd₃ hsl₃ hdx₄ ⊢
    subst hc₃ hd₃ hsl₃ hdx₄
    rfl
  · intro b o nb q
    refine k₃ b o nb (fun o₀ d' q1 q2 q3 => ?_) (k₂ b o nb (k₁ b o nb q))
    rw [he₂] at q1; cases q1
    cases q2
    subst q3
    rw [fdp] at q; cases q
end
end
end NN
end

section
open PySem PySem.W PyProof.Rows PySem.Calls PySem.Spec
open Sem (wp)
set_option Elab.async false
set_option autoImplicit false
set_option maxRecDepth 100000

namespace NN
section
variable {w : World} {A : Around} {E : Value → Shared → Prop}
variable {C N fI : Addr} {mg mb mN : Str → Option Value} {nm q : Str} {bs : List Value} {sn : List Str} {sub : List Value} {ab : Bool} {col : Option Bool} {dd : Option Addr} {k0 k1 k2 k3 k5 : Option Value} {pm cd : Value} {ofn : Obj}

noncomputable abbrev excObjD (C T : Addr) (od : Option Addr) : Obj := { cls := .ref C, dict := od, data := .fields #[.ref T, .none, .none, .none, .bool false, .none] }

theorem fail_run {hc : Heap} (c : Cls hc mg mb C N fI mN nm q bs sn sub ab col dd k0 k1 k2 k3 k5 pm cd ofn) {e T : Addr} {s : Shared} {kd tx : Str} {t1 t2 : Tok} {Q : Value → Shared → Prop}
    (kc : ∀ b o, hc.get? b = some o → s.heap.get? b = some o) (he : s.heap.get? e = some (excObj C T)) (fe : hc.get? e = none) (hz : kd.length + 2 + tx.length ≤ sizeLine) (hroom : A.depth < recursionLimit)
    (hQ : ∀ h' tk mA T' dx, h'.Inst e C mA → mA "kind" = some (.str kd t1) → h'.get? e = some (excObjD C T' (some dx)) → s.heap.get? dx = none → (∀ b o, b ≠ e → s.heap.get? b = some o → h'.get? b = some o) → Q .none { s with heap := h', toks := tk }) :
    wpAny (model pw w) A (call (.ref fI) [.ref e, .str kd t1, .str tx t2]) Q E s := by
  refine wpAny_call (codeAny_call_def (binds := [("self", .ref e), ("kind", .str kd t1), ("text", .str tx t2)]) (body := initRec.body) hroom (kc _ _ c.fn) c.fnd (c.lim.keeps kc) (c.code.keeps kc) rfl (BindsTo.of_eq (by kernel_rfl))
    (show ∀ x ∈ initRec.scope.names, x.2 ≠ .cell by decide +kernel) (by
      intro x hx
      simp only [List.mem_cons, List.not_mem_nil, or_false] at hx
      rcases hx with rfl | rfl | rfl <;> kernel_rfl) (fun h₀ hn hk => ?_) (by kernel_rfl) (by kernel_rfl) (by kernel_rfl))
  have fL : s.heap.get? s.heap.objs.size = none := size_none _
  have fL' : hc.get? s.heap.objs.size = none := by
    cases q : hc.get? s.heap.objs.size with
    | none => rfl
    | some o => have := kc _ _ q; rw [fL] at this; cases this
  refine fail_body (kd := kd) (tx := tx) (t1 := t1) (t2 := t2) (s := { s with heap := h₀, toks := _ }) c (fun b o q => hk b o (kc b o q)) hn (by kernel_rfl) (by kernel_rfl) (by kernel_rfl) (hk _ _ he) hz fe fL' fun h' tk mA T' dx I hm he' hdx hkk => ?_
  have hdx' : s.heap.get? dx = none := by
    cases q : s.heap.get? dx with
    | none => rfl
    | some o => have := hk _ _ q; rw [show h₀.get? dx = none from hdx] at this; cases this
  exact hQ h' tk mA T' dx I hm he' hdx' fun b o nb q => hkk b o nb (hk b o q)

theorem raise_made {s : Shared} {env : Env} {x : Sem Value} {Q : Flow → Shared → Prop} (hh : A.handled = none)
    (h : wpAny (model pw w) A x (fun v s₁ => ∃ e T od, v = .ref e ∧ s₁.heap.get? C = some (excClassObj nm q C N bs bmE true sn sub ab col dd k0 k1 k2 k3 k5 "Exception.__new__") ∧
      s₁.heap.get? e = some (excObjD C T od) ∧ E (.ref e) s₁) E s) :
    wpAny (model pw w) A (raiseStmt env (some x) none) Q E s := by
  have hcB : (Value.ref C :: bmE).contains (.type "BaseException") = true := by rw [List.contains_cons, show bmE.contains (.type "BaseException") = true by decide +kernel, Bool.or_true]
  unfold raiseStmt
  refine wpAny_bind (wpAny_mono h (fun v s₁ h₁ => ?_) fun _ _ x => x)
  obtain ⟨e, T, od, rfl, hC, he, hE⟩ := h₁
  obtain ⟨hp, g, d, tk, os⟩ := s₁
  repeat (first | with_reducible refine wpAny_loadPart_at he ?_ | with_reducible refine wpAny_loadPart_at hC ?_ | (with_reducible refine wpAny_isSubtype_exc hC ?_; rw [hcB]) | wp_step)
  exact wpAny_raiseNew_none hh hE
end
end NN
end

section
open PySem PySem.W PyProof.Rows PySem.Calls PySem.Spec
open Sem (wp)
set_option Elab.async false
set_option autoImplicit false
set_option maxRecDepth 100000

namespace NN
/-- the class of the refusal, as the top bears it -/
noncomputable def FailTop (hb : Heap) (mg mb : Str → Option Value) : Prop := ∃ (C N fI : Addr) (mN : Str → Option Value) (nm q : Str) (bs : List Value) (sn : List Str) (sub : List Value) (ab : Bool) (col : Option Bool) (dd : Option Addr) (k0 k1 k2 k3 k5 : Option Value) (pm cd : Value) (ofn : Obj),
  Cls hb mg mb C N fI mN nm q bs sn sub ab col dd k0 k1 k2 k3 k5 pm cd ofn

section
variable {w : World} {A : Around} {E : Value → Shared → Prop}
variable {C N fI : Addr} {mg mb mN : Str → Option Value} {nm q : Str} {bs : List Value} {sn : List Str} {sub : List Value} {ab : Bool} {col : Option Bool} {dd : Option Addr} {k0 k1 k2 k3 k5 : Option Value} {pm cd : Value} {ofn : Obj}

/-- a new exception of the class, of the kind -/
structure Exn (h h' : Heap) (e C : Addr) (kd : Str) : Prop where
  new : h.get? e = none
  keep : ∀ b o, h.get? b = some o → h'.get? b = some o
  inst : ∃ mA t, h'.Inst e C mA ∧ mA "kind" = some (.str kd t)
  obj : ∃ T dx, h'.get? e = some (excObjD C T (some dx)) ∧ h.get? dx = none

theorem sv_raise {c : Cx} {k : Nat} (g : G mg mb k c) (hh : c.A.handled = none) (cl : Cls c.hb mg mb C N fI mN nm q bs sn sub ab col dd k0 k1 k2 k3 k5 pm cd ofn) {np cp pos p1 p2 : Pos} {kd tx : Str} {n1 n2 : Nat} (hx : c.env.kindOf "CasFail" = some .globalImplicit) (hz : kd.length + 2 + tx.length ≤ sizeLine)
    {s : Shared} {X : List Addr} {ps : PS} {Q : Flow → Shared → Prop} (i : Inv c.hb c.B c.X₀ c.env s.heap ps X)
    (hE : ∀ e h' tk, Exn s.heap h' e C kd → E (.ref e) { s with heap := h', toks := tk })
    (hs : starEach [.Constant (.str kd) n1 p1, .Constant (.str tx) n2 p2] c.env = [(false, eval (.Constant (.str kd) n1 p1) c.env), (false, eval (.Constant (.str tx) n2 p2) c.env)] := by rfl) :
    wpAny (model pw c.w) c.A (exec (.Raise (some (.Call (.Name "CasFail" np) [.Constant (.str kd) n1 p1, .Constant (.str tx) n2 p2] [] cp)) none pos) c.env) Q E s := by
  rw [arm_exec_Raise]
  refine wpAny_bind (wpAny_standAt ?_)
  refine raise_made (C := C) (N := N) (nm := nm) (q := q) (bs := bs) (sn := sn) (sub := sub) (ab := ab) (col := col) (dd := dd) (k0 := k0) (k1 := k1) (k2 := k2) (k3 := k3) (k5 := k5) hh ?_
  refine wpAny_bind ?_
  refine wpAny_Call_NameR (g.nv cl.nameC hx (by decide +kernel) np s X ps _ _ i ?_)
  rw [hs]
  unfold callWith
  refine wpAny_bind (wpAny_holding (Calls.evalArgs_plain (Calls.spliced_cons ?_)))
  refine wpAny_Constant_str (k := n1) (pos := p1) (Calls.spliced_cons ?_)
  refine wpAny_Constant_str (k := n2) (pos := p2) (Calls.spliced_nil ?_)
  refine wpAny_bind (wpAny_standAt ?_)
  obtain ⟨hp, gg, d, tk, os⟩ := s
  have kc : ∀ b o, c.hb.get? b = some o → hp.get? b = some o := fun b o e => i.hbKp.all b o e
  have hC := kc _ _ cl.cls
  refine wpAny_bind (wpAny_keeperOf_exc hC ?_)
  dsimp only [List.any_cons, List.any_nil, Bool.or_false, List.nil_append]
  refine wpAny_bind (fail_call (h := hp) hC (cl.ns.keeps kc) cl.init (kc _ _ cl.fn) cl.fnc fun e T h₁ he hk hne => ?_)
  have fe : c.hb.get? e = none := by
    cases q : c.hb.get? e with
    | none => rfl
    | some o => have := kc _ _ q; rw [hne] at this; cases this
  refine fail_run (s := ⟨h₁, gg, d, _, os⟩) cl (fun b o q => hk b o (kc b o q)) he fe hz (by have := g.ok.depth; rw [PyProof.Rows.depth_under_make]; omega) fun h' tk' mA T' dx I hm he' hdx hkk => ⟨rfl, ?_⟩
  refine wpAny_bind (wpAny_holding (wpAny_point (wpAny_pure (wpAny_bind (wpAny_standAt (wpAny_pure ?_))))))
  have all : ∀ b o, hp.get? b = some o → h'.get? b = some o := fun b o q => hkk b o (fun q2 => by subst q2; rw [hne] at q; cases q) (hk b o q)
  have hdx' : hp.get? dx = none := by
    cases q : hp.get? dx with
    | none => rfl
    | some o => have := hk _ _ q; rw [show h₁.get? dx = none from hdx] at this; cases this
  exact ⟨e, T', some dx, rfl, all _ _ hC, he', hE e h' tk' ⟨hne, all, ⟨mA, _, I, hm⟩, ⟨T', dx, he', hdx'⟩⟩⟩
end
end NN
end

section
open PySem PySem.W PyProof.Rows PySem.Calls PySem.Spec
open Sem (wp)
set_option Elab.async false
set_option autoImplicit false
set_option maxRecDepth 100000

namespace NN
noncomputable abbrev excD (C T dx : Addr) (tb : Value) : Obj := { cls := .ref C, dict := some dx, data := .fields #[.ref T, tb, .none, .none, .bool false, .none] }

/-- an exception on its way, outside of the frames l -/
structure Fly (base : Heap) (l : List Env) (e C : Addr) (kd : Str) (h : Heap) : Prop where
  stays : base.StaysIn h
  new : base.get? e = none
  frames : h.FunFrames base l
  exn : ∃ T tb dx mA t, h.get? e = some (excD C T dx tb) ∧ dx ≠ e ∧ h.Ns1 dx mA ∧ mA "kind" = some (.str kd t) ∧ (∀ env ∈ l, env.frame ≠ some dx) ∧
    (tb = .none ∨ ∃ B oB ts, tb = .ref B ∧ base.get? B = none ∧ B ≠ e ∧ h.get? B = some oB ∧ oB.data = .fields ts ∧ ts[3]? = some .none)

/-- records apart, all stays but for slots -/
noncomputable def UpTo (h h' : Heap) : Prop := ∀ b o, h.get? b = some o → (∀ vs, o.data ≠ .fields vs) → ∃ sl, h'.get? b = some { o with slots := sl }
theorem UpTo.refl {h : Heap} : UpTo h h := fun b o e _ => ⟨o.slots, e⟩
theorem UpTo.trans {h h' h'' : Heap} (x : UpTo h h') (y : UpTo h' h'') : UpTo h h'' := fun b o e n => let ⟨_, e1⟩ := x b o e n; let ⟨sl, e2⟩ := y b _ e1 n; ⟨sl, e2⟩

theorem Exn.fly {h h' base : Heap} {e C : Addr} {kd : Str} {l : List Env} (x : Exn h h' e C kd) (st : base.StaysIn h) (fr : h.FunFrames base l) : Fly base l e C kd h' where
  stays := fun b o q => x.keep b o (st b o q)
  new := by
    cases q : base.get? e with
    | none => rfl
    | some o => have := st _ _ q; rw [x.new] at this; cases this
  frames := fr.of_keeps fun b o q _ => ⟨o, x.keep b o q, rfl⟩
  exn := by
    obtain ⟨T, dx, he, hdx⟩ := x.obj
    obtain ⟨mA, t, ⟨o, ho, hc, _, hd⟩, hm⟩ := x.inst
    rw [he] at ho
    cases ho
    rcases hd with ⟨_, hn⟩ | ⟨d, h1, h2, h3⟩
    · rw [hn] at hm; cases hm
    · dsimp only at h1
      cases h1
      refine ⟨T, .none, dx, mA, t, he, h2, h3, hm, fun env me q => ?_, .inl rfl⟩
      obtain ⟨_, o, ho, _⟩ := fr.mem (List.mem_filterMap.mpr ⟨env, me, q⟩)
      rw [hdx] at ho; cases ho

section
variable {M : Model} {A : Around} {E : Value → Shared → Prop} {s : Shared}

theorem new_entry {base : Heap} {env : Env} {outer : List Env} {L e C T dx : Addr} {tb : Value} {kd : Str} {t : Tok} {mA : Str → Option Value} {head : Value} {hadNext : Bool} {Q : Unit → Shared → Prop}
    (hfr : A.frames = some (env :: outer)) (hl : s.heap.FunFrames base (env :: outer)) (hf : env.frame = some L)
    (he : s.heap.get? e = some (excD C T dx tb)) (hdx : dx ≠ e) (hns : s.heap.Ns1 dx mA) (hm : mA "kind" = some (.str kd t)) (hfx : ∀ env' ∈ env :: outer, env'.frame ≠ some dx) (hkb : base.StaysIn s.heap) (hen : base.get? e = none)
    (h : ∀ h', Fly base (env :: outer) e C kd h' → UpTo s.heap h' → Q () { s with heap := h' }) :
    wpAny M A (do let a ← frameOf env; let pl ← entryPlaceOf L hadNext; let b ← EntryCells.newEntry head a .none (rawInt L) .none pl; setField (.ref e) 1 b) (fun _ s' => wpAny M A (setFlight (.ref e) none) Q E s') E s := by
  have hene : e ∉ (env :: outer).filterMap (·.frame) := fun hm => by
    obtain ⟨_, o, ho, hnf⟩ := hl.mem hm
    rw [he] at ho; injection ho with ho; subst ho; exact hnf _ rfl
  refine wpAny_bind (wpAny_frameOf_fun hfr hl hf fun h₁ hs₁ => ?_)
  refine wpAny_bind (wpAny_entryPlaceOf fun pl hpl => ?_)
  unfold EntryCells.newEntry newFields
  refine wpAny_bind (wpAny_newObj_type ?_ (hpl.sizeOk5 _ _ _ _ _))
  have he₁ : h₁.get? e = some (excD C T dx tb) := (hs₁.2.1 e hene).trans he
  have kb₁ : base.StaysIn h₁ := fun b o hbo => (hs₁.2.1 b fun hm => by rw [(hl.mem hm).1] at hbo; cases hbo).trans (hkb b o hbo)
  generalize hTB : ({ cls := .type "traceback", dict := none, data := .fields ([head, .ref L, .none, rawInt L, .none] ++ (if pl.isEmpty then List.replicate 6 Value.none else pl)).toArray } : Obj) = TB
  have hTBd : TB.data = .fields ([head, .ref L, .none, rawInt L, .none] ++ (if pl.isEmpty then List.replicate 6 Value.none else pl)).toArray := by rw [← hTB]
  have hTBf : TB.isFreed = false := Obj.isFreed_of_fields hTBd
  have he₂ := Heap.get?_push_of_some (h := h₁) TB he₁
  refine wpAny_setField he₂ rfl (show 1 < 6 by decide) ?_
  have hTe : h₁.objs.size ≠ e := Nat.ne_of_gt (Heap.lt_size he₁)
  have he₃ := Heap.get?_update_self (Obj.mapFields (·.setIfInBounds 1 (Value.ref h₁.objs.size))) he₂ (Obj.isFreed_of_fields (Obj.data_mapFields rfl _))
  have hT₃ := (Heap.get?_update_other (h₁.push TB) (Obj.mapFields (·.setIfInBounds 1 (Value.ref h₁.objs.size))) (Ne.symm hTe)).trans (Heap.get?_push_size h₁ hTBf)
  have e3 : Obj.mapFields (·.setIfInBounds 1 (Value.ref h₁.objs.size)) (excD C T dx tb) = excD C T dx (.ref h₁.objs.size) := rfl
  rw [e3] at he₃
  unfold setFlight
  refine wpAny_bind (wpAny_field he₃ rfl (x := .ref h₁.objs.size) rfl ?_)
  rw [if_pos (show (Value.ref h₁.objs.size != Value.none) = true from by simp)]
  refine wpAny_setField hT₃ hTBd (by simp only [List.size_toArray, List.length_append, List.length_cons, List.length_nil] <;> omega) (h _ ?_ ?_)
  all_goals
    have keep : ∀ b o, b ≠ e → h₁.get? b = some o →
        (((h₁.push TB).update e (Obj.mapFields (·.setIfInBounds 1 (Value.ref h₁.objs.size)))).update h₁.objs.size
          (Obj.mapFields (·.setIfInBounds 3 ((none : Option Addr).elim Value.none fun f => rawInt f)))).get? b = some o := fun b o hbe hb => by
      have hbT : h₁.objs.size ≠ b := Nat.ne_of_gt (Heap.lt_size hb)
      rw [Heap.get?_update_other _ _ hbT, Heap.get?_update_other _ _ (Ne.symm hbe)]
      exact Heap.get?_push_of_some _ hb
    have noRecord : ∀ b o, s.heap.get? b = some o → (∀ vs, o.data ≠ .fields vs) → b ≠ e := fun b o hb hnf q => by
      rw [q, he] at hb; injection hb with hb; subst hb; exact hnf _ rfl
    have up : UpTo s.heap (((h₁.push TB).update e (Obj.mapFields (·.setIfInBounds 1 (Value.ref h₁.objs.size)))).update h₁.objs.size
          (Obj.mapFields (·.setIfInBounds 3 ((none : Option Addr).elim Value.none fun f => rawInt f)))) := fun b o hb hnf => by
      obtain ⟨sl, hs⟩ := hs₁.2.2 b o hb
      exact ⟨sl, keep b _ (noRecord b o hb hnf) hs⟩
  · refine ⟨fun b o hbo => keep b o (fun q => by rw [q, hen] at hbo; cases hbo) (kb₁ b o hbo), hen, hl.of_keeps fun b o hb hnf => ?_, ?_⟩
    · obtain ⟨sl, hs⟩ := up b o hb hnf
      exact ⟨_, hs, rfl⟩
    · refine ⟨T, .ref h₁.objs.size, dx, mA, t, ?_, hdx, ?_, hm, hfx, .inr ⟨h₁.objs.size, _, _, rfl, kb₁.fresh, hTe, Heap.get?_update_self _ hT₃ (Obj.isFreed_of_fields (Obj.data_mapFields hTBd _)), Obj.data_mapFields hTBd _, ?_⟩⟩
      · rw [Heap.get?_update_other _ _ hTe]; exact he₃
      · obtain ⟨o', es, ep, e1, e2, e3, eu, e4⟩ := hns
        obtain ⟨sl, hs⟩ := up dx o' e1 (fun vs q => by rw [e2] at q; cases q)
        exact ⟨_, es, ep, hs, e2, e3, eu, e4⟩
      · first | (simp; done) | (rcases hpl with rfl | ⟨_, _, _, _, _, _, _, rfl⟩ <;> simp)
  · exact up

theorem note_fly {base : Heap} {env : Env} {outer : List Env} {L e C : Addr} {kd : Str} {Q : Unit → Shared → Prop} (hfr : A.frames = some (env :: outer)) (hf : env.frame = some L) (x : Fly base (env :: outer) e C kd s.heap)
    (h : ∀ h', Fly base (env :: outer) e C kd h' → UpTo s.heap h' → Q () { s with heap := h' }) : wpAny M A (noteFrame (.ref e) env) (fun _ s' => wpAny M A (setFlight (.ref e) none) Q E s') E s := by
  obtain ⟨st, hen, hl, T, tb, dx, mA, t, he, hdx, hns, hm, hfx, hB⟩ := x
  unfold noteFrame
  simp only [hf]
  refine wpAny_bind (wpAny_field he rfl (x := tb) rfl ?_)
  rcases hB with rfl | ⟨B, oB, ts, rfl, hBn, hBe, hBo, hBd, hB3⟩
  · rw [if_neg (by decide)]
    exact new_entry hfr hl hf he hdx hns hm hfx st hen h
  · rw [if_pos (show (Value.ref B != Value.none) = true from by simp)]
    refine wpAny_bind (wpAny_field hBo hBd hB3 ?_)
    rw [if_neg (show ¬ ((Value.none == rawInt L) = true) from by simp [rawInt])]
    refine wpAny_bind (wpAny_setField hBo hBd (Array.getElem?_eq_some_iff.mp hB3).1 ?_)
    have other : ∀ b, b ≠ B → (s.heap.update B (Obj.mapFields (·.setIfInBounds 3 Value.none))).get? b = s.heap.get? b := fun b hb => Heap.get?_update_other _ _ (Ne.symm hb)
    have noRecord : ∀ b o, s.heap.get? b = some o → (∀ vs, o.data ≠ .fields vs) → b ≠ B := fun b o hb hnf q => by
      rw [q, hBo] at hb; injection hb with hb; subst hb; exact hnf ts hBd
    have up : UpTo s.heap (s.heap.update B (Obj.mapFields (·.setIfInBounds 3 Value.none))) := fun b o hb hnf => ⟨o.slots, (other b (noRecord b o hb hnf)).trans hb⟩
    refine new_entry (s := { s with heap := s.heap.update B (Obj.mapFields (·.setIfInBounds 3 Value.none)) }) (mA := mA) hfr (hl.of_keeps fun b o hb hnf => ⟨o, (other b (noRecord b o hb hnf)).trans hb, rfl⟩) hf ((other e (Ne.symm hBe)).trans he) hdx ?_ hm hfx
      (fun b o hbo => (other b fun q => by rw [q, hBn] at hbo; cases hbo).trans (st b o hbo)) hen fun h' F' U' => h h' F' (up.trans U')
    obtain ⟨o', es, ep, e1, e2, e3, eu, e4⟩ := hns
    exact ⟨o', es, ep, (other dx (noRecord dx o' e1 (fun vs q => by rw [e2] at q; cases q))).trans e1, e2, e3, eu, e4⟩

theorem leave_fly {base : Heap} {env : Env} {outer : List Env} {L e C : Addr} {kd : Str} {Q : Unit → Shared → Prop} (hfr : A.frames = some (env :: outer)) (hf : env.frame = some L) (x : Fly base (env :: outer) e C kd s.heap)
    (h : ∀ h', Fly base (env :: outer) e C kd h' → UpTo s.heap h' → Q () { s with heap := h' }) : wpAny M A (leaving env (.ref e)) Q E s := by
  unfold leaving
  exact wpAny_bind (note_fly hfr hf x h)
end
end NN
end

section
open PySem PySem.W PyProof.Rows PySem.Calls PySem.Spec
open Sem (wp)
set_option Elab.async false
set_option autoImplicit false
set_option maxRecDepth 100000

namespace NN
/-- statements that end in the refusal -/
noncomputable def XSV (c : Cx) (outer : List Env) (base : Heap) (C : Addr) (kd : Str) (sts : List Stmt) (cond : PS → Prop) : Prop :=
  ∀ (s : Shared) (X : List Addr) (ps : PS) (Q : Flow → Shared → Prop) (E : Value → Shared → Prop), Inv c.hb c.B c.X₀ c.env s.heap ps X → cond ps →
    (∀ e h' tk, Fly base (c.env :: outer) e C kd h' → (∀ b o, c.B b o → (∀ vs, o.data ≠ .fields vs) → ∃ sl, h'.get? b = some { o with slots := sl }) → E (.ref e) { s with heap := h', toks := tk }) →
    wpAny (model pw c.w) c.A (execs sts c.env) Q E s

noncomputable def FnX (mg : Str → Option Value) (hb : Heap) (k : Nat) (f : String) (C : Addr) (kd : Str) (cond : List PV → Prop) : Prop :=
  ∃ fa o fd, mg (Str.ofString f) = some (.ref fa) ∧ hb.get? fa = some o ∧ o.data = .func fd ∧
    ∀ (w : World) (A : Around) (s : Shared) (X : List Addr) (vals : List Value) (ds : List PV) (Q : Value → Shared → Prop) (E : Value → Shared → Prop) (base : Heap) (outer : List Env),
      Pre A hb k → A.handled = none → A.frames = some outer → base.StaysIn s.heap → s.heap.FunFrames base outer → Kp [] hb s.heap → (∀ a ∈ X, hb.get? a = none ∧ ∃ o, s.heap.get? a = some o) → RepL X s.heap vals ds → cond ds →
      (∀ e h' tk, Fly base outer e C kd h' → UpTo s.heap h' → E (.ref e) { s with heap := h', toks := tk }) → wpAny (model pw w) A (call (.ref fa) vals) Q E s

theorem funs_tail {h base : Heap} {env : Env} {outer : List Env} (x : h.FunFrames base (env :: outer)) : h.FunFrames base outer := x.2.2

theorem fnX_intro {mg mb : Str → Option Value} {hb : Heap} {k : Nat} {C : Addr} {kd : Str} {cond : List PV → Prop} {cond' : PS → Prop} (Bs : Base mg mb hb) {name : String} {d : DefRec} {xs : List String} (hd : d ∈ recsOf pw) (hn : d.name = Str.ofString name)
    (hbind : ∀ (vals : List Value) (pm cd doc : Value), vals.length = xs.length → bindArgs (docDef d.name d.params d.body d.scope pm cd doc) ⟨vals, []⟩ = pure ((xs.map Str.ofString).zip vals))
    (hnod : (xs.map Str.ofString).Nodup) (hdbg : ∀ x ∈ xs, (Str.ofString x == ("__debug__" : Str)) = false)
    (hkind : ∀ x ∈ xs, d.scope.names.lookup (Str.ofString x) = some .local ∨ (d.scope.names.lookup (Str.ofString x) = some .cell ∧ ∀ n, ((cellsFrom n d.scope.names []).lookup (Str.ofString x)).isSome = true))
    (hco : d.scope.isCoroutine = false) (hgen : d.scope.isGenerator = false) (hk : d.scope.kind = .function)
    (hcond : ∀ ds, cond ds → ds.length = xs.length ∧ cond' (args xs ds))
    (walk : ∀ (w : World) (A : Around) (B : Addr → Obj → Prop) (X₀ : List Addr) (L a : Addr) (cd : Value) (outer : List Env) (base : Heap), G mg mb k ⟨w, A, hb, B, X₀, envOfC d.name d.scope L a cd⟩ → A.handled = none → A.frames = some (envOfC d.name d.scope L a cd :: outer) →
      (∀ b o, base.get? b = some o → B b o) → (∀ h ps X, Inv hb B X₀ (envOfC d.name d.scope L a cd) h ps X → h.FunFrames base (envOfC d.name d.scope L a cd :: outer)) →
      XSV ⟨w, A, hb, B, X₀, envOfC d.name d.scope L a cd⟩ outer base C kd d.body cond') :
    FnX mg hb k name C kd cond := by
  obtain ⟨fa, o, pm, code, doc, h1, h2, h3, h4⟩ := Bs.fn d hd
  refine ⟨fa, o, _, hn ▸ h1, h2, h3, ?_⟩
  intro w A s X vals ds Q E base outer pre hh hfr hst hfun kb off rl hc hE
  obtain ⟨hlen, hc'⟩ := hcond ds hc
  have hvl : vals.length = xs.length := rl.length.trans hlen
  have kall : ∀ b o, hb.get? b = some o → s.heap.get? b = some o := fun b o e => kb.all b o e
  have hz : ((xs.map Str.ofString).zip vals).map (·.1) = xs.map Str.ofString := List.map_fst_zip (by rw [List.length_map, hvl]; exact Nat.le_refl _)
  have hnod' : (((xs.map Str.ofString).zip vals).map (·.1)).Nodup := by rw [hz]; exact hnod
  refine wpAny_call (call_cells (name := d.name) (binds := (xs.map Str.ofString).zip vals) (by have := pre.depth; omega) (kall _ _ h2) h3 (Bs.lim.keeps kall) (h4.keeps kall) (hbind vals pm code doc hvl) ?_ ?_ hco hgen hk)
  · intro x hx
    obtain ⟨y, hy, e⟩ := List.mem_map.mp (List.of_mem_zip hx).1
    rw [← e]
    rcases hkind y hy with q | q
    · exact .inl q
    · exact .inr ⟨q.1, q.2 _⟩
  · intro h₁ tk F X'
    have old : Kp [] s.heap h₁ := Kp.of fun b o e => F.keep b o e
    have nL : s.heap.get? s.heap.objs.size = none := size_none _
    have lX : ∀ a ∈ X, ∃ o, s.heap.get? a = some o := fun a m => (off a m).2
    have hfr' : (A.deeper (envOfC d.name d.scope s.heap.objs.size fa code)).frames = some (envOfC d.name d.scope s.heap.objs.size fa code :: outer) := Around.frames_deeper hfr
    have g : G mg mb k ⟨w, A.deeper (envOfC d.name d.scope s.heap.objs.size fa code), hb, fun a o => s.heap.get? a = some o, X, envOfC d.name d.scope s.heap.objs.size fa code⟩ := {
      base := Bs
      en := ⟨rfl, rfl, hk⟩
      ok := ⟨pre.hnd, by have := pre.depth; show A.depth + 1 + k + 150 < _; omega, by have := pre.units; show A.units + 3 + 10 * k + 100 < _; omega, ⟨_, outer, hfr', hgen, hco, rfl, rfl⟩, Bs.lim, Bs.seer⟩ }
    have i : Inv hb (fun a o => s.heap.get? a = some o) X (envOfC d.name d.scope s.heap.objs.size fa code) h₁ (args xs ds) X := {
      base := fun a o e => F.keep a o e
      top := kall
      offB := fun o e => by have e2 : s.heap.get? s.heap.objs.size = some o := e; rw [nL] at e2; cases e2
      offX := fun m => by obtain ⟨o, e⟩ := lX _ m; have e2 : s.heap.get? s.heap.objs.size = some o := e; rw [nL] at e2; cases e2
      offC := fun y c e => by
        have hab := X'.above y c (mem_of_lookup e)
        refine ⟨fun m => ?_, Nat.ne_of_gt hab, _, X'.cell y c e⟩
        obtain ⟨o, e'⟩ := lX _ m
        exact Nat.lt_asymm hab (Heap.lt_size e')
      ns := ⟨_, F.ns⟩
      x0 := fun _ m => m
      mark := fun a m => .inl (lX a m)
      xB := fun a m => .inl m
      offH := fun a m => (off a m).1
      frz := fun y dd e _ _ => by
        obtain ⟨v, hm, r⟩ := mem_zip_of rl e
        obtain ⟨y', hy', e'⟩ := List.mem_map.mp (List.of_mem_zip hm).1
        obtain rfl := ofStr_inj e'
        refine ⟨v, ⟨hk, hdbg _ hy', ?_⟩, r.kp old.nil⟩
        rcases hkind _ hy' with q | q
        · exact .inl ⟨q, _, F.ns, bindL_get q hnod' hm⟩
        · obtain ⟨ca, hca⟩ := Option.isSome_iff_exists.mp (q.2 (s.heap.objs.size + 1))
          refine .inr ⟨.inl q.1, ca, hca, ?_⟩
          have nk : (envOfC d.name d.scope s.heap.objs.size fa code).kindOf (Str.ofString y') ≠ some .local := by rw [show (envOfC d.name d.scope s.heap.objs.size fa code).kindOf (Str.ofString y') = some .cell from q.1]; simp
          have := X'.cell _ _ hca
          rwa [bindC_get nk hnod' hm] at this
      own := fun y e => by cases e
      par := fun y e => by cases e }
    refine walk _ _ _ _ _ _ _ outer base g hh hfr' (fun b o e => hst b o e) (fun h ps X i' => ?_) { s with heap := h₁, toks := tk } X _ _ _ i hc' fun e h' tk' fl up => ?_
    · obtain ⟨m, n⟩ := i'.ns
      refine Heap.FunFrames.cons (L := s.heap.objs.size) (by show d.scope.kind ≠ .module; rw [hk]; decide) rfl n ?_ (hfun.of_keeps fun b o e _ => ⟨o, i'.base b o e, rfl⟩)
      cases q : base.get? s.heap.objs.size with
      | none => rfl
      | some o => have := hst _ _ q; rw [nL] at this; cases this
    · refine leave_fly (s := { s with heap := h', toks := tk' }) hfr' rfl fl fun h'' fl' up' => ?_
      refine hE e h'' tk' ⟨fl'.stays, fl'.new, funs_tail fl'.frames, let ⟨a1, a2, a3, a4, a5, b1, b2, b3, b4, b5, b6⟩ := fl'.exn; ⟨a1, a2, a3, a4, a5, b1, b2, b3, b4, fun env m => b5 env (List.mem_cons_of_mem _ m), b6⟩⟩ fun b o e n => ?_
      obtain ⟨sl, e1⟩ := up b o e n
      obtain ⟨sl2, e2⟩ := up' b _ e1 n
      exact ⟨sl2, e2⟩

section
variable {mg mb mN : Str → Option Value} {hb : Heap} {C N fI : Addr} {nm q : Str} {bs : List Value} {sn : List Str} {sub : List Value} {ab : Bool} {col : Option Bool} {dd : Option Addr} {k0 k1 k2 k3 k5 : Option Value} {pm cd : Value} {ofn : Obj}

noncomputable abbrev kDiv : Str := "division by zero"

theorem fmake_X (Bs : Base mg mb hb) (cl : Cls hb mg mb C N fI mN nm q bs sn sub ab col dd k0 k1 k2 k3 k5 pm cd ofn) : FnX mg hb 8 "fmake" C kDiv (fun ds => ∃ t, ds = [t, .lst []]) :=
  fnX_intro (xs := ["top", "bottom"]) (cond' := fun ps => ps.own = none ∧ ps.par = none ∧ ps.loc "bottom" = some (.lst [])) Bs (d := recAt 30) (mem_rec (by decide)) (by kernel_rfl) (fun vals _ _ _ h => match vals, h with | [_, _], _ => by kernel_rfl) (by decide +kernel) (by decide +kernel) (kinds_of (by decide +kernel)) (by kernel_rfl) (by kernel_rfl) (by kernel_rfl)
    (by rintro ds ⟨t, rfl⟩; exact ⟨rfl, rfl, rfl, rfl⟩)
    (by
      intro w A B X₀ L a cd outer base g hh hfr hbB hfun s X ps Q E i hc hE
      obtain ⟨h1, h2, h3⟩ := hc
      have key : pCmpN fEq "bottom" (pFr (pDisp pNil)) ps = some (true, ps) := by
        have e1 : fEq (.lst []) (.lst []) = some true := by decide +kernel
        simp [pCmpN, h3, pFr, pDisp, pNil, e1]
      have tv : ∀ p1 p2 p3 : Pos, TV ⟨w, A, hb, B, X₀, envOfC (recAt 30).name (recAt 30).scope L a cd⟩ (.Compare (.Name (Str.ofString "bottom") p1) [.Eq] [.List [] p2] p3) (pCmpN fEq "bottom" (pFr (pDisp pNil))) := fun _ _ _ => tv_cmp_name (cm_eq g.ok) (ev_fresh (fv_list lv_nil))
      refine wpAny_execs_cons (wpAny_If (tv _ _ _ s X ps true ps _ _ i key fun h' tk k i' => ?_))
      refine wpAny_execs_cons ?_
      refine sv_raise g hh cl (s := { s with heap := h', toks := tk }) (by kernel_rfl) (by rw [PySem.ofString_length, PySem.ofString_length, sizeLine_eq]; decide) i' fun e h'' tk' x => ?_
      have i'' := i'.kp (Kp.of (X := []) x.keep)
      exact hE e h'' tk' (x.fly (fun b o e => i'.base b o (hbB b o e)) (hfun _ _ _ i')) fun b o hB _ => ⟨o.slots, i''.base b o hB⟩)
end
end NN
end

section
open PySem PySem.W PyProof.Rows PySem.Calls PySem.Spec
open Sem (wp)
open Builtin Builtin.ObjectAttr
set_option Elab.async false
set_option autoImplicit false
set_option maxRecDepth 100000

namespace NN
section
variable {prog : Program} {w : World} {A : Around} {E : Value → Shared → Prop} {h : Heap} {g : Array GenState} {d : Drawn} {t : Nat} {os : OsState}
variable {C N e T dx : Addr} {tb : Value} {mN mA : Str → Option Value} {nm q : Str} {bs : List Value} {sn : List Str} {sub : List Value} {ab : Bool} {col : Option Bool} {dd : Option Addr} {k0 k1 k2 k3 k5 : Option Value} {kd : Str} {t1 : Tok}

theorem kind_entry {tk : Tok} {Q : Fin → Shared → Prop} (hC : h.get? C = some (excClassObj nm q C N bs bmE true sn sub ab col dd k0 k1 k2 k3 k5 "Exception.__new__")) (hN : h.Ns N mN) (hk : mN "kind" = none)
    (hx : h.get? e = some (excD C T dx tb)) (hns : h.Ns1 dx mA) (hm : mA "kind" = some (.str kd t1)) (hq : Q (.done (.ret (.str kd t1))) ⟨h, g, d, t, os⟩) :
    wpAny (model prog w) A (Builtin.«object.__getattribute__» ⟨[.ref e, .str "kind" tk], []⟩) Q E ⟨h, g, d, t, os⟩ := by
  have FB := PySem.F.attrBase_Exception
  have lk : typeLookup (.type "Exception") "kind" = pure none := by rw [typeLookup_type, builtinLookup_eq_fast]; kernel_rfl
  have hc : (excD C T dx tb).cls = .ref C := rfl
  unfold Builtin.«object.__getattribute__»
  repeat (first | (with_reducible refine wpAny_nsGet hns.ns ?_; rw [hm]) | (with_reducible refine wpAny_loadPart_at hx ?_; rw [hc]) | with_reducible refine wpAny_loadPart_at hC ?_ | (with_reducible refine wpAny_typeLookup_exc hC hN FB.mro lk ?_; rw [hk]) | wp_step)
  exact hq

theorem check_ga {M : Model} {nameV : Value} {Q : Unit → Shared → Prop} (hC : h.get? C = some (excClassObj nm q C N bs bmE true sn sub ab col dd k0 k1 k2 k3 k5 "Exception.__new__"))
    (hx : h.get? e = some (excD C T dx tb)) (hq : Q () ⟨h, g, d, t, os⟩) : wpAny M A (checkBuiltinCall "BaseException.__getattribute__" ⟨[.ref e, nameV], []⟩) Q E ⟨h, g, d, t, os⟩ := by
  have hk : builtinKind "BaseException.__getattribute__" = some .slot := by decide +kernel
  have hsplit : splitId "BaseException.__getattribute__" = some ("BaseException", "__getattribute__") := by decide +kernel
  have hcB : (Value.ref C :: bmE).contains (.type "BaseException") = true := by rw [List.contains_cons, show bmE.contains (.type "BaseException") = true by decide +kernel, Bool.or_true]
  have hc : (excD C T dx tb).cls = .ref C := rfl
  have ha := PySem.F.args_bexc_ga (.ref e) nameV
  simp only [checkBuiltinCall, hk, hsplit]
  refine wpAny_bind ?_
  · unfold isInstance
    repeat (first | (with_reducible refine wpAny_loadPart_at hx ?_; rw [hc]) | (with_reducible refine wpAny_isSubtype_exc hC ?_; rw [hcB]) | wp_step)
    exact hq

theorem kind_attr {expr : Bool} {Q : Value → Shared → Prop} (hC : h.get? C = some (excClassObj nm q C N bs bmE true sn sub ab col dd k0 k1 k2 k3 k5 "Exception.__new__")) (hN : h.Ns N mN) (hk : mN "kind" = none) (hga : mN "__getattribute__" = none) (hgt : mN "__getattr__" = none)
    (hx : h.get? e = some (excD C T dx tb)) (hns : h.Ns1 dx mA) (hm : mA "kind" = some (.str kd t1)) (hq : Q (.str kd t1) ⟨h, g, d, t + 1, os⟩) :
    wpAny (model prog w) A (getAttr (.ref e) "kind" expr) Q E ⟨h, g, d, t, os⟩ := by
  have FB := PySem.F.attrBase_Exception
  have hc : (excD C T dx tb).cls = .ref C := rfl
  unfold getAttr
  refine wpAny_bind (wpAny_mkText ?_)
  unfold getAttrBy
  refine wpAny_holding (wpAny_bind ?_)
  unfold typeOf
  refine wpAny_bind (wpAny_loadPart_at hx ?_)
  rw [hc]
  refine wpAny_pure (wpAny_bind ?_)
  refine wpAny_typeLookup_exc hC hN FB.mro FB.ga.lookup ?_
  rw [hga]
  dsimp only
  rw [show (onTheHeap (Value.ref C) && Value.builtin "BaseException.__getattribute__" == Value.builtin "object.__getattribute__") = false by rw [show (Value.builtin "BaseException.__getattribute__" == Value.builtin "object.__getattribute__") = false by decide +kernel, Bool.and_false], if_neg (by decide)]
  unfold getAttrByItsOwn hookBefore
  refine wpAny_bind ?_
  rw [if_pos (by rfl)]
  refine wpAny_typeLookup_exc hC hN FB.mro FB.noGetattr ?_
  rw [hgt]
  refine wpAny_bind (wpAny_attempt (wpAny_holding ?_))
  unfold callGetattribute
  rw [if_neg (by cases expr <;> decide)]
  unfold boundAndCalled
  refine wpAny_bind (wpAny_of_eq (FB.ga.bind (.ref e)) ?_)
  show wpAny _ _ (call (.builtin "BaseException.__getattribute__") [.ref e, .str "kind" t]) _ _ _
  refine wpAny_call ?_
  refine codeAny_call_builtin FB.ga.plain PySem.F.entry_bexc_ga ?_
  refine check_ga hC hx ?_
  refine kind_entry hC hN hk hx hns hm ?_
  show wpAny _ _ (handedOut (.str kd t1)) _ _ _
  exact handed_on rfl hq
end
end NN
end

section
open PySem PySem.W PyProof.Rows PySem.Calls PySem.Spec
open Sem (wp)
set_option Elab.async false
set_option autoImplicit false
set_option maxRecDepth 100000

namespace NN
section
variable {mg mb mN : Str → Option Value} {C N fI : Addr} {nm q₀ : Str} {bs : List Value} {sn : List Str} {sub : List Value} {ab : Bool} {col : Option Bool} {dd : Option Addr} {k0 k1 k2 k3 k5 : Option Value} {pm cd : Value} {ofn : Obj}

/-- a call that ends in the refusal -/
theorem x_callF {c : Cx} {f : String} {k k' : Nat} {kd : Str} {cond : List PV → Prop} {np pos : Pos} {e : Expr} {es : List Expr} {q : PE (List PV)} {outer : List Env} {base : Heap} (F : FnX mg c.hb k f C kd cond) (ok : Ok c k') (hk : k + 1 ≤ k') (hh : c.A.handled = none) (hfr : c.A.frames = some outer)
    (hn : ∀ v, mg (Str.ofString f) = some v → NV c (Str.ofString f) v) (h1 : LV c (e :: es) q) (hbB : ∀ b o, base.get? b = some o → c.B b o) (hfun : ∀ h ps X, Inv c.hb c.B c.X₀ c.env h ps X → h.FunFrames base outer)
    {s : Shared} {X : List Addr} {ps ps₁ : PS} {ds : List PV} {Q : Value → Shared → Prop} {E : Value → Shared → Prop} (i : Inv c.hb c.B c.X₀ c.env s.heap ps X) (hq : q ps = some (ds, ps₁)) (hc : cond ds)
    (hE : ∀ e h₁ h' tk, Inv c.hb c.B c.X₀ c.env h₁ ps₁ X → Kp X s.heap h₁ → Fly base outer e C kd h' → UpTo h₁ h' → E (.ref e) { s with heap := h', toks := tk })
    (hs : starEach (e :: es) c.env = (false, eval e c.env) :: starEach es c.env := by rfl) : wpAny (model pw c.w) c.A (eval (.Call (.Name (Str.ofString f) np) (e :: es) [] pos) c.env) Q E s := by
  obtain ⟨fa, o, fd, hm, ho, hd, F⟩ := F
  refine wpAny_Call_NameR (hn _ hm np s X ps _ _ i ?_)
  refine Calls.callWith_function (o := o) (fd := fd) ?_
  have key : wpAny (model pw c.w) c.A (spliced (backTo pos (starEach (e :: es) c.env))) (fun vs s₁ => (s₁.heap.get? fa = some o ∧ o.data = .func fd) ∧ wpAny (model pw c.w) c.A (call (.ref fa) ([] ++ vs) []) Q E s₁) E s := by
    refine h1 pos s X ps ds ps₁ _ _ i hq fun vs h₁ tk₁ k₁ i₁ r₁ => ⟨⟨i₁.hbKp.all _ _ ho, hd⟩, ?_⟩
    rw [List.nil_append]
    exact F c.w c.A _ X vs ds Q E base outer ⟨ok.hnd, by have := ok.depth; omega, by have := ok.units; omega, ⟨_, hfr⟩⟩ hh hfr (fun b o e => i₁.base b o (hbB b o e)) (hfun _ _ _ i₁) i₁.hbKp (fun a m => ⟨i₁.offH a m, i₁.live a m⟩) r₁ hc
      fun e h' tk fl up => hE e h₁ h' tk i₁ k₁ fl up
  rw [hs] at key ⊢
  exact Calls.evalArgs_plain (f := .ref fa) key

noncomputable def qDiv : PE (List PV) := pCons (pCall sp_qmul (pCons (pSubN "f" (pK (.int 0))) (pCons (pSubN "g" (pK (.int 1))) pNil))) (pCons (pCall sp_qmul (pCons (pSubN "f" (pK (.int 1))) (pCons (pSubN "g" (pK (.int 0))) pNil))) pNil)
noncomputable def cDiv (ds : List PV) : Prop := ds.length = 2 ∧ ∃ t ps', qDiv (args ["f", "g"] ds) = some ([t, .lst []], ps')

theorem fdiv_X {hb : Heap} (Bs : Base mg mb hb) (cl : Cls hb mg mb C N fI mN nm q₀ bs sn sub ab col dd k0 k1 k2 k3 k5 pm cd ofn) : FnX mg hb 9 "fdiv" C kDiv cDiv :=
  fnX_intro (xs := ["f", "g"]) (cond' := fun ps => ps.own = none ∧ ∃ t ps', qDiv ps = some ([t, .lst []], ps')) Bs (d := recAt 38) (mem_rec (by decide)) (by kernel_rfl) (fun vals _ _ _ h => match vals, h with | [_, _], _ => by kernel_rfl) (by decide +kernel) (by decide +kernel) (kinds_of (by decide +kernel)) (by kernel_rfl) (by kernel_rfl) (by kernel_rfl)
    (by rintro ds ⟨hl, h⟩; exact ⟨hl, rfl, h⟩)
    (by
      intro w A B X₀ L a cd outer base g hh hfr hbB hfun s X ps Q E i hc hE
      obtain ⟨h1, t, ps', h2⟩ := hc
      refine wpAny_execs_cons (wpAny_Return_some ?_)
      have e := g.ok
      refine x_callF (c := ⟨w, A, hb, B, X₀, envOfC (recAt 38).name (recAt 38).scope L a cd⟩) (q := qDiv) (fmake_X Bs cl) g.ok (by decide) hh hfr (fun _ hv => g.nv hv (by kernel_rfl) (by decide +kernel))
        (lv_cons (g.call (fn_qmul g.base) (by decide) (by kernel_rfl) (by decide +kernel) (lv_cons (ev_sub_name ev_int) (lv_cons (ev_sub_name ev_int) lv_nil))) (lv_cons (g.call (fn_qmul g.base) (by decide) (by kernel_rfl) (by decide +kernel) (lv_cons (ev_sub_name ev_int) (lv_cons (ev_sub_name ev_int) lv_nil))) lv_nil))
        hbB hfun i h2 ⟨t, rfl⟩ fun e h₁ h' tk i₁ k₁ fl up => hE e h' tk fl fun b o hB n => up b o (i₁.base b o hB) n)
end
end NN
end

section
open PySem PySem.W PyProof.Rows PySem.Calls PySem.Spec
open Sem (wp)
set_option Elab.async false
set_option autoImplicit false
set_option maxRecDepth 100000

namespace NN
section
variable {hb hb' : Heap} {B B' : Addr → Obj → Prop} {X₀ : List Addr} {env : Env} {h h' : Heap} {ps : PS} {X : List Addr}

theorem Base.keeps {mg mb : Str → Option Value} (x : Base mg mb hb) (k : ∀ b o, hb.get? b = some o → hb'.get? b = some o) : Base mg mb hb' where
  g := x.g.keeps k
  b := x.b.keeps k
  lim := x.lim.keeps k
  seer := x.seer.keeps k
  fn := fun d hd => let ⟨a, o, pm, code, doc, h1, h2, h3, h4⟩ := x.fn d hd; ⟨a, o, pm, code, doc, h1, k _ _ h2, h3, h4.keeps k⟩
  free := x.free
  boot := x.boot
  tree := fun p hp => let ⟨v, h1, h2⟩ := x.tree p hp; ⟨v, h1, h2.kp (Kp.of k)⟩

noncomputable def psE : PS := { loc := fun _ => none }

/-- the frame's own dict turned, but for one name that bears no tree -/
theorem Inv.alter {x : String} {m m' : Str → Option Value} (i : Inv hb B X₀ env h ps X) (hn : h.Ns env.locals m) (hn' : h'.Ns env.locals m') (hm : ∀ y, y ≠ Str.ofString x → m' y = m y) (hs : Heap.SameBut env.locals h h') (hx : ps.loc x = none) (h1 : ps.own = none) (h2 : ps.par = none) :
    Inv hb B X₀ env h' ps X where
  base := fun a o b => kp_local hs a o (fun e => i.offB o (e ▸ b)) (i.base a o b)
  top := i.top
  offB := i.offB
  offX := i.offX
  offC := fun y c e => let ⟨q1, q2, v, o, ho, hd⟩ := i.offC y c e; ⟨q1, q2, v, o, kp_local hs c o q2 ho, hd⟩
  ns := ⟨_, hn'⟩
  x0 := i.x0
  mark := fun a q => (i.mark a q).imp id fun ⟨vs, p⟩ => ⟨vs, plain_local i hs p⟩
  xB := i.xB
  offH := i.offH
  frz := fun y d' e q1 q2 => by
    have hy : y ≠ x := fun q => by rw [q, hx] at e; cases e
    obtain ⟨u, ⟨l1, l2, l3⟩, ru⟩ := i.frz y d' e q1 q2
    refine ⟨u, ⟨l1, l2, ?_⟩, (rep_local i hs).1 _ _ ru⟩
    rcases l3 with ⟨hl, m₀, ⟨o, es, ep, e1, e2, e3, e4⟩, hm₀⟩ | ⟨hl, c, hc, o, ho, hv⟩
    · refine .inl ⟨hl, _, hn', ?_⟩
      obtain ⟨o', es', ep', e1', e2', e3', e4'⟩ := hn
      rw [e1] at e1'; cases e1'
      rw [e2] at e2'; cases e2'
      rw [hm _ (fun q => hy (ofStr_inj q)), ← e4', e4]
      exact hm₀
    · exact .inr ⟨hl, c, hc, o, kp_local hs c o (i.offC _ _ hc).2.1 ho, hv⟩
  own := fun y e => by rw [h1] at e; cases e
  par := fun y e => by rw [h2] at e; cases e

/-- all is anew behind an exception -/
theorem Inv.land (i : Inv hb B [] env h ps []) (h1 : ps.own = none) (h2 : ps.par = none) (st : ∀ b o, b ≠ env.locals → h.get? b = some o → h'.get? b = some o) (up : UpTo h h') (hbt : ∀ b o, hb'.get? b = some o → b ≠ env.locals ∧ h'.get? b = some o) :
    Inv hb' (fun b o => hb'.get? b = some o) [] env h' ps [] := by
  have nsL : ∀ {m}, h.Ns env.locals m → h'.Ns env.locals m := fun ⟨o, es, ep, e1, e2, r⟩ => by
    obtain ⟨sl, e3⟩ := up _ o e1 (fun vs q => by rw [e2] at q; cases q)
    exact ⟨_, es, ep, e3, e2, r⟩
  exact {
    base := fun a o b => (hbt a o b).2
    top := fun _ _ e => e
    offB := fun o b => (hbt _ o b).1 rfl
    offX := List.not_mem_nil
    offC := fun y c e => let ⟨_, q2, v, o, ho, hd⟩ := i.offC y c e; ⟨List.not_mem_nil, q2, v, o, st c o q2 ho, hd⟩
    ns := let ⟨m, n⟩ := i.ns; ⟨m, nsL n⟩
    x0 := fun _ m => m
    mark := fun a m => by cases m
    xB := fun a m => by cases m
    offH := fun a m => by cases m
    frz := fun y d e q1 q2 => by
      obtain ⟨v, ⟨l1, l2, l3⟩, r⟩ := i.frz y d e q1 q2
      refine ⟨v, ⟨l1, l2, ?_⟩, ?_⟩
      · rcases l3 with ⟨hl, m, n, hm⟩ | ⟨hl, c, hc, o, ho, hv⟩
        · exact .inl ⟨hl, m, nsL n, hm⟩
        · exact .inr ⟨hl, c, hc, o, st c o (i.offC _ _ hc).2.1 ho, hv⟩
      · refine (rep_move fun a o n e ⟨_, _, hd⟩ => ⟨st a o (fun q => ?_) e, n⟩).1 d v r
        obtain ⟨m, o', _, _, e', hd', _⟩ := i.ns
        rw [q, e'] at e
        cases e; rw [hd] at hd'; cases hd'
    own := fun y e => by rw [h1] at e; cases e
    par := fun y e => by rw [h2] at e; cases e }

/-- nothing is asked of the names any more -/
theorem Inv.bare (hbase : ∀ a o, B a o → h.get? a = some o) (htop : ∀ a o, hb.get? a = some o → B a o) (offB : ∀ o, ¬ B env.locals o) (ns : ∃ m, h.Ns env.locals m) (offC : ∀ x c, env.cells.lookup x = some c → c ≠ env.locals ∧ ∃ v, h.IsCell c v) : Inv hb B [] env h psE [] where
  base := hbase
  top := htop
  offB := offB
  offX := List.not_mem_nil
  offC := fun x c e => ⟨List.not_mem_nil, offC x c e⟩
  ns := ns
  x0 := fun _ m => m
  mark := fun a m => by cases m
  xB := fun a m => by cases m
  offH := fun a m => by cases m
  frz := fun y d e _ _ => by cases e
  own := fun y e => by cases e
  par := fun y e => by cases e
end

section
variable {M : Model} {A : Around} {E : Value → Shared → Prop} {s : Shared}
theorem set_fly {base : Heap} {l : List Env} {e C : Addr} {kd : Str} {Q : Unit → Shared → Prop} (x : Fly base l e C kd s.heap)
    (h : ∀ h', Fly base l e C kd h' → UpTo s.heap h' → Q () { s with heap := h' }) : wpAny M A (setFlight (.ref e) none) Q E s := by
  obtain ⟨st, hen, hl, T, tb, dx, mA, t, he, hdx, hns, hm, hfx, hB⟩ := x
  unfold setFlight
  refine wpAny_bind (wpAny_field he rfl (x := tb) rfl ?_)
  rcases hB with rfl | ⟨B, oB, ts, rfl, hBn, hBe, hBo, hBd, hB3⟩
  · rw [if_neg (by decide)]
    exact wpAny_pure (h s.heap ⟨st, hen, hl, T, .none, dx, mA, t, he, hdx, hns, hm, hfx, .inl rfl⟩ UpTo.refl)
  · rw [if_pos (show (Value.ref B != Value.none) = true from by simp)]
    refine wpAny_setField hBo hBd (Array.getElem?_eq_some_iff.mp hB3).1 (h _ ?_ ?_)
    all_goals
      have other : ∀ b, b ≠ B → (s.heap.update B (Obj.mapFields (·.setIfInBounds 3 ((none : Option Addr).elim Value.none fun f => rawInt f)))).get? b = s.heap.get? b := fun b hb => Heap.get?_update_other _ _ (Ne.symm hb)
      have noRecord : ∀ b o, s.heap.get? b = some o → (∀ vs, o.data ≠ .fields vs) → b ≠ B := fun b o hb hnf q => by
        rw [q, hBo] at hb; injection hb with hb; subst hb; exact hnf ts hBd
    · refine ⟨fun b o hbo => (other b fun q => by rw [q, hBn] at hbo; cases hbo).trans (st b o hbo), hen, hl.of_keeps fun b o hb hnf => ⟨o, (other b (noRecord b o hb hnf)).trans hb, rfl⟩,
        T, .ref B, dx, mA, t, (other e (Ne.symm hBe)).trans he, hdx, ?_, hm, hfx, .inr ⟨B, _, _, rfl, hBn, hBe, Heap.get?_update_self _ hBo (Obj.isFreed_of_fields (Obj.data_mapFields hBd _)), Obj.data_mapFields hBd _, ?_⟩⟩
      · obtain ⟨o', es, ep, e1, e2, e3, eu, e4⟩ := hns
        exact ⟨o', es, ep, (other dx (noRecord dx o' e1 (fun vs q => by rw [e2] at q; cases q))).trans e1, e2, e3, eu, e4⟩
      · have := (Array.getElem?_eq_some_iff.mp hB3).1
        simp [this]
    · exact fun b o hb hnf => ⟨o.slots, (other b (noRecord b o hb hnf)).trans hb⟩
end

open Classical in
noncomputable def pTry (q : PE (List PV)) (cond : List PV → Prop) (r : PE PV) : PSt := fun ps =>
  if h : ∃ b : Bool, (∃ ds ps₁ ps₂, q ps.freeze = some (ds, ps₁) ∧ cond ds ∧ r ps.freeze = some (.bool b, ps₂)) ∧ ps.loc "refused" = none ∧ ps.par = none then some (.ret (.bool h.choose), psE) else none

section
variable {mg mb mN : Str → Option Value} {C N fI : Addr} {nm q₀ : Str} {bs : List Value} {sn : List Str} {sub : List Value} {ab : Bool} {col : Option Bool} {dd : Option Addr} {k0 k1 k2 k3 k5 : Option Value} {pm cd : Value} {ofn : Obj}

theorem sv_try {c : Cx} {f : String} {k kf : Nat} {cond : List PV → Prop} {np cp ep tp rp kp p1 p2 p3 p4 hp pos : Pos} {n1 : Nat} {e e₂ : Expr} {es : List Expr} {q : PE (List PV)} {r : PE PV} (g : G mg mb k c) (cl : Cls c.hb mg mb C N fI mN nm q₀ bs sn sub ab col dd k0 k1 k2 k3 k5 pm cd ofn)
    (F : FnX mg c.hb kf f C kDiv cond) (hk : kf + 1 ≤ k) (hh : c.A.handled = none) (hfr : c.A.frames = some [c.env]) (hf : c.env.frame = some c.env.locals) (hX0 : c.X₀ = []) (nR : SN c.env "refused")
    (hx : c.env.kindOf (Str.ofString f) = some .globalImplicit) (hd : (Str.ofString f == ("__debug__" : Str)) = false) (hxC : c.env.kindOf "CasFail" = some .globalImplicit)
    (h1 : ∀ B, LV { c with B := B } (e :: es) q) (hr : ∀ c', c'.env = c.env → G mg mb k c' → EV c' e₂ r)
    (hi : interactive c.env = false) (hsw : swapsWith (.Call (.Name (Str.ofString f) np) (e :: es) [] cp) none ep.line c.env = pure false)
    (hs : starEach (e :: es) c.env = (false, eval e c.env) :: starEach es c.env := by rfl) :
    SV c (.Try [.Expr (.Call (.Name (Str.ofString f) np) (e :: es) [] cp) ep] [.ExceptHandler (some (.Name "CasFail" tp)) (some "refused") [.Return (some (.BoolOp .And [.Compare (.Attribute (.Name (Str.ofString "refused") rp) "kind" kp) [.Eq] [.Constant (.str kDiv) n1 p1] p2, e₂] p3)) p4] hp] [] [] pos) (pTry q cond r) := by
  obtain ⟨w, A, hb, B, X₀, env⟩ := c
  dsimp only at *
  subst hX0
  intro s X ps o ps' Q E i hp hQ
  unfold pTry at hp
  split at hp
  · rename_i hx'
    generalize hbb : hx'.choose = bb at hp
    obtain ⟨⟨ds, ps₁, ps₂, e1, e2, e3⟩, e4, e5⟩ := hbb ▸ hx'.choose_spec
    cases hp
    have j := i.freeze
    dsimp only at j
    have jm := j.more
    have L := env.locals
    have hbase : ∀ b o, (hideAll s.heap [env.locals]).get? b = some o → s.heap.get? b = some o ∧ b ≠ env.locals := fun b o e => ⟨of_hideAll _ e, fun q => by rw [q, hideAll_none _ (List.mem_singleton.mpr rfl)] at e; cases e⟩
    have tobase : ∀ b o, b ≠ env.locals → s.heap.get? b = some o → (hideAll s.heap [env.locals]).get? b = some o := fun b o n e => hideAll_get _ e (fun q => n (List.mem_singleton.mp q))
    refine wpAny_Try_except (wpAny_execs_cons ?_)
    refine exec_drop (c := ⟨w, A, hb, more B env s.heap [], [], env⟩) ?_ hi hsw
    refine x_callF (c := ⟨w, A, hb, more B env s.heap [], [], env⟩) (outer := [env]) (base := hideAll s.heap [env.locals]) F (g.withB _).ok hk hh hfr (fun _ hv => (g.withB _).nv hv hx hd) (h1 _) (fun b o e => .inr ⟨(hbase b o e).1, List.not_mem_nil, (hbase b o e).2⟩) ?_ jm e1 e2 ?_ hs
    · intro h ps X i'
      obtain ⟨m, n⟩ := i'.ns
      exact Heap.FunFrames.cons (outer := []) (by rw [g.en.k]; decide) hf n (hideAll_none _ (List.mem_singleton.mpr rfl)) trivial
    · intro ex h₁ h₂ tk i₁ k₁ fl up
      refine note_fly (s := { s with heap := h₂, toks := tk }) hfr hf fl fun h₃ fl₃ up₃ => ?_
      have ff := g.en.k
      have st₃ : ∀ b o, b ≠ env.locals → s.heap.get? b = some o → h₃.get? b = some o := fun b o n e => fl₃.stays b o (tobase b o n e)
      have up₁₃ : UpTo s.heap h₃ := (UpTo.trans (fun b o e _ => ⟨o.slots, k₁ b o List.not_mem_nil e⟩) up).trans up₃
      have hbs : ∀ b o, hb.get? b = some o → s.heap.get? b = some o ∧ b ≠ env.locals := fun b o e => ⟨i.base b o (i.top b o e), fun q => i.offB o (q ▸ i.top b o e)⟩
      have hb₃ : ∀ b o, hb.get? b = some o → h₃.get? b = some o := fun b o e => st₃ b o (hbs b o e).2 (hbs b o e).1
      have cl₃ := cl.keeps hb₃
      obtain ⟨T₃, tb₃, dx₃, mA₃, t₃, he₃, -⟩ := fl₃.exn
      refine wpAny_handleBy_cons (codeAny_handlers_test ?_) (by intro q; cases q)
      refine Calls.Name_function_global ff hxC (Calls.loadGlobal_global (env := env) (g.en.g ▸ cl₃.g) cl.nameC ?_) (by decide +kernel)
      refine wpAny_excMatches_sub_self cl₃.cls he₃ rfl (by decide +kernel) ?_
      refine codeAny_handlers_suite_as ?_
      refine set_fly (s := { s with heap := h₃, toks := tk }) fl₃ fun h₄ fl₄ up₄ => ?_
      have st₄ : ∀ b o, b ≠ env.locals → s.heap.get? b = some o → h₄.get? b = some o := fun b o n e => fl₄.stays b o (tobase b o n e)
      have up₁₄ : UpTo s.heap h₄ := up₁₃.trans up₄
      have hb₄ : ∀ b o, hb.get? b = some o → (hideAll h₄ [env.locals]).get? b = some o := fun b o e => hideAll_get _ (st₄ b o (hbs b o e).2 (hbs b o e).1) (fun q => (hbs b o e).2 (List.mem_singleton.mp q))
      have hbt : ∀ b o, (hideAll h₄ [env.locals]).get? b = some o → b ≠ env.locals ∧ h₄.get? b = some o := fun b o e => ⟨fun q => (by rw [q, hideAll_none _ (List.mem_singleton.mpr rfl)] at e; cases e), of_hideAll _ e⟩
      have i₄ : Inv (hideAll h₄ [env.locals]) (fun b o => (hideAll h₄ [env.locals]).get? b = some o) [] env h₄ ps.freeze [] := j.land rfl e5 st₄ up₁₄ hbt
      obtain ⟨T₄, tb₄, dx₄, mA₄, t₄, he₄, ndx₄, hns₄, hm₄, hfx₄, -⟩ := fl₄.exn
      obtain ⟨m₄, hn₄⟩ := i₄.ns
      have exL : ex ≠ env.locals := fun q => by
        obtain ⟨o, es, ep, e1, e2, _⟩ := hn₄
        rw [← q, he₄] at e1; cases e1; cases e2
      have dxL : dx₄ ≠ env.locals := fun q => hfx₄ env (List.mem_singleton.mpr rfl) (by rw [hf, q])
      refine wpAny_storeName_local nR.k hn₄ (fun h₅ hn₅ hs₅ => ?_) nR.hp
      have i₅ := i₄.alter (x := "refused") hn₄ hn₅ (fun y n => by simp only [if_neg n]) hs₅ e4 rfl e5
      have k₅ : ∀ b o, b ≠ env.locals → h₄.get? b = some o → h₅.get? b = some o := fun b o n e => (hs₅.2 b n).trans e
      have g' : G mg mb k ⟨w, A.mark (some (.ref ex)), hideAll h₄ [env.locals], fun b o => (hideAll h₄ [env.locals]).get? b = some o, [], env⟩ := {
        base := g.base.keeps hb₄
        en := g.en
        ok := ⟨.inr ⟨ex, _, _, rfl, hideAll_get _ he₄ (fun q => exL (List.mem_singleton.mp q)), rfl, rfl⟩, g.ok.depth, g.ok.units, g.ok.fr, g.ok.lim.keeps hb₄, g.ok.seer.keeps hb₄⟩ }
      have cl₅ := cl.keeps fun b o e => i₅.base b o (hb₄ b o e)
      refine wpAny_execs_cons (wpAny_Return_some (wpAny_And2 (wpAny_Compare1 (Attribute_Name_ ?_) (by rfl))))
      refine Look.name (v := .ref ex) ⟨ff, nR.d, .inl ⟨nR.k, _, hn₅, by simp⟩⟩ ?_
      have hns₅ : h₅.Ns1 dx₄ mA₄ := let ⟨o', es, ep, e1, r⟩ := hns₄; ⟨o', es, ep, k₅ _ _ dxL e1, r⟩
      refine kind_attr cl₅.cls cl₅.ns cl₅.kind cl₅.ga cl₅.gt (k₅ _ _ exL he₄) hns₅ hm₄ ?_
      refine wpAny_Constant_str ?_
      refine PyProof.Rows.eq_str ?_
      rw [show (kDiv == kDiv) = true by decide +kernel]
      refine wpAny_truthy_bool ?_
      rw [if_pos rfl]
      refine hr _ rfl g' { s with heap := h₅, toks := _ } [] ps.freeze _ ps₂ _ _ i₅ e3 fun v h₆ tk₆ k₆ i₆ r₆ => ?_
      simp only [Rep] at r₆
      subst r₆
      obtain ⟨m₆, hn₆⟩ := i₆.ns
      refine wpAny_nameGoes (s := { s with heap := h₆, toks := tk₆ }) nR.k hn₆ nR.hp fun h₇ m₇ hn₇ hs₇ => ?_
      have k₇ : ∀ b o, b ≠ env.locals → s.heap.get? b = some o → h₇.get? b = some o := fun b o n e => (hs₇.2 b n).trans (k₆ b o List.not_mem_nil (k₅ b o n (st₄ b o n e)))
      refine hQ (.ret (.bool bb)) h₇ _ [] (Inv.bare (fun a o b => k₇ a o (fun q => i.offB o (q ▸ b)) (i.base a o b)) i.top i.offB ⟨_, hn₇⟩ fun x c e => ?_) (by simp only [FRep, Rep])
      obtain ⟨_, q2, v, o, ho, hd⟩ := i.offC x c e
      exact ⟨q2, v, o, k₇ c o q2 ho, hd⟩
  · cases hp
end
end NN
end

section
open PySem PySem.W PyProof.Rows PySem.Calls PySem.Spec
set_option Elab.async false
set_option autoImplicit false
set_option maxRecDepth 100000

namespace NN
noncomputable def p_law : PSt := (pSeq (pAssignC "script" (pLC "cell" [] (pBool true) (pUn fInt (pVar "cell")) (pLs (pBin fUpto (pVar "script") (pK (.int 24))))))
    (pSeq (pAssignO "pool" (pDisp (pCons (pBin fMod (pUnN fSum "script") (pK (.int 2147483647))) (pCons (pVar "script") (pCons (pK (.int 0)) pNil)))))
    (pSeq (pAssign "pairs" (pFr (pDisp (pCons (pCallP "pool" sp_law_pair pNil) (pCons (pCallP "pool" sp_law_pair pNil) pNil)))))
    (pSeq (pUnpL ["f", "g"] (pFr (pLC "pair" [] (pBool true) (pCall sp_fmake (pCons (pSubN "pair" (pK (.int 0))) (pCons (pSubN "pair" (pK (.int 1))) pNil))) (pLs (pVar "pairs")))))
    (pSeq (pUnp ["total", "less", "product", "n"] (pTup (pCons (pCall sp_fadd (pCons (pVar "f") (pCons (pVar "g") pNil))) (pCons (pCall sp_fsub (pCons (pVar "f") (pCons (pVar "g") pNil))) (pCons (pCall sp_fmul (pCons (pVar "f") (pCons (pVar "g") pNil))) (pCons (pBin fSub (pCallP "pool" sp_law_draw (pCons (pK (.int 5)) pNil)) (pK (.int 2))) pNil))))))
    (pSeq (pStIf (pCmp fNe (pFr (pLC "one" [] (pNot (pT (pCall sp_law_is_made (pCons (pVar "one") pNil)))) (pK (.int 1)) (pTs (pTup (pCons (pVar "f") (pCons (pVar "g") (pCons (pVar "total") (pCons (pVar "less") (pCons (pVar "product") pNil))))))))) (pFr (pDisp pNil))) (pSeq (pRet (pK (.bool false)))
    pEnd) pEnd)
    (pSeq (pStIf (pOr (pCmp fNe (pCall sp_fsub (pCons (pVar "f") (pCons (pVar "f") pNil))) (pK (.tup [.lst [], .lst [rt 1 1]]))) (pOr (pCmp fNe (pCall sp_fadd (pCons (pVar "f") (pCons (pCall sp_fneg (pCons (pVar "f") pNil)) pNil))) (pK (.tup [.lst [], .lst [rt 1 1]]))) (pOr (pCmp fNe (pCall sp_fadd (pCons (pVar "less") (pCons (pVar "g") pNil))) (pVar "f")) (pOr (pCmp fNe (pCall sp_fmul (pCons (pVar "f") (pCons (pK (.tup [.lst [rt 1 1], .lst [rt 1 1]])) pNil))) (pVar "f")) (pBool false))))) (pSeq (pRet (pK (.bool false)))
    pEnd) pEnd)
    (pSeq (pUnp ["whole", "rest"] (pCall sp_fsplit (pCons (pVar "f") pNil)))
    (pSeq (pStIf (pOr (pCmp fNe (pCall sp_fadd (pCons (pCall sp_fpoly (pCons (pVar "whole") pNil)) (pCons (pVar "rest") pNil))) (pVar "f")) (pOr (pAnd (pCmp fGe (pUn fLen (pSubN "rest" (pK (.int 0)))) (pUn fLen (pSubN "rest" (pK (.int 1))))) (pAnd (pCmpN fNe "rest" (pK (.tup [.lst [], .lst [rt 1 1]]))) (pBool true))) (pBool false))) (pSeq (pRet (pK (.bool false)))
    pEnd) pEnd)
    (pSeq (pFor "at" (pRg (pK (.int 2))) (pSeq (pAssign "x" (pCall sp_rat (pCons (pBin fSub (pCallP "pool" sp_law_draw (pCons (pK (.int 40)) pNil)) (pK (.int 20))) (pCons (pBin fAdd (pK (.int 1)) (pCallP "pool" sp_law_draw (pCons (pK (.int 3)) pNil))) pNil))))
    (pSeq (pUnpR ["a", "b"] (pTup (pCons (pCall sp_law_at (pCons (pSubN "pairs" (pK (.int 0))) (pCons (pVar "x") pNil))) (pCons (pCall sp_law_at (pCons (pSubN "pairs" (pK (.int 1))) (pCons (pVar "x") pNil))) pNil))))
    (pSeq (pStIf (pOr (pCmpN fIs "a" (pK .none)) (pOr (pCmpN fIs "b" (pK .none)) (pBool false))) (pSeq pCont
    pEnd) pEnd)
    (pSeq (pStIf (pOr (pNot (pT (pCall sp_law_is_value (pCons (pVar "total") (pCons (pVar "x") (pCons (pTup (pCons (pBin fAdd (pBin fMul (pSubN "a" (pK (.int 0))) (pSubN "b" (pK (.int 1)))) (pBin fMul (pSubN "b" (pK (.int 0))) (pSubN "a" (pK (.int 1))))) (pCons (pBin fMul (pSubN "a" (pK (.int 1))) (pSubN "b" (pK (.int 1)))) pNil))) pNil)))))) (pOr (pNot (pT (pCall sp_law_is_value (pCons (pVar "f") (pCons (pVar "x") (pCons (pVar "a") pNil)))))) (pBool false))) (pSeq (pRet (pK (.bool false)))
    pEnd) pEnd)
    (pSeq (pStIf (pOr (pNot (pT (pCall sp_law_is_value (pCons (pVar "product") (pCons (pVar "x") (pCons (pTup (pCons (pBin fMul (pSubN "a" (pK (.int 0))) (pSubN "b" (pK (.int 0)))) (pCons (pBin fMul (pSubN "a" (pK (.int 1))) (pSubN "b" (pK (.int 1)))) pNil))) pNil)))))) (pOr (pNot (pT (pCall sp_law_is_value (pCons (pCall sp_fscale (pCons (pVar "f") (pCons (pTup (pCons (pK (.int 2)) (pCons (pK (.int 3)) pNil))) pNil))) (pCons (pVar "x") (pCons (pTup (pCons (pBin fMul (pK (.int 2)) (pSubN "a" (pK (.int 0)))) (pCons (pBin fMul (pK (.int 3)) (pSubN "a" (pK (.int 1)))) pNil))) pNil)))))) (pBool false))) (pSeq (pRet (pK (.bool false)))
    pEnd) pEnd)
    (pSeq (pStIf (pAnd (pCmpN fNe "g" (pK (.tup [.lst [], .lst [rt 1 1]]))) (pAnd (pCmp fNe (pSubN "b" (pK (.int 0))) (pK (.int 0))) (pAnd (pNot (pT (pCall sp_law_is_value (pCons (pCall sp_fdiv (pCons (pVar "f") (pCons (pVar "g") pNil))) (pCons (pVar "x") (pCons (pTup (pCons (pBin fMul (pSubN "a" (pK (.int 0))) (pSubN "b" (pK (.int 1)))) (pCons (pBin fMul (pSubN "a" (pK (.int 1))) (pSubN "b" (pK (.int 0)))) pNil))) pNil)))))) (pBool true)))) (pSeq (pRet (pK (.bool false)))
    pEnd) pEnd)
    (pSeq (pStIf (pAnd (pOr (pCmpN fGe "n" (pK (.int 0))) (pOr (pCmpN fNe "f" (pK (.tup [.lst [], .lst [rt 1 1]]))) (pBool false))) (pAnd (pCmp fNe (pSubN "a" (pK (.int 0))) (pK (.int 0))) (pBool true))) (pSeq (pAssign "due" (pIf (pCmpN fGe "n" (pK (.int 0))) (pTup (pCons (pBin fPow (pSubN "a" (pK (.int 0))) (pVar "n")) (pCons (pBin fPow (pSubN "a" (pK (.int 1))) (pVar "n")) pNil))) (pTup (pCons (pBin fPow (pSubN "a" (pK (.int 1))) (pUn fNeg (pVar "n"))) (pCons (pBin fPow (pSubN "a" (pK (.int 0))) (pUn fNeg (pVar "n"))) pNil)))))
    (pSeq (pStIf (pNot (pT (pCall sp_law_is_value (pCons (pCall sp_fpower (pCons (pVar "f") (pCons (pVar "n") pNil))) (pCons (pVar "x") (pCons (pVar "due") pNil)))))) (pSeq (pRet (pK (.bool false)))
    pEnd) pEnd)
    pEnd)) pEnd)
    pEnd))))))))
    (pSeq (pUnpR ["x", "line"] (pTup (pCons (pCall sp_rat (pCons (pBin fSub (pCallP "pool" sp_law_draw (pCons (pK (.int 40)) pNil)) (pK (.int 20))) (pCons (pK (.int 1)) pNil))) (pCons (pCall sp_fpoly (pCons (pFr (pDisp (pCons (pTup (pCons (pBin fSub (pCallP "pool" sp_law_draw (pCons (pK (.int 5)) pNil)) (pK (.int 2))) (pCons (pK (.int 1)) pNil))) (pCons (pTup (pCons (pBin fAdd (pK (.int 1)) (pCallP "pool" sp_law_draw (pCons (pK (.int 3)) pNil))) (pCons (pK (.int 1)) pNil))) pNil)))) pNil)) pNil))))
    (pSeq (pAssign "inner" (pCall sp_fat (pCons (pVar "f") (pCons (pCall sp_fat (pCons (pVar "line") (pCons (pVar "x") pNil))) pNil))))
    (pSeq (pStIf (pAnd (pCmpN fIsNot "inner" (pK .none)) (pAnd (pNot (pT (pCall sp_law_same (pCons (pVar "inner") (pCons (pCall sp_fat (pCons (pCall sp_fcompose (pCons (pVar "f") (pCons (pVar "line") pNil))) (pCons (pVar "x") pNil))) pNil))))) (pBool true))) (pSeq (pRet (pK (.bool false)))
    pEnd) pEnd)
    (pSeq (pTry (pCons (pVar "f") (pCons (pCall sp_fsub (pCons (pVar "g") (pCons (pVar "g") pNil))) pNil)) cDiv (pB (pCmp fEq (pCall sp_fdiv (pCons (pK (.tup [.lst [rt 1 1], .lst [rt 1 1]])) (pCons (pCall sp_fmake (pCons (pFr (pDisp (pCons (pTup (pCons (pK (.int 2)) (pCons (pK (.int 1)) pNil))) (pCons (pTup (pCons (pK (.int 1)) (pCons (pK (.int 1)) pNil))) pNil)))) (pCons (pFr (pDisp (pCons (pTup (pCons (pK (.int 2)) (pCons (pK (.int 1)) pNil))) (pCons (pTup (pCons (pK (.int 1)) (pCons (pK (.int 1)) pNil))) pNil)))) pNil))) pNil))) (pK (.tup [.lst [rt 1 1], .lst [rt 1 1]])))))
    (pSeq (pRet (pK (.bool false)))
    pEnd)))))))))))))))
noncomputable def sp_law := run ["script"] p_law
section
variable {mg mb mN : Str → Option Value} {hb : Heap} {C N fI : Addr} {nm q₀ : Str} {bs : List Value} {sn : List Str} {sub : List Value} {ab : Bool} {col : Option Bool} {dd : Option Addr} {k0 k1 k2 k3 k5 : Option Value} {pm cd : Value} {ofn : Obj}
set_option maxHeartbeats 8000000 in
theorem law_walk (cl : Cls hb mg mb C N fI mN nm q₀ bs sn sub ab col dd k0 k1 k2 k3 k5 pm cd ofn) (w : World) (A : Around) (B : Addr → Obj → Prop) (L a : Addr) (cd₁ : Value) (g : G mg mb 11 ⟨w, A, hb, B, [], envOfC (recAt 54).name (recAt 54).scope L a cd₁⟩) (hh : A.handled = none) (hfr : A.frames = some [envOfC (recAt 54).name (recAt 54).scope L a cd₁]) :
    SSV ⟨w, A, hb, B, [], envOfC (recAt 54).name (recAt 54).scope L a cd₁⟩ (recAt 54).body p_law :=
      have sn_a : SN (envOfC (recAt 54).name (recAt 54).scope L a cd₁) "a" := SN.of (by kernel_rfl) g.en.k (by decide +kernel)
      have sn_at : SN (envOfC (recAt 54).name (recAt 54).scope L a cd₁) "at" := SN.of (by kernel_rfl) g.en.k (by decide +kernel)
      have sn_b : SN (envOfC (recAt 54).name (recAt 54).scope L a cd₁) "b" := SN.of (by kernel_rfl) g.en.k (by decide +kernel)
      have sn_due : SN (envOfC (recAt 54).name (recAt 54).scope L a cd₁) "due" := SN.of (by kernel_rfl) g.en.k (by decide +kernel)
      have sn_f : SN (envOfC (recAt 54).name (recAt 54).scope L a cd₁) "f" := SN.of (by kernel_rfl) g.en.k (by decide +kernel)
      have sn_g : SN (envOfC (recAt 54).name (recAt 54).scope L a cd₁) "g" := SN.of (by kernel_rfl) g.en.k (by decide +kernel)
      have sn_inner : SN (envOfC (recAt 54).name (recAt 54).scope L a cd₁) "inner" := SN.of (by kernel_rfl) g.en.k (by decide +kernel)
      have sn_less : SN (envOfC (recAt 54).name (recAt 54).scope L a cd₁) "less" := SN.of (by kernel_rfl) g.en.k (by decide +kernel)
      have sn_line : SN (envOfC (recAt 54).name (recAt 54).scope L a cd₁) "line" := SN.of (by kernel_rfl) g.en.k (by decide +kernel)
      have sn_n : SN (envOfC (recAt 54).name (recAt 54).scope L a cd₁) "n" := SN.of (by kernel_rfl) g.en.k (by decide +kernel)
      have sn_pairs : SN (envOfC (recAt 54).name (recAt 54).scope L a cd₁) "pairs" := SN.of (by kernel_rfl) g.en.k (by decide +kernel)
      have sn_pool : SN (envOfC (recAt 54).name (recAt 54).scope L a cd₁) "pool" := SN.of (by kernel_rfl) g.en.k (by decide +kernel)
      have sn_product : SN (envOfC (recAt 54).name (recAt 54).scope L a cd₁) "product" := SN.of (by kernel_rfl) g.en.k (by decide +kernel)
      have sn_rest : SN (envOfC (recAt 54).name (recAt 54).scope L a cd₁) "rest" := SN.of (by kernel_rfl) g.en.k (by decide +kernel)
      have sn_script : SN (envOfC (recAt 54).name (recAt 54).scope L a cd₁) "script" := SN.of (by kernel_rfl) g.en.k (by decide +kernel)
      have sn_total : SN (envOfC (recAt 54).name (recAt 54).scope L a cd₁) "total" := SN.of (by kernel_rfl) g.en.k (by decide +kernel)
      have sn_whole : SN (envOfC (recAt 54).name (recAt 54).scope L a cd₁) "whole" := SN.of (by kernel_rfl) g.en.k (by decide +kernel)
      have sn_x : SN (envOfC (recAt 54).name (recAt 54).scope L a cd₁) "x" := SN.of (by kernel_rfl) g.en.k (by decide +kernel)
      have sn_refused : SN (envOfC (recAt 54).name (recAt 54).scope L a cd₁) "refused" := SN.of (by kernel_rfl) g.en.k (by decide +kernel)
      (ssv_cons (sv_assign_comp sn_script (cl := []) (vis := []) ⟨by kernel_rfl, by kernel_rfl, by decide +kernel, by decide +kernel, by decide +kernel, by decide +kernel, by kernel_rfl, (fun _ _ h => by cases h), (fun y hy => by cases hy)⟩ (iv_list g.ok (ev_upto ev_name ev_int)) (fun C B X₀ => by exact ctv_cc g (by kernel_rfl) (fun g => ctv_nil)) (fun C B X₀ => by exact ev_cc g (by kernel_rfl) (fun g => (ev_int_of (G.nvb g (x := "int") (v := .type "int") (by decide +kernel) (by kernel_rfl) (by kernel_rfl) (by decide +kernel) (by decide +kernel)) ev_name))) (by kernel_rfl))
      (ssv_cons (sv_assign_own sn_pool (fv_list (lv_cons (ev_bin op_mod (ev_call1_name (G.nvb g (x := "sum") (v := .builtin "sum") (by decide +kernel) (by kernel_rfl) (by kernel_rfl) (by decide +kernel) (by decide +kernel)) (un_sum hh)) ev_int) (lv_cons ev_name (lv_cons ev_int lv_nil)))))
      (ssv_cons (sv_assign sn_pairs (ev_fresh (fv_list (lv_cons (ev_callP (fn_law_pair g.base) g.ok (by decide) (fun _ hv => g.nv hv (by kernel_rfl) (by decide +kernel)) lv_nil) (lv_cons (ev_callP (fn_law_pair g.base) g.ok (by decide) (fun _ hv => g.nv hv (by kernel_rfl) (by decide +kernel)) lv_nil) lv_nil)))))
      (ssv_cons (sv_unpL (xs := ["f", "g"]) hh (.name sn_f (.name sn_g .nil)) (by kernel_rfl) (ev_fresh (fv_comp (cl := []) (vis := []) ⟨by kernel_rfl, by kernel_rfl, by decide +kernel, by decide +kernel, by decide +kernel, by decide +kernel, by kernel_rfl, (fun _ _ h => by cases h), (fun y hy => by cases hy)⟩ (iv_list g.ok ev_name) (fun C B X₀ => by exact ctv_cc g (by kernel_rfl) (fun g => ctv_nil)) (fun C B X₀ => by exact ev_cc g (by kernel_rfl) (fun g => (g.call (fn_fmake g.base) (by decide) (by kernel_rfl) (by decide +kernel) (lv_cons (ev_sub_name ev_int) (lv_cons (ev_sub_name ev_int) lv_nil))))))) (by kernel_rfl) (by kernel_rfl) (by kernel_rfl))
      (ssv_cons (sv_unp (xs := ["total", "less", "product", "n"]) g.ok (.name sn_total (.name sn_less (.name sn_product (.name sn_n .nil)))) (by kernel_rfl) (ev_tuple (lv_cons (g.call (fn_fadd g.base) (by decide) (by kernel_rfl) (by decide +kernel) (lv_cons ev_name (lv_cons ev_name lv_nil))) (lv_cons (g.call (fn_fsub g.base) (by decide) (by kernel_rfl) (by decide +kernel) (lv_cons ev_name (lv_cons ev_name lv_nil))) (lv_cons (g.call (fn_fmul g.base) (by decide) (by kernel_rfl) (by decide +kernel) (lv_cons ev_name (lv_cons ev_name lv_nil))) (lv_cons (ev_bin op_sub (ev_callP (fn_law_draw g.base) g.ok (by decide) (fun _ hv => g.nv hv (by kernel_rfl) (by decide +kernel)) (lv_cons ev_int lv_nil)) ev_int) lv_nil))))) (by kernel_rfl) (by kernel_rfl) (by kernel_rfl))
      (ssv_cons (sv_if (tv_cmp (cm_ne g.ok) (ev_fresh (fv_comp (cl := []) (vis := []) ⟨by kernel_rfl, by kernel_rfl, by decide +kernel, by decide +kernel, by decide +kernel, by decide +kernel, by kernel_rfl, (fun _ _ h => by cases h), (fun y hy => by cases hy)⟩ (iv_tuple g.ok (ev_tuple (lv_cons ev_name (lv_cons ev_name (lv_cons ev_name (lv_cons ev_name (lv_cons ev_name lv_nil))))))) (fun C B X₀ => by exact ctv_cc g (by kernel_rfl) (fun g => (ctv_one (tv_not (tv_val (g.call (fn_law_is_made g.base) (by decide) (by kernel_rfl) (by decide +kernel) (lv_cons ev_name lv_nil))))))) (fun C B X₀ => by exact ev_cc g (by kernel_rfl) (fun g => ev_int)))) (ev_fresh (fv_list lv_nil))) (ssv_cons (sv_ret ev_bool)
      ssv_nil) ssv_nil)
      (ssv_cons (sv_if (tv_bool (av_or (tv_cmp (cm_ne g.ok) (g.call (fn_fsub g.base) (by decide) (by kernel_rfl) (by decide +kernel) (lv_cons ev_name (lv_cons ev_name lv_nil))) (g.tree (x := "F0") (d := .tup [.lst [], .lst [rt 1 1]]) (by simp [gtrees]) (by kernel_rfl) (by decide +kernel))) (av_or (tv_cmp (cm_ne g.ok) (g.call (fn_fadd g.base) (by decide) (by kernel_rfl) (by decide +kernel) (lv_cons ev_name (lv_cons (g.call (fn_fneg g.base) (by decide) (by kernel_rfl) (by decide +kernel) (lv_cons ev_name lv_nil)) lv_nil))) (g.tree (x := "F0") (d := .tup [.lst [], .lst [rt 1 1]]) (by simp [gtrees]) (by kernel_rfl) (by decide +kernel))) (av_or (tv_cmp (cm_ne g.ok) (g.call (fn_fadd g.base) (by decide) (by kernel_rfl) (by decide +kernel) (lv_cons ev_name (lv_cons ev_name lv_nil))) ev_name) (av_or (tv_cmp (cm_ne g.ok) (g.call (fn_fmul g.base) (by decide) (by kernel_rfl) (by decide +kernel) (lv_cons ev_name (lv_cons (g.tree (x := "F1") (d := .tup [.lst [rt 1 1], .lst [rt 1 1]]) (by simp [gtrees]) (by kernel_rfl) (by decide +kernel)) lv_nil))) ev_name) av_or_nil))))) (ssv_cons (sv_ret ev_bool)
      ssv_nil) ssv_nil)
      (ssv_cons (sv_unp (xs := ["whole", "rest"]) g.ok (.name sn_whole (.name sn_rest .nil)) (by kernel_rfl) (g.call (fn_fsplit g.base) (by decide) (by kernel_rfl) (by decide +kernel) (lv_cons ev_name lv_nil)) (by kernel_rfl) (by kernel_rfl) (by kernel_rfl))
      (ssv_cons (sv_if (tv_bool (av_or (tv_cmp (cm_ne g.ok) (g.call (fn_fadd g.base) (by decide) (by kernel_rfl) (by decide +kernel) (lv_cons (g.call (fn_fpoly g.base) (by decide) (by kernel_rfl) (by decide +kernel) (lv_cons ev_name lv_nil)) (lv_cons ev_name lv_nil))) ev_name) (av_or (tv_bool (av_and (tv_cmp cm_ge (ev_call1 (G.nvb g (x := "len") (v := .builtin "len") (by decide +kernel) (by kernel_rfl) (by kernel_rfl) (by decide +kernel) (by decide +kernel)) un_len (ev_sub_name ev_int)) (ev_call1 (G.nvb g (x := "len") (v := .builtin "len") (by decide +kernel) (by kernel_rfl) (by kernel_rfl) (by decide +kernel) (by decide +kernel)) un_len (ev_sub_name ev_int))) (av_and (tv_cmp_name (cm_ne g.ok) (g.tree (x := "F0") (d := .tup [.lst [], .lst [rt 1 1]]) (by simp [gtrees]) (by kernel_rfl) (by decide +kernel))) av_and_nil))) av_or_nil))) (ssv_cons (sv_ret ev_bool)
      ssv_nil) ssv_nil)
      (ssv_cons (sv_for sn_at (iv_range g.ok (G.nvb g (x := "range") (v := .type "range") (by decide +kernel) (by kernel_rfl) (by kernel_rfl) (by decide +kernel) (by decide +kernel)) ev_int) (fun B => have g := G.withB g B; (ssv_cons (sv_assign sn_x (g.call (fn_rat g.base) (by decide) (by kernel_rfl) (by decide +kernel) (lv_cons (ev_bin op_sub (ev_callP (fn_law_draw g.base) g.ok (by decide) (fun _ hv => g.nv hv (by kernel_rfl) (by decide +kernel)) (lv_cons ev_int lv_nil)) ev_int) (lv_cons (ev_bin op_add ev_int (ev_callP (fn_law_draw g.base) g.ok (by decide) (fun _ hv => g.nv hv (by kernel_rfl) (by decide +kernel)) (lv_cons ev_int lv_nil))) lv_nil))))
      (ssv_cons (sv_unpR (names := [Str.ofString "a", Str.ofString "b"]) g.ok (.bind sn_b (.bind sn_a .nil)) (by rfl) (ev_tuple (lv_cons (g.call (fn_law_at g.base) (by decide) (by kernel_rfl) (by decide +kernel) (lv_cons (ev_sub_name ev_int) (lv_cons ev_name lv_nil))) (lv_cons (g.call (fn_law_at g.base) (by decide) (by kernel_rfl) (by decide +kernel) (lv_cons (ev_sub_name ev_int) (lv_cons ev_name lv_nil))) lv_nil))) (by kernel_rfl) (by kernel_rfl))
      (ssv_cons (sv_if (tv_bool (av_or (tv_cmp_name cm_is ev_none) (av_or (tv_cmp_name cm_is ev_none) av_or_nil))) (ssv_cons sv_cont
      ssv_nil) ssv_nil)
      (ssv_cons (sv_if (tv_bool (av_or (tv_not (tv_val (g.call (fn_law_is_value g.base) (by decide) (by kernel_rfl) (by decide +kernel) (lv_cons ev_name (lv_cons ev_name (lv_cons (ev_tuple (lv_cons (ev_bin op_add (ev_bin op_mul (ev_sub_name ev_int) (ev_sub_name ev_int)) (ev_bin op_mul (ev_sub_name ev_int) (ev_sub_name ev_int))) (lv_cons (ev_bin op_mul (ev_sub_name ev_int) (ev_sub_name ev_int)) lv_nil))) lv_nil)))))) (av_or (tv_not (tv_val (g.call (fn_law_is_value g.base) (by decide) (by kernel_rfl) (by decide +kernel) (lv_cons ev_name (lv_cons ev_name (lv_cons ev_name lv_nil)))))) av_or_nil))) (ssv_cons (sv_ret ev_bool)
      ssv_nil) ssv_nil)
      (ssv_cons (sv_if (tv_bool (av_or (tv_not (tv_val (g.call (fn_law_is_value g.base) (by decide) (by kernel_rfl) (by decide +kernel) (lv_cons ev_name (lv_cons ev_name (lv_cons (ev_tuple (lv_cons (ev_bin op_mul (ev_sub_name ev_int) (ev_sub_name ev_int)) (lv_cons (ev_bin op_mul (ev_sub_name ev_int) (ev_sub_name ev_int)) lv_nil))) lv_nil)))))) (av_or (tv_not (tv_val (g.call (fn_law_is_value g.base) (by decide) (by kernel_rfl) (by decide +kernel) (lv_cons (g.call (fn_fscale g.base) (by decide) (by kernel_rfl) (by decide +kernel) (lv_cons ev_name (lv_cons (ev_tuple (lv_cons ev_int (lv_cons ev_int lv_nil))) lv_nil))) (lv_cons ev_name (lv_cons (ev_tuple (lv_cons (ev_bin op_mul ev_int (ev_sub_name ev_int)) (lv_cons (ev_bin op_mul ev_int (ev_sub_name ev_int)) lv_nil))) lv_nil)))))) av_or_nil))) (ssv_cons (sv_ret ev_bool)
      ssv_nil) ssv_nil)
      (ssv_cons (sv_if (tv_bool (av_and (tv_cmp_name (cm_ne g.ok) (g.tree (x := "F0") (d := .tup [.lst [], .lst [rt 1 1]]) (by simp [gtrees]) (by kernel_rfl) (by decide +kernel))) (av_and (tv_cmp (cm_ne g.ok) (ev_sub_name ev_int) ev_int) (av_and (tv_not (tv_val (g.call (fn_law_is_value g.base) (by decide) (by kernel_rfl) (by decide +kernel) (lv_cons (g.call (fn_fdiv g.base) (by decide) (by kernel_rfl) (by decide +kernel) (lv_cons ev_name (lv_cons ev_name lv_nil))) (lv_cons ev_name (lv_cons (ev_tuple (lv_cons (ev_bin op_mul (ev_sub_name ev_int) (ev_sub_name ev_int)) (lv_cons (ev_bin op_mul (ev_sub_name ev_int) (ev_sub_name ev_int)) lv_nil))) lv_nil)))))) av_and_nil)))) (ssv_cons (sv_ret ev_bool)
      ssv_nil) ssv_nil)
      (ssv_cons (sv_if (tv_bool (av_and (tv_bool (av_or (tv_cmp_name cm_ge ev_int) (av_or (tv_cmp_name (cm_ne g.ok) (g.tree (x := "F0") (d := .tup [.lst [], .lst [rt 1 1]]) (by simp [gtrees]) (by kernel_rfl) (by decide +kernel))) av_or_nil))) (av_and (tv_cmp (cm_ne g.ok) (ev_sub_name ev_int) ev_int) av_and_nil))) (ssv_cons (sv_assign sn_due (ev_if (tv_cmp_name cm_ge ev_int) (ev_tuple (lv_cons (ev_bin op_pow (ev_sub_name ev_int) ev_name) (lv_cons (ev_bin op_pow (ev_sub_name ev_int) ev_name) lv_nil))) (ev_tuple (lv_cons (ev_bin op_pow (ev_sub_name ev_int) (ev_neg ev_name)) (lv_cons (ev_bin op_pow (ev_sub_name ev_int) (ev_neg ev_name)) lv_nil)))))
      (ssv_cons (sv_if (tv_not (tv_val (g.call (fn_law_is_value g.base) (by decide) (by kernel_rfl) (by decide +kernel) (lv_cons (g.call (fn_fpower g.base) (by decide) (by kernel_rfl) (by decide +kernel) (lv_cons ev_name (lv_cons ev_name lv_nil))) (lv_cons ev_name (lv_cons ev_name lv_nil)))))) (ssv_cons (sv_ret ev_bool)
      ssv_nil) ssv_nil)
      ssv_nil)) ssv_nil)
      ssv_nil)))))))))
      (ssv_cons (sv_unpR (names := [Str.ofString "x", Str.ofString "line"]) g.ok (.bind sn_line (.bind sn_x .nil)) (by rfl) (ev_tuple (lv_cons (g.call (fn_rat g.base) (by decide) (by kernel_rfl) (by decide +kernel) (lv_cons (ev_bin op_sub (ev_callP (fn_law_draw g.base) g.ok (by decide) (fun _ hv => g.nv hv (by kernel_rfl) (by decide +kernel)) (lv_cons ev_int lv_nil)) ev_int) (lv_cons ev_int lv_nil))) (lv_cons (g.call (fn_fpoly g.base) (by decide) (by kernel_rfl) (by decide +kernel) (lv_cons (ev_fresh (fv_list (lv_cons (ev_tuple (lv_cons (ev_bin op_sub (ev_callP (fn_law_draw g.base) g.ok (by decide) (fun _ hv => g.nv hv (by kernel_rfl) (by decide +kernel)) (lv_cons ev_int lv_nil)) ev_int) (lv_cons ev_int lv_nil))) (lv_cons (ev_tuple (lv_cons (ev_bin op_add ev_int (ev_callP (fn_law_draw g.base) g.ok (by decide) (fun _ hv => g.nv hv (by kernel_rfl) (by decide +kernel)) (lv_cons ev_int lv_nil))) (lv_cons ev_int lv_nil))) lv_nil)))) lv_nil)) lv_nil))) (by kernel_rfl) (by kernel_rfl))
      (ssv_cons (sv_assign sn_inner (g.call (fn_fat g.base) (by decide) (by kernel_rfl) (by decide +kernel) (lv_cons ev_name (lv_cons (g.call (fn_fat g.base) (by decide) (by kernel_rfl) (by decide +kernel) (lv_cons ev_name (lv_cons ev_name lv_nil))) lv_nil))))
      (ssv_cons (sv_if (tv_bool (av_and (tv_cmp_name cm_isNot ev_none) (av_and (tv_not (tv_val (g.call (fn_law_same g.base) (by decide) (by kernel_rfl) (by decide +kernel) (lv_cons ev_name (lv_cons (g.call (fn_fat g.base) (by decide) (by kernel_rfl) (by decide +kernel) (lv_cons (g.call (fn_fcompose g.base) (by decide) (by kernel_rfl) (by decide +kernel) (lv_cons ev_name (lv_cons ev_name lv_nil))) (lv_cons ev_name lv_nil))) lv_nil))))) av_and_nil))) (ssv_cons (sv_ret ev_bool)
      ssv_nil) ssv_nil)
      (ssv_cons (sv_try g cl (fdiv_X g.base cl) (by decide) hh hfr rfl rfl sn_refused (by kernel_rfl) (by decide +kernel) (by kernel_rfl) (fun B => have g := G.withB g B; (lv_cons ev_name (lv_cons (g.call (fn_fsub g.base) (by decide) (by kernel_rfl) (by decide +kernel) (lv_cons ev_name (lv_cons ev_name lv_nil))) lv_nil))) (fun c' hc g => by obtain ⟨w', A', hb', B', X', env'⟩ := c'; dsimp only at hc; subst hc; exact (ev_cmp (cm_eq g.ok) (g.call (fn_fdiv g.base) (by decide) (by kernel_rfl) (by decide +kernel) (lv_cons (g.tree (x := "F1") (d := .tup [.lst [rt 1 1], .lst [rt 1 1]]) (by simp [gtrees]) (by kernel_rfl) (by decide +kernel)) (lv_cons (g.call (fn_fmake g.base) (by decide) (by kernel_rfl) (by decide +kernel) (lv_cons (ev_fresh (fv_list (lv_cons (ev_tuple (lv_cons ev_int (lv_cons ev_int lv_nil))) (lv_cons (ev_tuple (lv_cons ev_int (lv_cons ev_int lv_nil))) lv_nil)))) (lv_cons (ev_fresh (fv_list (lv_cons (ev_tuple (lv_cons ev_int (lv_cons ev_int lv_nil))) (lv_cons (ev_tuple (lv_cons ev_int (lv_cons ev_int lv_nil))) lv_nil)))) lv_nil))) lv_nil))) (g.tree (x := "F1") (d := .tup [.lst [rt 1 1], .lst [rt 1 1]]) (by simp [gtrees]) (by kernel_rfl) (by decide +kernel)))) (by rfl) (by kernel_rfl))
      (ssv_cons (sv_ret ev_bool)
      ssv_nil)))))))))))))))
end
end NN
end

section
open PySem PySem.W PyProof.Rows PySem.Calls PySem.Spec
open Sem (wp)
set_option Elab.async false
set_option autoImplicit false
set_option maxRecDepth 100000

namespace NN
theorem ns_of {K : Frag} {h : Heap} {N : Addr} {mg : Str → Option Value} {n : Str} {r : Option Value} (X : K.In h) (G : h.Ns N mg) (e : nsIn K N n = some r) : mg n = r := by
  cases r with
  | none => exact ns_none_of X G e
  | some v =>
    obtain ⟨o, es, ep, ho, hd, _, hf⟩ := G
    unfold nsIn at e
    split at e
    · rename_i c d es' n' sl q
      have := X _ _ q
      rw [ho] at this
      cases this
      cases hd
      split at e
      · rename_i en he
        cases e
        rw [← hf]
        unfold nsFind findBy
        rw [← Array.find?_toList, he]
        rfl
      · split at e <;> cases e
    · cases e

/-- what the head's written part must say, all by evaluation -/
structure KOk (K : Frag) : Prop where
  r0 : nsIn K mainGlobals "R0" = some (some (.ref 42))
  r1 : nsIn K mainGlobals "R1" = some (some (.ref 43))
  f0 : nsIn K mainGlobals "F0" = some (some (.ref 173))
  f1 : nsIn K mainGlobals "F1" = some (some (.ref 176))
  o42 : K.lookup 42 = some { cls := .type "tuple", data := .seq #[.int 0 232, .int 1 233] }
  o43 : K.lookup 43 = some { cls := .type "tuple", data := .seq #[.int 1 235, .int 1 236] }
  o171 : K.lookup 171 = some { cls := .type "list", data := .seq #[] }
  o172 : K.lookup 172 = some { cls := .type "list", data := .seq #[.ref 43] }
  o173 : K.lookup 173 = some { cls := .type "tuple", data := .seq #[.ref 171, .ref 172] }
  o174 : K.lookup 174 = some { cls := .type "list", data := .seq #[.ref 43] }
  o175 : K.lookup 175 = some { cls := .type "list", data := .seq #[.ref 43] }
  o176 : K.lookup 176 = some { cls := .type "tuple", data := .seq #[.ref 174, .ref 175] }
  names : (bnames.all fun x => nsIn K mainGlobals (Str.ofString x) == some none) = true
  fail : nsIn K mainGlobals "CasFail" = some (some (.ref 31))
  o31 : K.lookup 31 = some (excClassObj "CasFail" "CasFail" 31 30 [.type "Exception"] bmE true [] [] false none none (some (.ref 15)) none (some (.str "CasFail" 189)) (some (.str "CasFail" 197)) (some (.bool true)) "Exception.__new__")
  n30 : nsOkIn K 30 = true
  init : nsIn K 30 "__init__" = some (some (.ref 28))
  sa : nsIn K 30 "__setattr__" = some none
  ga : nsIn K 30 "__getattribute__" = some none
  gt : nsIn K 30 "__getattr__" = some none
  kind : nsIn K 30 "kind" = some none
  text : nsIn K 30 "text" = some none
  o28 : K.lookup 28 = some { cls := .type "function", data := .func (fnX "__init__" "CasFail.__init__" initRec.params initRec.body initRec.scope [] .none .none .none (.str "cas.errors" 187) none (.ref 27) .none) }
  c27 : codeIn K (.ref 27) "CasFail.__init__" = true

section
variable {K : Frag} {h : Heap} {mg mb : Str → Option Value} {p : Program} {loose : List Str} {mean : ExcName → Option Value}
theorem KOk.rt (k : KOk K) (X : K.In h) : Rep [] h (.ref 42) (rt 0 1) ∧ Rep [] h (.ref 43) (rt 1 1) := by
  constructor
  · simp only [NN.rt, Rep, RepL]
    exact ⟨42, [.int 0 232, .int 1 233], rfl, List.not_mem_nil, ⟨_, X _ _ k.o42, rfl, 0, rfl⟩, ⟨_, rfl⟩, ⟨_, rfl⟩, trivial⟩
  · simp only [NN.rt, Rep, RepL]
    exact ⟨43, [.int 1 235, .int 1 236], rfl, List.not_mem_nil, ⟨_, X _ _ k.o43, rfl, 0, rfl⟩, ⟨_, rfl⟩, ⟨_, rfl⟩, trivial⟩

theorem KOk.base (k : KOk K) (X : K.In h) (T : Top p loose mean mg mb h) (hrecs : recsOf p = recsOf pw) (himp : importsNone p = true) : Base mg mb h where
  g := T.g
  b := T.b
  lim := T.nolimit
  seer := T.seer himp
  fn := hrecs ▸ T.fn
  free := fun y hy => by
    have := List.all_eq_true.mp k.names y hy
    exact ns_of X T.g (beq_iff_eq.mp this)
  boot := T.builtins
  tree := fun q hq => by
    obtain ⟨r0, r1⟩ := k.rt X
    simp only [gtrees, List.mem_cons, List.not_mem_nil, or_false] at hq
    rcases hq with rfl | rfl | rfl | rfl
    · exact ⟨_, ns_of X T.g k.r0, r0⟩
    · exact ⟨_, ns_of X T.g k.r1, r1⟩
    · refine ⟨_, ns_of X T.g k.f0, ?_⟩
      simp only [Rep, RepL]
      exact ⟨173, [.ref 171, .ref 172], rfl, List.not_mem_nil, ⟨_, X _ _ k.o173, rfl, 0, rfl⟩, ⟨171, [], rfl, List.not_mem_nil, ⟨_, X _ _ k.o171, rfl, 0, rfl⟩, trivial⟩,
        ⟨172, [.ref 43], rfl, List.not_mem_nil, ⟨_, X _ _ k.o172, rfl, 0, rfl⟩, r1, trivial⟩, trivial⟩
    · refine ⟨_, ns_of X T.g k.f1, ?_⟩
      simp only [Rep, RepL]
      exact ⟨176, [.ref 174, .ref 175], rfl, List.not_mem_nil, ⟨_, X _ _ k.o176, rfl, 0, rfl⟩, ⟨174, [.ref 43], rfl, List.not_mem_nil, ⟨_, X _ _ k.o174, rfl, 0, rfl⟩, r1, trivial⟩,
        ⟨175, [.ref 43], rfl, List.not_mem_nil, ⟨_, X _ _ k.o175, rfl, 0, rfl⟩, r1, trivial⟩, trivial⟩

theorem KOk.cls (k : KOk K) (X : K.In h) (T : Top p loose mean mg mb h) :
    Cls h mg mb 31 30 28 (h.nsMap 30) "CasFail" "CasFail" [.type "Exception"] [] [] false none none (some (.ref 15)) none (some (.str "CasFail" 189)) (some (.str "CasFail" 197)) (some (.bool true)) (.str "cas.errors" 187) (.ref 27) { cls := .type "function", data := .func (fnX "__init__" "CasFail.__init__" initRec.params initRec.body initRec.scope [] .none .none .none (.str "cas.errors" 187) none (.ref 27) .none) } := by
  have N : h.Ns 30 (h.nsMap 30) := .of_isNs (isNs_of_in X k.n30)
  exact {
    g := T.g
    b := T.b
    lim := T.nolimit
    exn := ns_of X T.g (beq_iff_eq.mp (List.all_eq_true.mp k.names "Exception" (by decide)))
    exb := (T.builtins _ (by decide +kernel)).trans (by kernel_rfl)
    nameC := ns_of X T.g k.fail
    cls := X _ _ k.o31
    ns := N
    init := ns_of X N k.init
    sa := ns_of X N k.sa
    ga := ns_of X N k.ga
    gt := ns_of X N k.gt
    kind := ns_of X N k.kind
    text := ns_of X N k.text
    fn := X _ _ k.o28
    fnc := rfl
    fnd := rfl
    code := codeRec_of X k.c27 }
end

section
variable {mg mb mN : Str → Option Value} {C N fI : Addr} {nm q₀ : Str} {bs : List Value} {sn : List Str} {sub : List Value} {ab : Bool} {col : Option Bool} {dd : Option Addr} {k0 k1 k2 k3 k5 : Option Value} {pm cd : Value} {ofn : Obj}

theorem law_enter {s : Shared} {w : World} (Bs : Base mg mb s.heap) (cl : Cls s.heap mg mb C N fI mN nm q₀ bs sn sub ab col dd k0 k1 k2 k3 k5 pm cd ofn) {fa : Addr} (hfa : mg "law" = some (.ref fa)) {v : Value} {x d : PV} (r : Rep [] s.heap v x) (hrun : sp_law [x] = some d)
    {Q : Value → Shared → Prop} {E : Value → Shared → Prop} (hQ : ∀ v h' tk, Kp [] s.heap h' → Rep [] h' v d → Q v { s with heap := h', toks := tk }) : wpAny (model pw w) callerA (call (.ref fa) [v]) Q E s := by
  have hd : recAt 54 ∈ recsOf pw := mem_rec (by decide)
  have hnm : (recAt 54).name = Str.ofString "law" := by kernel_rfl
  obtain ⟨fa', o, pm', code, doc, h1, h2, h3, h4⟩ := Bs.fn _ hd
  rw [hnm] at h1
  rw [show mg (Str.ofString "law") = _ from hfa] at h1
  cases h1
  unfold sp_law run at hrun
  split at hrun
  · split at hrun
    · rename_i r' ps' e
      obtain rfl := Option.some.inj hrun
      have hk : (recAt 54).scope.kind = .function := by kernel_rfl
      have hgen : (recAt 54).scope.isGenerator = false := by kernel_rfl
      have hco : (recAt 54).scope.isCoroutine = false := by kernel_rfl
      have hloc : (recAt 54).scope.names.lookup (Str.ofString "script") = some .local := by kernel_rfl
      refine wpAny_call (call_cells_ret (name := (recAt 54).name) (binds := [(Str.ofString "script", v)]) (by decide +kernel) h2 h3 Bs.lim h4 (by kernel_rfl) ?_ ?_ hco hgen hk)
      · intro y hy
        obtain rfl := List.mem_singleton.mp hy
        exact .inl hloc
      · intro h₁ tk F X'
        have old : Kp [] s.heap h₁ := Kp.of fun b o e => F.keep b o e
        have nL : s.heap.get? s.heap.objs.size = none := size_none _
        have g : G mg mb 11 ⟨w, callerA.deeper (envOfC (recAt 54).name (recAt 54).scope s.heap.objs.size fa code), s.heap, fun a o => s.heap.get? a = some o, [], envOfC (recAt 54).name (recAt 54).scope s.heap.objs.size fa code⟩ := {
          base := Bs
          en := ⟨rfl, rfl, hk⟩
          ok := ⟨.inl rfl, (show 1 + claimMargin + 1 + 11 + 150 < recursionLimit by decide +kernel), (show 4 + 3 + 10 * 11 + 100 < cLine by decide +kernel), ⟨_, [], rfl, hgen, hco, rfl, rfl⟩, Bs.lim, Bs.seer⟩ }
        have i : Inv s.heap (fun a o => s.heap.get? a = some o) [] (envOfC (recAt 54).name (recAt 54).scope s.heap.objs.size fa code) h₁ (args ["script"] [x]) [] := {
          base := fun a o e => F.keep a o e
          top := fun _ _ e => e
          offB := fun o e => by have e2 : s.heap.get? s.heap.objs.size = some o := e; rw [nL] at e2; cases e2
          offX := List.not_mem_nil
          offC := fun y c e => by
            have hab := X'.above y c (mem_of_lookup e)
            exact ⟨List.not_mem_nil, Nat.ne_of_gt hab, _, X'.cell y c e⟩
          ns := ⟨_, F.ns⟩
          x0 := fun _ m => m
          mark := fun a m => by cases m
          xB := fun a m => by cases m
          offH := fun a m => by cases m
          frz := fun y dd e _ _ => by
            simp only [args, List.zip_cons_cons, List.zip_nil_right, List.lookup_cons, List.lookup_nil] at e
            split at e
            · rename_i q
              cases e
              rw [eq_of_beq q]
              exact ⟨v, ⟨hk, by decide +kernel, .inl ⟨hloc, _, F.ns, bindL_get hloc (by simp) (by simp)⟩⟩, r.kp old.nil⟩
            · cases e
          own := fun y e => by cases e
          par := fun y e => by cases e }
        refine law_walk cl w _ _ _ _ _ g rfl rfl { s with heap := h₁, toks := tk } [] _ (.ret _) ps' _ _ i e fun fl h' tk' X'' i'' fr => ?_
        cases fl with
        | ret v => exact hQ v h' tk' (Kp.of fun b o e => i''.base b o e) fr
        | _ => cases fr
    · cases hrun
  · cases hrun
end
end NN
end

section
open PySem PySem.W PyProof.Rows PySem.Calls PySem.Spec
set_option Elab.async false
set_option maxRecDepth 100000
set_option maxHeartbeats 8000000
namespace NN
/-- what is held of the top: the module's names, the exception class and the four constants -/
noncomputable def KK (P : Params) : Frag :=
  [(3, { cls := Value.type "dict", data := Data.dict #[{ hash := PyData.keyHash P (Str.ofString "__name__"), key := Value.str (Str.ofString "__name__") 165, val := Value.str (Str.ofString "law_nn0267_01") 517 }, { hash := PyData.keyHash P (Str.ofString "__doc__"), key := Value.str (Str.ofString "__doc__") 166, val := Value.none }, { hash := PyData.keyHash P (Str.ofString "__package__"), key := Value.str (Str.ofString "__package__") 167, val := Value.none }, { hash := PyData.keyHash P (Str.ofString "__loader__"), key := Value.str (Str.ofString "__loader__") 168, val := Value.builtin "__main__.__loader__#opaque" }, { hash := PyData.keyHash P (Str.ofString "__spec__"), key := Value.str (Str.ofString "__spec__") 169, val := Value.none }, { hash := PyData.keyHash P (Str.ofString "__annotations__"), key := Value.str (Str.ofString "__annotations__") 170, val := Value.ref 6 }, { hash := PyData.keyHash P (Str.ofString "__builtins__"), key := Value.str (Str.ofString "__builtins__") 171, val := Value.ref 4 }, { hash := PyData.keyHash P (Str.ofString "__file__"), key := Value.str (Str.ofString "__file__") 173, val := Value.str (Str.ofString "/claim/cut.py") 172 }, { hash := PyData.keyHash P (Str.ofString "__cached__"), key := Value.str (Str.ofString "__cached__") 174, val := Value.none }, { hash := PyData.keyHash P (Str.ofString "CasFail"), key := Value.str (Str.ofString "CasFail") 219, val := Value.ref 31 }, { hash := PyData.keyHash P (Str.ofString "gcd"), key := Value.str (Str.ofString "gcd") 229, val := Value.ref 41 }, { hash := PyData.keyHash P (Str.ofString "R0"), key := Value.str (Str.ofString "R0") 234, val := Value.ref 42 }, { hash := PyData.keyHash P (Str.ofString "R1"), key := Value.str (Str.ofString "R1") 237, val := Value.ref 43 }, { hash := PyData.keyHash P (Str.ofString "rat"), key := Value.str (Str.ofString "rat") 246, val := Value.ref 50 }, { hash := PyData.keyHash P (Str.ofString "radd"), key := Value.str (Str.ofString "radd") 254, val := Value.ref 57 }, { hash := PyData.keyHash P (Str.ofString "rmul"), key := Value.str (Str.ofString "rmul") 262, val := Value.ref 64 }, { hash := PyData.keyHash P (Str.ofString "rdiv"), key := Value.str (Str.ofString "rdiv") 270, val := Value.ref 71 }, { hash := PyData.keyHash P (Str.ofString "rneg"), key := Value.str (Str.ofString "rneg") 277, val := Value.ref 78 }, { hash := PyData.keyHash P (Str.ofString "rinv"), key := Value.str (Str.ofString "rinv") 284, val := Value.ref 85 }, { hash := PyData.keyHash P (Str.ofString "qtrim"), key := Value.str (Str.ofString "qtrim") 294, val := Value.ref 92 }, { hash := PyData.keyHash P (Str.ofString "qdegree"), key := Value.str (Str.ofString "qdegree") 301, val := Value.ref 99 }, { hash := PyData.keyHash P (Str.ofString "qlead"), key := Value.str (Str.ofString "qlead") 308, val := Value.ref 106 }, { hash := PyData.keyHash P (Str.ofString "qadd"), key := Value.str (Str.ofString "qadd") 314, val := Value.ref 111 }, { hash := PyData.keyHash P (Str.ofString "qneg"), key := Value.str (Str.ofString "qneg") 320, val := Value.ref 116 }, { hash := PyData.keyHash P (Str.ofString "qsub"), key := Value.str (Str.ofString "qsub") 328, val := Value.ref 123 }, { hash := PyData.keyHash P (Str.ofString "qscale"), key := Value.str (Str.ofString "qscale") 334, val := Value.ref 128 }, { hash := PyData.keyHash P (Str.ofString "qraise"), key := Value.str (Str.ofString "qraise") 342, val := Value.ref 135 }, { hash := PyData.keyHash P (Str.ofString "qmul"), key := Value.str (Str.ofString "qmul") 355, val := Value.ref 142 }, { hash := PyData.keyHash P (Str.ofString "qdivmod"), key := Value.str (Str.ofString "qdivmod") 368, val := Value.ref 149 }, { hash := PyData.keyHash P (Str.ofString "qmonic"), key := Value.str (Str.ofString "qmonic") 375, val := Value.ref 156 }, { hash := PyData.keyHash P (Str.ofString "qgcd"), key := Value.str (Str.ofString "qgcd") 383, val := Value.ref 163 }, { hash := PyData.keyHash P (Str.ofString "qat"), key := Value.str (Str.ofString "qat") 393, val := Value.ref 170 }, { hash := PyData.keyHash P (Str.ofString "F0"), key := Value.str (Str.ofString "F0") 396, val := Value.ref 173 }, { hash := PyData.keyHash P (Str.ofString "F1"), key := Value.str (Str.ofString "F1") 397, val := Value.ref 176 }, { hash := PyData.keyHash P (Str.ofString "fmake"), key := Value.str (Str.ofString "fmake") 407, val := Value.ref 183 }, { hash := PyData.keyHash P (Str.ofString "fpoly"), key := Value.str (Str.ofString "fpoly") 414, val := Value.ref 190 }, { hash := PyData.keyHash P (Str.ofString "fnumber"), key := Value.str (Str.ofString "fnumber") 421, val := Value.ref 197 }, { hash := PyData.keyHash P (Str.ofString "fadd"), key := Value.str (Str.ofString "fadd") 429, val := Value.ref 204 }, { hash := PyData.keyHash P (Str.ofString "fneg"), key := Value.str (Str.ofString "fneg") 436, val := Value.ref 211 }, { hash := PyData.keyHash P (Str.ofString "fsub"), key := Value.str (Str.ofString "fsub") 444, val := Value.ref 218 }, { hash := PyData.keyHash P (Str.ofString "fmul"), key := Value.str (Str.ofString "fmul") 452, val := Value.ref 225 }, { hash := PyData.keyHash P (Str.ofString "finv"), key := Value.str (Str.ofString "finv") 459, val := Value.ref 232 }, { hash := PyData.keyHash P (Str.ofString "fdiv"), key := Value.str (Str.ofString "fdiv") 467, val := Value.ref 239 }, { hash := PyData.keyHash P (Str.ofString "fscale"), key := Value.str (Str.ofString "fscale") 475, val := Value.ref 246 }, { hash := PyData.keyHash P (Str.ofString "fpower"), key := Value.str (Str.ofString "fpower") 486, val := Value.ref 253 }, { hash := PyData.keyHash P (Str.ofString "fat"), key := Value.str (Str.ofString "fat") 495, val := Value.ref 260 }, { hash := PyData.keyHash P (Str.ofString "fcompose"), key := Value.str (Str.ofString "fcompose") 507, val := Value.ref 267 }, { hash := PyData.keyHash P (Str.ofString "fsplit"), key := Value.str (Str.ofString "fsplit") 516, val := Value.ref 274 }, { hash := PyData.keyHash P (Str.ofString "_law_draw"), key := Value.str (Str.ofString "_law_draw") 528, val := Value.ref 281 }, { hash := PyData.keyHash P (Str.ofString "_law_poly"), key := Value.str (Str.ofString "_law_poly") 538, val := Value.ref 288 }, { hash := PyData.keyHash P (Str.ofString "_law_value"), key := Value.str (Str.ofString "_law_value") 552, val := Value.ref 295 }, { hash := PyData.keyHash P (Str.ofString "_law_same"), key := Value.str (Str.ofString "_law_same") 560, val := Value.ref 302 }, { hash := PyData.keyHash P (Str.ofString "_law_grown"), key := Value.str (Str.ofString "_law_grown") 566, val := Value.ref 307 }, { hash := PyData.keyHash P (Str.ofString "_law_pair"), key := Value.str (Str.ofString "_law_pair") 576, val := Value.ref 314 }, { hash := PyData.keyHash P (Str.ofString "_law_at"), key := Value.str (Str.ofString "_law_at") 586, val := Value.ref 321 }, { hash := PyData.keyHash P (Str.ofString "_law_is_made"), key := Value.str (Str.ofString "_law_is_made") 593, val := Value.ref 328 }, { hash := PyData.keyHash P (Str.ofString "_law_is_value"), key := Value.str (Str.ofString "_law_is_value") 603, val := Value.ref 335 }, { hash := PyData.keyHash P (Str.ofString "law"), key := Value.str (Str.ofString "law") 609, val := Value.ref 340 }] 58 }),
   (27, { cls := Value.type "code", data := Data.fields #[Value.str (Str.ofString "__init__") 201, Value.str (Str.ofString "CasFail.__init__") 202, Value.str (Str.ofString "/claim/cut.py") 203, Value.int 4 0, Value.int 3 0, Value.int 0 0, Value.int 0 0, Value.int 3 0, Value.ref 22, Value.bool Bool.true, Value.int 181 0, Value.ref 23, Value.none, Value.ref 24, Value.ref 25, Value.ref 26, Value.int 207 0, Value.int 4 0, Value.str (Str.ofString "/claim/cut.py") 208] }),
   (28, { cls := .type "function", data := .func (fnX "__init__" "CasFail.__init__" initRec.params initRec.body initRec.scope [] .none .none .none (.str "cas.errors" 187) none (.ref 27) .none) }),
   (30, { cls := Value.type "dict", data := Data.dict #[{ hash := PyData.keyHash P (Str.ofString "__module__"), key := Value.str (Str.ofString "__module__") 196, val := Value.str (Str.ofString "cas.errors") 187 }, { hash := PyData.keyHash P (Str.ofString "__firstlineno__"), key := Value.str (Str.ofString "__firstlineno__") 200, val := Value.int 2 199 }, { hash := PyData.keyHash P (Str.ofString "__init__"), key := Value.str (Str.ofString "__init__") 209, val := Value.ref 28 }, { hash := PyData.keyHash P (Str.ofString "__static_attributes__"), key := Value.str (Str.ofString "__static_attributes__") 212, val := Value.ref 29 }, { hash := PyData.keyHash P (Str.ofString "__weakref__"), key := Value.str (Str.ofString "__weakref__") 214, val := Value.ref 32 }, { hash := PyData.keyHash P (Str.ofString "__doc__"), key := Value.str (Str.ofString "__doc__") 215, val := Value.none }] 3 }),
   (31, excClassObj "CasFail" "CasFail" 31 30 [.type "Exception"] bmE true [] [] false none none (some (.ref 15)) none (some (.str "CasFail" 189)) (some (.str "CasFail" 197)) (some (.bool true)) "Exception.__new__"),
   (42, { cls := .type "tuple", data := .seq #[.int 0 232, .int 1 233] }),
   (43, { cls := .type "tuple", data := .seq #[.int 1 235, .int 1 236] }),
   (171, { cls := .type "list", data := .seq #[] }),
   (172, { cls := .type "list", data := .seq #[.ref 43] }),
   (173, { cls := .type "tuple", data := .seq #[.ref 171, .ref 172] }),
   (174, { cls := .type "list", data := .seq #[.ref 43] }),
   (175, { cls := .type "list", data := .seq #[.ref 43] }),
   (176, { cls := .type "tuple", data := .seq #[.ref 174, .ref 175] })]
noncomputable def KA : List Addr := [3, 27, 28, 30, 31, 42, 43, 171, 172, 173, 174, 175, 176]
noncomputable def KH : Hook := kHook KK KA (fun _ => rfl)
noncomputable def keptQ : List Nat := [1, 3, 5, 6, 7, 8, 9, 10, 11, 12, 14, 15, 16, 17, 18, 19, 20, 21, 22, 23, 24, 25, 26, 28, 29, 30, 31, 32, 33, 34, 35, 36, 37, 38, 39, 40, 41, 42, 43, 45, 46, 47, 48, 49, 50, 51, 52, 53, 54]
noncomputable def viewQ : Program := { pw with main := { pw.main with body := keptQ.filterMap fun i => pw.main.body[i]? } }
noncomputable def looseQ : List Str := ["F0", "F1"]
noncomputable abbrev rowQ : RowW := OpenRow.toRowW PySem.Challenge.rw_nn0267_01.row
theorem said : (PySem.Challenge.rw_nn0267_01 : OpenLaw).wellSaid = true := by
  unfold OpenLaw.wellSaid OpenRow.wellSaid OpenRow.partSaid looksOpen
  simp only [Bool.and_eq_true]
  repeat' apply And.intro
  all_goals (as_aux_lemma => ((try rw [Fast.te8179353310426384613]); (try rw [Fast.te8326940854005059898]); (try rw [Fast.te9558739934217749035]); (try rw [Fast.te16286561074155671207]); (try rw [Fast.te797321630700447069]); (try rw [Fast.te6984425678791042302]); (try rw [Fast.te17119622794617984870]); (try rw [Fast.te10792542408131684335]); (try rw [Fast.te9572597257264208301]); (try rw [Fast.te10501279942588096481]); (try rw [Fast.te12879404354523853263]); (try rw [Fast.te11788848310118352699]); (try rw [Fast.te8377067652309620493]); (try rw [Fast.te17868728402115742887]); (try rw [Fast.te13343964577679436407]); (try rw [Fast.te18344453789297297638]); (try rw [Fast.te5923862056798008813]); (try rw [Fast.te12862048085361865435]); (try rw [Fast.te9807087744658564304]); (try rw [Fast.te13582783067957832011]); kernel_rfl))
theorem q_recs : recsOf viewQ = idxs.map recAt := by (try rw [Fast.te3399658132070893891]); kernel_rfl
theorem q_drecs : drecsOf viewQ = [] := by (try rw [Fast.te3247288618530077131]); kernel_rfl
theorem q_plains : plainsOf viewQ (looseW viewQ looseQ) = [] := by (try rw [Fast.te210736558901404530]); (try rw [Fast.te821141287760084731]); kernel_rfl
theorem q_dclss : dclssOf viewQ looseQ = [] := by (try rw [Fast.te4354255287344443571]); kernel_rfl
theorem q_wdefs : wdefsOf viewQ = [] := by (try rw [Fast.te694669760492028198]); kernel_rfl
theorem q_wclss : wclssOf viewQ looseQ = [] := by (try rw [Fast.te1571739515156823405]); kernel_rfl
theorem q_owns : ownsOf viewQ = [] := by (try rw [Fast.te5991557255702980513]); kernel_rfl
theorem q_lits : litsOf viewQ = [] := by (try rw [Fast.te7409074990110511671]); kernel_rfl
theorem left : LeftO rowQ.prog viewQ looseQ (fun s => xlAt viewQ [] s && recOk (RowW.records rowQ) s) (Hook.obs KH) (Hook.val KH) 3470 := fun w => by
  unfold openEnds fencedOpening topFrom openSeen openGood expectedOf tabsOk pinSeenD plainSeenE plainSeenD wideSeen clsSeenW pinGoodD plainGoodE plainGoodD wideGood clsGoodW
  rw [q_drecs, q_recs, q_plains, q_dclss, q_wdefs, q_wclss, q_owns, q_lits]
  simp only [List.map_nil, List.all_nil, if_true, Bool.true_and]
  (try rw [Fast.te14364793385576792824]); (try rw [Fast.te10274390034422433532]); (try rw [Fast.te1435165496053646825]); (try rw [Fast.te14289696077712309145]); (try rw [Fast.te14082659384304107361])
  (try rw [Fast.te5160383126252970620]); (try rw [Fast.te11925523677476243305]); (try rw [Fast.te1696807537771891022]); (try rw [Fast.te10880121769531294198]); (try rw [Fast.te14722251495701143533]); (try rw [Fast.te10994771534591457954]); (try rw [Fast.te5930804224584009831]); (try rw [Fast.te5244371056499926238]); (try rw [Fast.te2578726214315757710]); (try rw [Fast.te2458874890965802552]); (try rw [Fast.te9649274521512697073]); (try rw [Fast.te821141287760084731]); (try rw [Fast.te13664370479719496447]); (try rw [Fast.te5923862056798008813])
  kernel_rfl
end NN
end

section
open PySem PySem.W PyProof.Rows PySem.Calls PySem.Spec
set_option Elab.async false
set_option autoImplicit false
set_option maxRecDepth 10000
set_option linter.unusedSimpArgs false
set_option linter.unusedVariables false

namespace NN
theorem eqv_int (a b : Int) : PyData.eqv (.int a) (.int b) = decide (a = b) := by
  simp [PyData.eqv]; rfl
theorem small_int (a : Int) : small (.int a) = true := by simp [small, PV.py, PyData.canLay0, PyData.depth]
theorem fNe_int (a b : Int) : fNe (.int a) (.int b) = some (!decide (a = b)) := by
  unfold fNe
  rw [small_int, small_int]
  simp [PV.py, eqv_int]
theorem fEq_int (a b : Int) : fEq (.int a) (.int b) = some (decide (a = b)) := by
  unfold fEq
  rw [small_int, small_int]
  simp [PV.py, eqv_int]

/-! gcd -/
theorem gcd_loop : ∀ (n : Nat) (a b : Nat) (ps : PS), b < n → ps.own = none → ps.par = none → ps.loc "a" = some (.int a) → ps.loc "b" = some (.int b) →
    ∃ ps', pWh (pCmpN fNe "b" (pK (.int 0))) (pSeq (pUnpR ["a", "b"] (pTup (pCons (pVar "b") (pCons (pBin fMod (pVar "a") (pVar "b")) pNil)))) pEnd) ps = some (.next, ps') ∧ ps'.own = none ∧ ps'.par = none ∧ ps'.loc "a" = some (.int (Nat.gcd a b)) := by
  intro n
  induction n with
  | zero => intro a b ps h; omega
  | succ n ih =>
    intro a b ps hb h1 h2 h3 h4
    by_cases h0 : b = 0
    · subst h0
      refine ⟨ps, pWh_stop ?_, h1, h2, by simp [h3]⟩
      simp [pCmpN, h4, pK, fNe_int]
    · have ht : pCmpN fNe "b" (pK (.int 0)) ps = some (true, ps) := by
        simp [pCmpN, h4, pK, fNe_int, h0]
      have hm : ((a : Int).fmod b) = ((a % b : Nat) : Int) := by
        rw [Int.fmod_eq_emod_of_nonneg _ (by omega)]; rfl
      obtain ⟨ps', e1, e2, e3, e4⟩ := ih b (a % b) ((ps.set "b" (.int ((a % b : Nat) : Int))).set "a" (.int b)) (by have := Nat.mod_lt a (Nat.pos_of_ne_zero h0); omega) (by simp [PS.set, h1]) (by simp [PS.set, h2]) (by simp [PS.set]) (by simp [PS.set])
      refine ⟨ps', pWh_turn ht ?_ e1, e2, e3, ?_⟩
      · simp [List.length_cons, List.length_nil, pSeq, pEnd, pVar, pBin, pTup, pCons, pNil, pPut, PS.set, pUnpR, pPuts, reduceCtorEq, or_self, List.reverse_cons, List.reverse_nil, List.nil_append, List.cons_append, ↓reduceIte, Nat.reduceAdd, Nat.reduceLeDiff, Nat.zero_add, Option.map, Option.bind, h1, h2, h3, h4, fMod, h0, hm]
      · rw [e4, Nat.gcd_comm a b, Nat.gcd_rec b a, Nat.gcd_comm]
theorem run_of {xs : List String} {p : PSt} {ds : List PV} {d : PV} {ps : PS} (hl : ds.length = xs.length) (h : p (args xs ds) = some (.ret d, ps)) : run xs p ds = some d := by
  unfold run; rw [if_pos hl, h]
theorem seq_next {p q : PSt} {ps ps₁ : PS} {r : Option (PF × PS)} (h : p ps = some (.next, ps₁)) (h2 : q ps₁ = r) : pSeq p q ps = r := by unfold pSeq; rw [h]; exact h2
theorem seq_ret {p q : PSt} {ps ps₁ : PS} {d : PV} (h : p ps = some (.ret d, ps₁)) : pSeq p q ps = some (.ret d, ps₁) := by unfold pSeq; rw [h]
theorem ret_of {p : PE PV} {ps ps₁ : PS} {d : PV} (h : p ps.freeze = some (d, ps₁)) : pRet p ps = some (.ret d, ps₁) := by unfold pRet; rw [h]; rfl
theorem fAbs_int (a : Int) : fAbs (.int a) = some (.int a.natAbs) := by
  show some (PV.int (if a < 0 then -a else a)) = _
  have : (if a < 0 then -a else a) = (a.natAbs : Int) := by split <;> omega
  rw [this]
theorem loc_set (ps : PS) (x y : String) (d : PV) : (ps.set x d).loc y = if y = x then some d else ps.loc y := rfl
theorem own_set (ps : PS) (x : String) (d : PV) : (ps.set x d).own = ps.own := rfl
theorem par_set (ps : PS) (x : String) (d : PV) : (ps.set x d).par = ps.par := rfl
theorem loc_freeze (ps : PS) (y : String) : ps.freeze.loc y = ps.loc y := rfl
theorem own_freeze (ps : PS) : ps.freeze.own = none := rfl
theorem par_freeze (ps : PS) : ps.freeze.par = ps.par := rfl
theorem loc_args (xs : List String) (ds : List PV) (y : String) : (args xs ds).loc y = (xs.zip ds).lookup y := rfl
theorem own_args (xs : List String) (ds : List PV) : (args xs ds).own = none := rfl
theorem par_args (xs : List String) (ds : List PV) : (args xs ds).par = none := rfl
theorem gcd_run (a b : Int) : sp_gcd [.int a, .int b] = some (.int (Int.gcd a b)) := by
  obtain ⟨ps', e1, e2, e3, e4⟩ := gcd_loop (b.natAbs + 1) a.natAbs b.natAbs (((args ["a", "b"] [.int a, .int b]).set "b" (.int b.natAbs)).set "a" (.int a.natAbs)) (by omega) rfl rfl (by simp [loc_set]) (by simp [loc_set])
  refine run_of rfl (seq_next (ps₁ := ((args ["a", "b"] [.int a, .int b]).set "b" (.int b.natAbs)).set "a" (.int a.natAbs)) ?_ (seq_next e1 (seq_ret (ret_of (ps₁ := ps'.freeze) ?_))))
  · simp only [List.zip, List.zipWith, List.lookup_cons, List.length_cons, List.length_nil, pUnN, pTup, pCons, pNil, pPut, pUnpR, pPuts, reduceCtorEq, String.reduceBEq, beq_self_eq_true, or_self, List.reverse_cons, List.reverse_nil, List.nil_append, List.cons_append, ↓reduceIte, Nat.reduceAdd, Nat.reduceLeDiff, Nat.zero_add, Option.map, Option.bind, own_set, par_set, loc_args, own_args, par_args, fAbs_int]
  · simp only [pVar, reduceCtorEq, or_self, ↓reduceIte, Option.map, loc_freeze, own_freeze, par_freeze, e3, e4, Int.gcd]
end NN
end

section
open PySem PySem.W PyProof.Rows PySem.Calls PySem.Spec PySem.Builtin.Int
set_option Elab.async false
set_option autoImplicit false
set_option maxRecDepth 10000
set_option linter.unusedSimpArgs false
set_option linter.unusedVariables false

namespace NN
noncomputable def rv (q : Rat) : PV := rt q.num q.den
noncomputable def Sz (s : Nat) (q : Rat) : Prop := q.num.natAbs ≤ 2 ^ s ∧ q.den ≤ 2 ^ s
theorem rv_rt (q : Rat) : rv q = .tup [.int q.num, .int q.den] := rfl
theorem natabs_den (q : Rat) : (q.den : Int).natAbs = q.den := rfl
theorem intBits_le {a : Int} {s : Nat} (h : a.natAbs ≤ 2 ^ s) : intBits a ≤ s + 1 := by
  unfold intBits
  split
  · omega
  · rename_i h0
    have hz : a.natAbs ≠ 0 := by
      intro e; apply h0; rw [Int.natAbs_eq_zero.mp e]; rfl
    have : a.natAbs.log2 < s + 1 := (Nat.log2_lt hz).mpr (by rw [Nat.pow_succ]; have := Nat.two_pow_pos s; omega)
    omega
theorem mul_ok {a b : Int} {s t : Nat} (ha : a.natAbs ≤ 2 ^ s) (hb : b.natAbs ≤ 2 ^ t) (h : s + t ≤ 2 ^ 26) : IntMulOk a b :=
  IntMulOk.of_le (intBits_le ha) (intBits_le hb) (by omega)
theorem fMul_ok {a b : Int} {s t : Nat} (ha : a.natAbs ≤ 2 ^ s) (hb : b.natAbs ≤ 2 ^ t) (h : s + t ≤ 2 ^ 26) : fMul (.int a) (.int b) = some (.int (a * b)) := by
  unfold fMul
  simp only [mul_ok ha hb h, if_true]

theorem Sz.mono {s t : Nat} {q : Rat} (h : Sz s q) (hst : s ≤ t) : Sz t q :=
  ⟨Nat.le_trans h.1 (Nat.pow_le_pow_right (by omega) hst), Nat.le_trans h.2 (Nat.pow_le_pow_right (by omega) hst)⟩
theorem sz_divInt {t b : Int} {s : Nat} (hb : b ≠ 0) (h1 : t.natAbs ≤ 2 ^ s) (h2 : b.natAbs ≤ 2 ^ s) : Sz s (Rat.divInt t b) := by
  obtain ⟨m, hm, e1, e2⟩ := Rat.divInt_num_den (n := t) (d := b) (n' := (Rat.divInt t b).num) (d' := (Rat.divInt t b).den) (z' := (Rat.divInt t b).den_nz) (c := (Rat.divInt t b).reduced) hb rfl
  have m1 : 1 ≤ m.natAbs := by omega
  constructor
  · refine Nat.le_trans ?_ h1
    rw [congrArg Int.natAbs e1, Int.natAbs_mul]
    exact Nat.le_mul_of_pos_right _ m1
  · refine Nat.le_trans ?_ h2
    rw [congrArg Int.natAbs e2, Int.natAbs_mul]
    exact Nat.le_mul_of_pos_right _ m1
theorem sz_zero : Sz 0 0 := by constructor <;> decide
theorem sz_one : Sz 0 1 := by constructor <;> decide
theorem pow_mul_le {a b s t : Nat} (ha : a ≤ 2 ^ s) (hb : b ≤ 2 ^ t) : a * b ≤ 2 ^ (s + t) := by
  rw [Nat.pow_add]; exact Nat.mul_le_mul ha hb
theorem add_eq_divInt (x y : Rat) : x + y = Rat.divInt (x.num * y.den + y.num * x.den) ((x.den : Int) * y.den) := by
  rw [Rat.add_def', ← Rat.divInt_ofNat]; rfl
theorem mul_eq_divInt (x y : Rat) : x * y = Rat.divInt (x.num * y.num) ((x.den : Int) * y.den) := by
  rw [Rat.mul_def', ← Rat.divInt_ofNat]; rfl
theorem den_ne (x y : Rat) : (x.den : Int) * y.den ≠ 0 := by
  have := x.den_nz; have := y.den_nz
  intro h
  rcases Int.mul_eq_zero.mp h with h | h <;> omega
theorem div_eq_divInt (x y : Rat) : x / y = Rat.divInt (x.num * y.den) ((x.den : Int) * y.num) := by
  rw [Rat.div_def, Rat.inv_def, ← Rat.num_divInt_den x, Rat.divInt_mul_divInt, Rat.num_divInt_den]
theorem Sz.add {s t : Nat} {x y : Rat} (hx : Sz s x) (hy : Sz t y) : Sz (s + t + 1) (x + y) := by
  rw [add_eq_divInt]
  refine sz_divInt (den_ne x y) ?_ ?_
  · refine Nat.le_trans (Int.natAbs_add_le _ _) ?_
    rw [Int.natAbs_mul, Int.natAbs_mul, natabs_den, natabs_den, Nat.pow_succ]
    have := pow_mul_le hx.1 hy.2
    have := pow_mul_le hy.1 hx.2
    rw [Nat.add_comm] at this
    omega
  · rw [Int.natAbs_mul, natabs_den, natabs_den]
    exact Nat.le_trans (pow_mul_le hx.2 hy.2) (Nat.pow_le_pow_right (by omega) (by omega))
theorem Sz.mul {s t : Nat} {x y : Rat} (hx : Sz s x) (hy : Sz t y) : Sz (s + t) (x * y) := by
  rw [mul_eq_divInt]
  refine sz_divInt (den_ne x y) ?_ ?_
  · rw [Int.natAbs_mul]; exact pow_mul_le hx.1 hy.1
  · rw [Int.natAbs_mul]; exact pow_mul_le hx.2 hy.2
theorem Sz.neg {s : Nat} {x : Rat} (hx : Sz s x) : Sz s (-x) := by
  unfold Sz at *
  rw [Rat.neg_num, Rat.neg_den, Int.natAbs_neg]
  exact hx
theorem Sz.inv {s : Nat} {x : Rat} (hx : Sz s x) : Sz s x⁻¹ := by
  by_cases h : x = 0
  · subst h; rw [Rat.inv_zero]; exact sz_zero.mono (by omega)
  · rw [Rat.inv_def]
    exact sz_divInt (by simpa using h) hx.2 hx.1
theorem Sz.div {s t : Nat} {x y : Rat} (hx : Sz s x) (hy : Sz t y) : Sz (s + t) (x / y) := by
  rw [Rat.div_def]; exact hx.mul hy.inv
theorem Sz.sub {s t : Nat} {x y : Rat} (hx : Sz s x) (hy : Sz t y) : Sz (s + t + 1) (x - y) := by
  rw [Rat.sub_eq_add_neg]; exact hx.add hy.neg

theorem fEq_ne {a : Int} (h : a ≠ 0) : fEq (.int a) (.int 0) = some false := by simp [fEq_int, h]
theorem fDiv_int {i j : Int} (h : j ≠ 0) : fDiv (.int i) (.int j) = some (.int (i.fdiv j)) := by simp only [fDiv, h, if_false]
theorem rat_run (t b : Int) (hb : b ≠ 0) : sp_rat [.int t, .int b] = some (rv (Rat.divInt t b)) := by
  have hg : ((Int.gcd t b : Nat) : Int) ≠ 0 := by
    intro h; exact hb (Int.gcd_eq_zero_iff.mp (Int.ofNat_eq_zero.mp h)).2
  have hg' : (0 : Int) - ((Int.gcd t b : Nat) : Int) ≠ 0 := by omega
  have d1 : ((Int.gcd t b : Nat) : Int) ∣ t := Int.gcd_dvd_left ..
  have d2 : ((Int.gcd t b : Nat) : Int) ∣ b := Int.gcd_dvd_right ..
  by_cases h : 0 < b
  · have key : rv (Rat.divInt t b) = rt (t.fdiv (Int.gcd t b)) (b.fdiv (Int.gcd t b)) := by
      unfold rv
      rw [Rat.num_divInt, Rat.den_divInt, if_neg hb, Int.sign_eq_one_of_pos h, Int.one_mul, Int.gcd_comm b t, Int.fdiv_eq_ediv_of_dvd d1, Int.fdiv_eq_ediv_of_dvd d2]
      congr 1
      rw [Int.natCast_ediv, Int.natAbs_of_nonneg (by omega)]
    refine run_of rfl (seq_next (ps₁ := (args ["top", "bottom"] [.int t, .int b])) ?_ (seq_next (ps₁ := (args ["top", "bottom"] [.int t, .int b]).set "g" (.int (Int.gcd t b))) ?_ (seq_ret (ret_of (ps₁ := ((args ["top", "bottom"] [.int t, .int b]).set "g" (.int (Int.gcd t b))).freeze) ?_))))
    · simp only [List.zip, List.zipWith, List.lookup_cons, pEnd, pStIf, pCmpN, pK, Option.isSome_some, String.reduceBEq, beq_self_eq_true, ↓reduceIte, Option.map, Option.bind, loc_args, fEq_ne hb]
    · simp only [List.zip, List.zipWith, List.lookup_cons, pIf, pCmpN, pK, pVar, pCons, pNil, pCall, pAssign, pPut, Option.isSome_some, reduceCtorEq, String.reduceBEq, beq_self_eq_true, or_self, ↓reduceIte, Option.map, Option.bind, loc_args, own_args, par_args, gcd_run, fGt, h, decide_true]
    · simp only [List.zip, List.zipWith, List.lookup_cons, List.length_cons, List.length_nil, pVar, pBin, pTup, pCons, pNil, reduceCtorEq, String.reduceEq, String.reduceBEq, beq_self_eq_true, or_self, ↓reduceIte, Nat.reduceAdd, Nat.reduceLeDiff, Nat.zero_add, Option.map, loc_set, par_set, loc_freeze, own_freeze, par_freeze, loc_args, par_args, fDiv_int hg, key, rt]
  · have hn : b < 0 := by omega
    have key : rv (Rat.divInt t b) = rt (t.fdiv (0 - Int.gcd t b)) (b.fdiv (0 - Int.gcd t b)) := by
      unfold rv
      rw [Rat.num_divInt, Rat.den_divInt, if_neg hb, Int.sign_eq_neg_one_of_neg hn, Int.gcd_comm b t, Int.zero_sub, Int.fdiv_eq_ediv_of_dvd (Int.neg_dvd.mpr d1), Int.fdiv_eq_ediv_of_dvd (Int.neg_dvd.mpr d2), Int.ediv_neg, Int.ediv_neg]
      congr 1
      · rw [Int.neg_one_mul, Int.neg_ediv_of_dvd d1]
      · rw [Int.natCast_ediv, Int.ofNat_natAbs_of_nonpos (by omega), Int.neg_ediv_of_dvd d2]
    refine run_of rfl (seq_next (ps₁ := (args ["top", "bottom"] [.int t, .int b])) ?_ (seq_next (ps₁ := (args ["top", "bottom"] [.int t, .int b]).set "g" (.int (0 - Int.gcd t b))) ?_ (seq_ret (ret_of (ps₁ := ((args ["top", "bottom"] [.int t, .int b]).set "g" (.int (0 - Int.gcd t b))).freeze) ?_))))
    · simp only [List.zip, List.zipWith, List.lookup_cons, pEnd, pStIf, pCmpN, pK, Option.isSome_some, String.reduceBEq, beq_self_eq_true, ↓reduceIte, Option.map, Option.bind, loc_args, fEq_ne hb]
    · simp only [List.zip, List.zipWith, List.lookup_cons, pIf, pCmpN, pK, pVar, pBin, pCons, pNil, pCall, pAssign, pPut, fSub, Option.isSome_some, reduceCtorEq, String.reduceBEq, beq_self_eq_true, or_self, ↓reduceIte, Option.map, Option.bind, loc_args, own_args, par_args, gcd_run, fGt, h, decide_false]
    · simp only [List.zip, List.zipWith, List.lookup_cons, List.length_cons, List.length_nil, pVar, pBin, pTup, pCons, pNil, reduceCtorEq, String.reduceEq, String.reduceBEq, beq_self_eq_true, or_self, ↓reduceIte, Nat.reduceAdd, Nat.reduceLeDiff, Nat.zero_add, Option.map, loc_set, par_set, loc_freeze, own_freeze, par_freeze, loc_args, par_args, fDiv_int hg', key, rt]

/-! the arithmetic of the pairs -/
theorem pick0 (a b : Int) : pick (rt a b) 0 = some (.int a) := rfl
theorem pick1 (a b : Int) : pick (rt a b) 1 = some (.int b) := rfl
theorem radd_run {s t : Nat} {x y : Rat} (hx : Sz s x) (hy : Sz t y) (h : s + t ≤ 2 ^ 26) : sp_radd [rv x, rv y] = some (rv (x + y)) := by
  rw [add_eq_divInt]
  refine run_of rfl (seq_ret (ret_of (ps₁ := (args ["a", "b"] [rv x, rv y]).freeze) ?_))
  have e1 := fMul_ok hx.1 (show (y.den : Int).natAbs ≤ _ from hy.2) h
  have e2 := fMul_ok hy.1 (show (x.den : Int).natAbs ≤ _ from hx.2) (by omega)
  have e3 := fMul_ok (show (x.den : Int).natAbs ≤ _ from hx.2) (show (y.den : Int).natAbs ≤ _ from hy.2) h
  simp only [List.zip, List.zipWith, List.lookup_cons, pK, pSubN, pBin, pCons, pNil, pCall, fAdd, Option.isSome_some, String.reduceBEq, beq_self_eq_true, ↓reduceIte, Option.map, Option.bind, loc_freeze, loc_args, rv, pick0, pick1, e1, e2, e3]
  rw [rat_run _ _ (den_ne x y)]; rfl
theorem rmul_run {s t : Nat} {x y : Rat} (hx : Sz s x) (hy : Sz t y) (h : s + t ≤ 2 ^ 26) : sp_rmul [rv x, rv y] = some (rv (x * y)) := by
  rw [mul_eq_divInt]
  refine run_of rfl (seq_ret (ret_of (ps₁ := (args ["a", "b"] [rv x, rv y]).freeze) ?_))
  have e1 := fMul_ok hx.1 hy.1 h
  have e3 := fMul_ok (show (x.den : Int).natAbs ≤ _ from hx.2) (show (y.den : Int).natAbs ≤ _ from hy.2) h
  simp only [List.zip, List.zipWith, List.lookup_cons, pK, pSubN, pBin, pCons, pNil, pCall, Option.isSome_some, String.reduceBEq, beq_self_eq_true, ↓reduceIte, Option.map, Option.bind, loc_freeze, loc_args, rv, pick0, pick1, e1, e3]
  rw [rat_run _ _ (den_ne x y)]; rfl
theorem den_num_ne (x y : Rat) (h : y ≠ 0) : (x.den : Int) * y.num ≠ 0 := by
  have := x.den_nz
  intro h'
  rcases Int.mul_eq_zero.mp h' with h' | h'
  · omega
  · exact h (Rat.num_eq_zero.mp h')
theorem rdiv_run {s t : Nat} {x y : Rat} (hx : Sz s x) (hy : Sz t y) (h0 : y ≠ 0) (h : s + t ≤ 2 ^ 26) : sp_rdiv [rv x, rv y] = some (rv (x / y)) := by
  rw [div_eq_divInt]
  refine run_of rfl (seq_ret (ret_of (ps₁ := (args ["a", "b"] [rv x, rv y]).freeze) ?_))
  have e1 := fMul_ok hx.1 (show (y.den : Int).natAbs ≤ _ from hy.2) h
  have e3 := fMul_ok (show (x.den : Int).natAbs ≤ _ from hx.2) hy.1 h
  simp only [List.zip, List.zipWith, List.lookup_cons, pK, pSubN, pBin, pCons, pNil, pCall, Option.isSome_some, String.reduceBEq, beq_self_eq_true, ↓reduceIte, Option.map, Option.bind, loc_freeze, loc_args, rv, pick0, pick1, e1, e3]
  rw [rat_run _ _ (den_num_ne x y h0)]; rfl
theorem rneg_run (x : Rat) : sp_rneg [rv x] = some (rv (-x)) := by
  refine run_of rfl (seq_ret (ret_of (ps₁ := (args ["a"] [rv x]).freeze) ?_))
  simp only [List.zip, List.zipWith, List.lookup_cons, List.length_cons, List.length_nil, pK, pSubN, pBin, pTup, pCons, pNil, fSub, Option.isSome_some, beq_self_eq_true, Option.some.injEq, ↓reduceIte, Nat.reduceAdd, Nat.reduceLeDiff, Nat.zero_add, Option.map, Option.bind, loc_freeze, loc_args, rv, pick0, pick1, Rat.neg_num, Rat.neg_den, Int.zero_sub]
  rfl
theorem rinv_run (x : Rat) (h0 : x ≠ 0) : sp_rinv [rv x] = some (rv x⁻¹) := by
  have h1 : x.num ≠ 0 := fun h => h0 (Rat.num_eq_zero.mp h)
  rw [Rat.inv_def]
  refine run_of rfl (seq_ret (ret_of (ps₁ := (args ["a"] [rv x]).freeze) ?_))
  simp only [List.zip, List.zipWith, List.lookup_cons, pK, pSubN, pCons, pNil, pCall, Option.isSome_some, beq_self_eq_true, ↓reduceIte, Option.map, Option.bind, loc_freeze, loc_args, rv, pick0, pick1]
  rw [rat_run _ _ h1, rv]
end NN
end

section
set_option Elab.async false
set_option autoImplicit false
set_option linter.unusedSimpArgs false
set_option linter.unusedVariables false
namespace NN
noncomputable def ev : List Rat → Rat → Rat
  | [], _ => 0
  | c :: p, x => c + x * ev p x
noncomputable def cf : List Rat → Nat → Rat
  | [], _ => 0
  | c :: _, 0 => c
  | _ :: p, i + 1 => cf p i
noncomputable def Tr (p : List Rat) : Prop := ∀ n, p.length = n + 1 → cf p n ≠ 0
noncomputable def padd : List Rat → List Rat → List Rat
  | [], b => b
  | a, [] => a
  | x :: a, y :: b => (x + y) :: padd a b
noncomputable def pscale (k : Rat) (p : List Rat) : List Rat := p.map (k * ·)
noncomputable def pmul : List Rat → List Rat → List Rat
  | [], _ => []
  | [a], b => pscale a b
  | a :: as, b => padd (pscale a b) (0 :: pmul as b)
noncomputable def trim : List Rat → List Rat
  | [] => []
  | c :: p => match trim p with
    | [] => if c = 0 then [] else [c]
    | d :: q => c :: d :: q

theorem cf_nil (i : Nat) : cf [] i = 0 := rfl
theorem cf_zero (c : Rat) (p : List Rat) : cf (c :: p) 0 = c := rfl
theorem cf_succ (c : Rat) (p : List Rat) (i : Nat) : cf (c :: p) (i + 1) = cf p i := rfl
theorem cf_ge : ∀ (p : List Rat) (i : Nat), p.length ≤ i → cf p i = 0
  | [], _, _ => rfl
  | _ :: p, 0, h => by simp at h
  | _ :: p, i + 1, h => cf_ge p i (by simpa using h)
theorem cf_mem : ∀ (p : List Rat) (i : Nat), i < p.length → cf p i ∈ p
  | [], _, h => by simp at h
  | c :: p, 0, _ => List.mem_cons_self
  | c :: p, i + 1, h => List.mem_cons_of_mem _ (cf_mem p i (by simpa using h))
theorem cf_getElem : ∀ (p : List Rat) (i : Nat) (h : i < p.length), p[i] = cf p i
  | [], _, h => by simp at h
  | c :: p, 0, _ => rfl
  | c :: p, i + 1, h => by simpa [cf] using cf_getElem p i (by simpa using h)
theorem mem_cf {p : List Rat} {c : Rat} (h : c ∈ p) : ∃ i, i < p.length ∧ cf p i = c := by
  obtain ⟨i, hi, e⟩ := List.mem_iff_getElem.mp h
  exact ⟨i, hi, by rw [← cf_getElem p i hi, e]⟩
theorem cf_padd : ∀ (a b : List Rat) (i : Nat), cf (padd a b) i = cf a i + cf b i
  | [], b, i => by simp only [padd, cf_nil]; grind
  | x :: a, [], i => by simp only [padd, cf_nil]; grind
  | x :: a, y :: b, 0 => rfl
  | x :: a, y :: b, i + 1 => by simp only [padd, cf_succ]; exact cf_padd a b i
theorem ev_padd : ∀ (a b : List Rat) (x : Rat), ev (padd a b) x = ev a x + ev b x
  | [], b, x => by simp only [padd, ev]; grind
  | _ :: a, [], x => by simp only [padd, ev]; grind
  | _ :: a, _ :: b, x => by simp only [padd, ev, ev_padd a b x]; grind
theorem len_padd : ∀ (a b : List Rat), (padd a b).length = max a.length b.length
  | [], b => by simp [padd]
  | x :: a, [] => by simp [padd]
  | x :: a, y :: b => by simp only [padd, List.length_cons, len_padd a b]; omega
theorem cf_pscale (k : Rat) : ∀ (p : List Rat) (i : Nat), cf (pscale k p) i = k * cf p i
  | [], i => by simp only [pscale, List.map_nil, cf_nil]; grind
  | _ :: p, 0 => rfl
  | _ :: p, i + 1 => cf_pscale k p i
theorem ev_pscale (k : Rat) : ∀ (p : List Rat) (x : Rat), ev (pscale k p) x = k * ev p x
  | [], x => by simp only [pscale, List.map_nil, ev]; grind
  | c :: p, x => by
    have := ev_pscale k p x
    simp only [pscale, List.map_cons, ev] at *
    rw [this]; grind
theorem len_pscale (k : Rat) (p : List Rat) : (pscale k p).length = p.length := by simp [pscale]
theorem ev_pmul : ∀ (a b : List Rat) (x : Rat), ev (pmul a b) x = ev a x * ev b x
  | [], b, x => by simp only [pmul, ev]; grind
  | [a], b, x => by simp only [pmul, ev, ev_pscale]; grind
  | a :: c :: as, b, x => by
    have := ev_pmul (c :: as) b x
    simp only [pmul, ev_padd, ev_pscale]
    simp only [ev] at *
    rw [this]; grind
theorem len_pmul : ∀ (a b : List Rat), a ≠ [] → b ≠ [] → (pmul a b).length + 1 = a.length + b.length
  | [], b, h, _ => absurd rfl h
  | [a], b, _, _ => by simp only [pmul, len_pscale, List.length_singleton]; omega
  | a :: c :: as, b, _, hb => by
    have := len_pmul (c :: as) b (by simp) hb
    have hb' : 0 < b.length := List.length_pos_iff.mpr hb
    simp only [pmul, len_padd, len_pscale, List.length_cons] at *
    omega
theorem lead_pmul : ∀ (a b : List Rat) (m n : Nat), a.length = m + 1 → b.length = n + 1 → cf (pmul a b) (m + n) = cf a m * cf b n
  | [], b, m, n, h, _ => by simp at h
  | [a], b, m, n, h, h' => by
    have : m = 0 := by simpa using h.symm
    subst this
    simp only [pmul, cf_pscale, Nat.zero_add, cf_zero]
  | a :: c :: as, b, m, n, h, h' => by
    obtain ⟨k, rfl⟩ : ∃ k, m = k + 1 := ⟨m - 1, by simp at h; omega⟩
    have := lead_pmul (c :: as) b k n (by simpa using h) h'
    have e : k + 1 + n = (k + n) + 1 := by omega
    simp only [pmul, cf_padd, cf_pscale]
    rw [e, cf_succ, cf_succ, this, cf_ge b _ (by omega)]
    grind
theorem ev_zero : ∀ (p : List Rat) (x : Rat), (∀ i, cf p i = 0) → ev p x = 0
  | [], _, _ => rfl
  | c :: p, x, h => by
    have := ev_zero p x (fun i => h (i + 1))
    have h0 : c = 0 := h 0
    simp only [ev, this, h0]; grind
theorem evp_congr : ∀ (a b : List Rat) (x : Rat), (∀ i, cf a i = cf b i) → ev a x = ev b x
  | [], b, x, h => (ev_zero b x (fun i => (h i).symm)).symm
  | c :: a, [], x, h => ev_zero (c :: a) x h
  | c :: a, d :: b, x, h => by
    have := evp_congr a b x (fun i => h (i + 1))
    have h0 : c = d := h 0
    simp only [ev, this, h0]
theorem list_ext : ∀ (a b : List Rat), a.length = b.length → (∀ i, cf a i = cf b i) → a = b
  | [], [], _, _ => rfl
  | [], _ :: _, h, _ => by simp at h
  | _ :: _, [], h, _ => by simp at h
  | c :: a, d :: b, h, e => by
    have h0 : c = d := e 0
    rw [h0, list_ext a b (by simpa using h) (fun i => e (i + 1))]
theorem tr_le {a b : List Rat} (hb : Tr b) (h : ∀ i, cf a i = cf b i) : b.length ≤ a.length := by
  cases hl : b.length with
  | zero => omega
  | succ n =>
    have h1 := hb n hl
    rw [← h] at h1
    by_cases h2 : a.length ≤ n
    · exact absurd (cf_ge a n h2) h1
    · omega
theorem tr_ext {a b : List Rat} (ha : Tr a) (hb : Tr b) (h : ∀ i, cf a i = cf b i) : a = b :=
  list_ext a b (Nat.le_antisymm (tr_le ha fun i => (h i).symm) (tr_le hb h)) h
theorem cf_trim : ∀ (p : List Rat) (i : Nat), cf (trim p) i = cf p i
  | [], _ => rfl
  | c :: p, i => by
    have ih := cf_trim p
    unfold trim
    cases ht : trim p with
    | nil =>
      rw [ht] at ih
      dsimp only
      split
      · rename_i h0; subst h0
        cases i with
        | zero => rfl
        | succ i => rw [cf_succ, ← ih i]; rfl
      · cases i with
        | zero => rfl
        | succ i => rw [cf_succ, cf_succ, ← ih i]
    | cons d q =>
      rw [ht] at ih
      cases i with
      | zero => rfl
      | succ i => rw [cf_succ, cf_succ, ← ih i]
theorem tr_trim : ∀ (p : List Rat), Tr (trim p)
  | [] => by intro n h; simp [trim] at h
  | c :: p => by
    have ih := tr_trim p
    unfold trim
    cases ht : trim p with
    | nil =>
      dsimp only
      split
      · intro n h; simp at h
      · rename_i h0
        intro n h
        have : n = 0 := by simpa using h.symm
        subst this
        exact h0
    | cons d q =>
      rw [ht] at ih
      intro n h
      obtain ⟨k, rfl⟩ : ∃ k, n = k + 1 := ⟨n - 1, by simp at h; omega⟩
      exact ih k (by simpa using h)
theorem tr_nil : Tr [] := by intro n h; simp at h
theorem tr_one {c : Rat} (h : c ≠ 0) : Tr [c] := by
  intro n e
  have : n = 0 := by simpa using e.symm
  subst this; exact h
theorem tr_pmul {a b : List Rat} (ha : Tr a) (hb : Tr b) (h1 : a ≠ []) (h2 : b ≠ []) : Tr (pmul a b) := by
  intro n h
  have hl := len_pmul a b h1 h2
  have p1 := List.length_pos_iff.mpr h1
  have p2 := List.length_pos_iff.mpr h2
  obtain ⟨i, hi⟩ : ∃ i, a.length = i + 1 := ⟨a.length - 1, by omega⟩
  obtain ⟨j, hj⟩ : ∃ j, b.length = j + 1 := ⟨b.length - 1, by omega⟩
  have : n = i + j := by omega
  rw [this, lead_pmul a b i j hi hj]
  have u := ha i hi
  have v := hb j hj
  intro h0
  rcases Rat.mul_eq_zero.mp h0 with h0 | h0
  · exact u h0
  · exact v h0

/-! roots -/
theorem synth (r : Rat) : ∀ (p : List Rat), ∃ q : List Rat, q.length = p.length - 1 ∧ (∀ x, ev p x = ev p r + (x - r) * ev q x) ∧ ((∀ i, cf q i = 0) → ∀ i, cf p (i + 1) = 0)
  | [] => ⟨[], rfl, fun x => by simp only [ev]; grind, fun _ i => rfl⟩
  | [c] => ⟨[], rfl, fun x => by simp only [ev]; grind, fun _ i => rfl⟩
  | c :: d :: p => by
    obtain ⟨q, h1, h2, h3⟩ := synth r (d :: p)
    refine ⟨ev (d :: p) r :: q, by simp at *; omega, fun x => ?_, fun h i => ?_⟩
    · have := h2 x
      show c + x * ev (d :: p) x = c + r * ev (d :: p) r + (x - r) * (ev (d :: p) r + x * ev q x)
      rw [this]; grind
    · have hq : ∀ i, cf q i = 0 := fun i => h (i + 1)
      have h0 : ev (d :: p) r = 0 := h 0
      have h4 := h3 hq
      cases i with
      | succ i => exact h4 i
      | zero =>
        have : ev p r = 0 := ev_zero p r (fun i => h4 i)
        simp only [ev, this] at h0
        show d = 0
        grind
theorem ev_big : ∀ (n : Nat) (p : List Rat), p.length ≤ n → (∃ i, cf p i ≠ 0) → ∃ N : Nat, ∀ k : Nat, N ≤ k → ev p (k : Rat) ≠ 0 := by
  intro n
  induction n with
  | zero =>
    intro p h ⟨i, hi⟩
    exact absurd (cf_ge p i (by omega)) hi
  | succ n ih =>
    intro p hl hp
    by_cases hr : ∃ m : Nat, ev p (m : Rat) = 0
    · obtain ⟨m, hm⟩ := hr
      obtain ⟨q, h1, h2, h3⟩ := synth (m : Rat) p
      have hq : ∃ i, cf q i ≠ 0 := by
        apply Classical.byContradiction
        intro hn
        have hz : ∀ i, cf q i = 0 := fun i => Classical.byContradiction fun h => hn ⟨i, h⟩
        have h4 := h3 hz
        have h5 : ev p (m : Rat) = ev [cf p 0] (m : Rat) := evp_congr _ _ _ (fun i => by cases i with
          | zero => rfl
          | succ i => rw [h4 i]; rfl)
        have h6 : cf p 0 = 0 := by
          rw [hm] at h5
          simp only [ev] at h5
          grind
        obtain ⟨i, hi⟩ := hp
        cases i with
        | zero => exact hi h6
        | succ i => exact hi (h4 i)
      obtain ⟨N, hN⟩ := ih q (by omega) hq
      refine ⟨max N (m + 1), fun k hk h => ?_⟩
      have a1 := hN k (by omega)
      rw [h2, hm] at h
      have a2 : ((k : Rat) - (m : Rat)) ≠ 0 := by
        intro h0
        have : (k : Rat) = (m : Rat) := by grind
        have := Rat.natCast_inj.mp this
        omega
      have h' : ((k : Rat) - (m : Rat)) * ev q (k : Rat) = 0 := by grind
      rcases Rat.mul_eq_zero.mp h' with h' | h'
      · exact a2 h'
      · exact a1 h'
    · exact ⟨0, fun k _ h => hr ⟨k, h⟩⟩
/-- from a number on -/
noncomputable def Lg (P : Nat → Prop) : Prop := ∃ N : Nat, ∀ k : Nat, N ≤ k → P k
theorem Lg.and {P Q : Nat → Prop} (h : Lg P) (g : Lg Q) : Lg (fun k => P k ∧ Q k) := by
  obtain ⟨N, hN⟩ := h
  obtain ⟨M, hM⟩ := g
  exact ⟨max N M, fun k hk => ⟨hN k (by omega), hM k (by omega)⟩⟩
theorem Lg.mp {P Q : Nat → Prop} (h : Lg P) (g : ∀ k, P k → Q k) : Lg Q := by
  obtain ⟨N, hN⟩ := h
  exact ⟨N, fun k hk => g k (hN k hk)⟩
theorem Lg.of {P : Nat → Prop} (h : ∀ k, P k) : Lg P := ⟨0, fun k _ => h k⟩
theorem Tr.big {p : List Rat} (h : Tr p) (h0 : p ≠ []) : Lg (fun k => ev p (k : Rat) ≠ 0) := by
  have := List.length_pos_iff.mpr h0
  exact ev_big p.length p (Nat.le_refl _) ⟨p.length - 1, h _ (by omega)⟩
theorem cf_of_lg {a b : List Rat} (h : Lg (fun k => ev a (k : Rat) = ev b (k : Rat))) : ∀ i, cf a i = cf b i := by
  intro i
  apply Classical.byContradiction
  intro hn
  obtain ⟨N, hN⟩ := ev_big _ (padd a (pscale (-1) b)) (Nat.le_refl _) ⟨i, by rw [cf_padd, cf_pscale]; intro h; apply hn; grind⟩
  obtain ⟨M, hM⟩ := h
  have h1 := hN (max N M) (by omega)
  have h2 := hM (max N M) (by omega)
  apply h1
  rw [ev_padd, ev_pscale, h2]
  grind
theorem eq_of_lg {a b : List Rat} (ha : Tr a) (hb : Tr b) (h : Lg (fun k => ev a (k : Rat) = ev b (k : Rat))) : a = b := tr_ext ha hb (cf_of_lg h)
theorem ev_of_lg {a b : List Rat} (h : Lg (fun k => ev a (k : Rat) = ev b (k : Rat))) (x : Rat) : ev a x = ev b x := evp_congr a b x (cf_of_lg h)
/-- what a list tells at all numbers -/
noncomputable def IsP (φ : Rat → Rat) : Prop := ∃ p, ∀ x, φ x = ev p x
theorem IsP.ev (p : List Rat) : IsP (ev p) := ⟨p, fun _ => rfl⟩
theorem IsP.add {φ ψ : Rat → Rat} (h : IsP φ) (g : IsP ψ) : IsP (fun x => φ x + ψ x) := by
  obtain ⟨p, hp⟩ := h
  obtain ⟨q, hq⟩ := g
  exact ⟨padd p q, fun x => by rw [ev_padd, ← hp, ← hq]⟩
theorem IsP.mul {φ ψ : Rat → Rat} (h : IsP φ) (g : IsP ψ) : IsP (fun x => φ x * ψ x) := by
  obtain ⟨p, hp⟩ := h
  obtain ⟨q, hq⟩ := g
  exact ⟨pmul p q, fun x => by rw [ev_pmul, ← hp, ← hq]⟩
theorem IsP.const (c : Rat) : IsP (fun _ => c) := ⟨[c], fun x => by simp only [NN.ev]; grind⟩
theorem IsP.eq {φ ψ : Rat → Rat} (h : IsP φ) (g : IsP ψ) (e : Lg (fun k => φ (k : Rat) = ψ (k : Rat))) (x : Rat) : φ x = ψ x := by
  obtain ⟨p, hp⟩ := h
  obtain ⟨q, hq⟩ := g
  rw [hp, hq]
  exact ev_of_lg (e.mp fun k h => by rw [← hp, ← hq, h]) x
theorem IsP.tr {φ : Rat → Rat} (h : IsP φ) : ∃ p, Tr p ∧ ∀ x, φ x = NN.ev p x := by
  obtain ⟨p, hp⟩ := h
  exact ⟨trim p, tr_trim p, fun x => by rw [hp]; exact evp_congr _ _ _ (fun i => (cf_trim p i).symm)⟩

/-! lowest terms -/
structure Low (T B : List Rat) : Prop where
  tT : Tr T
  tB : Tr B
  mon : ∃ n, B.length = n + 1 ∧ cf B n = 1
  bez : ∃ u v : Rat → Rat, IsP u ∧ IsP v ∧ ∀ x, u x * ev T x + v x * ev B x = 1
theorem Low.ne {T B : List Rat} (h : Low T B) : B ≠ [] := by
  obtain ⟨n, h1, _⟩ := h.mon
  intro e; rw [e] at h1; simp at h1
theorem prod_len {A B C : List Rat} (hA : Tr A) (hB : Tr B) (hC : Tr C) (h1 : B ≠ []) (h2 : C ≠ []) (h : ∀ x, ev A x = ev B x * ev C x) : A = pmul B C :=
  eq_of_lg hA (tr_pmul hB hC h1 h2) (Lg.of fun k => by rw [ev_pmul, h])
theorem Low.part {T B U L : List Rat} (h : Low T B) (e : ∀ x, ev T x * ev L x = ev U x * ev B x) (tL : Tr L) (hL : L ≠ []) : ∃ W, Tr W ∧ W ≠ [] ∧ (∀ x, ev L x = ev B x * ev W x) ∧ (∀ x, ev U x = ev T x * ev W x) := by
  obtain ⟨u, v, pu, pv, huv⟩ := h.bez
  obtain ⟨W, hW, eW⟩ := IsP.tr (IsP.add (pu.mul (IsP.ev U)) (pv.mul (IsP.ev L)))
  have e1 : ∀ x, ev L x = ev B x * ev W x := fun x => by
    rw [← eW]
    have := huv x
    have := e x
    grind
  refine ⟨W, hW, ?_, e1, fun x => ?_⟩
  · intro h0
    subst h0
    obtain ⟨N, hN⟩ := tL.big hL
    have := hN N (Nat.le_refl _)
    apply this
    rw [e1]
    simp only [ev]; grind
  · rw [← eW]
    have := huv x
    have := e x
    grind
theorem Low.len_le {T B U L : List Rat} (h : Low T B) (e : ∀ x, ev T x * ev L x = ev U x * ev B x) (tL : Tr L) (hL : L ≠ []) : B.length ≤ L.length := by
  obtain ⟨W, hW, w0, e1, _⟩ := h.part e tL hL
  have := prod_len tL h.tB hW h.ne w0 e1
  have h3 := len_pmul B W h.ne w0
  rw [← this] at h3
  have := List.length_pos_iff.mpr w0
  omega
theorem Low.uniq {T B T' B' : List Rat} (h : Low T B) (h' : Low T' B') (e : Lg fun k => ev T (k : Rat) * ev B' (k : Rat) = ev T' (k : Rat) * ev B (k : Rat)) : T = T' ∧ B = B' := by
  have e' : ∀ x, ev T x * ev B' x = ev T' x * ev B x := IsP.eq ((IsP.ev T).mul (IsP.ev B')) ((IsP.ev T').mul (IsP.ev B)) e
  have l1 := h.len_le e' h'.tB h'.ne
  have l2 := h'.len_le (fun x => (e' x).symm) h.tB h.ne
  obtain ⟨W, hW, w0, e1, e2⟩ := h.part e' h'.tB h'.ne
  have hp := prod_len h'.tB h.tB hW h.ne w0 e1
  have h3 := len_pmul B W h.ne w0
  rw [← hp] at h3
  have lw : W.length = 1 := by omega
  obtain ⟨w, rfl⟩ := List.length_eq_one_iff.mp lw
  obtain ⟨n, n1, n2⟩ := h.mon
  obtain ⟨m, m1, m2⟩ := h'.mon
  have hmn : m = n + 0 := by omega
  have hl := lead_pmul B [w] n 0 n1 rfl
  rw [← hp, ← hmn, m2, n2, cf_zero] at hl
  have hw : w = 1 := by grind
  subst hw
  refine ⟨eq_of_lg h.tT h'.tT (Lg.of fun k => ?_), eq_of_lg h.tB h'.tB (Lg.of fun k => ?_)⟩
  · rw [e2]; simp only [ev]; grind
  · rw [e1]; simp only [ev]; grind
theorem Low.low {T B : List Rat} (h : Low T B) {x : Rat} (hb : ev B x = 0) : ev T x ≠ 0 := by
  obtain ⟨u, v, _, _, huv⟩ := h.bez
  intro ht
  have := huv x
  rw [hb, ht] at this
  grind
theorem Low.nz {T B U L : List Rat} (h : Low T B) {x : Rat} (e : ev T x * ev L x = ev U x * ev B x) (hl : ev L x ≠ 0) : ev B x ≠ 0 := by
  intro hb
  have ht := h.low hb
  rw [hb, Rat.mul_zero] at e
  rcases Rat.mul_eq_zero.mp e with e | e
  · exact ht e
  · exact hl e
theorem Low.zero {B : List Rat} (h : Low [] B) : B = [1] := by
  have l : Low [] [1] := ⟨tr_nil, tr_one (by decide), ⟨0, rfl, rfl⟩, fun _ => 0, fun _ => 1, IsP.const 0, IsP.const 1, fun x => by simp only [ev]; grind⟩
  exact (h.uniq l (Lg.of fun k => by simp only [ev]; grind)).2
theorem low_one {T : List Rat} (h : Tr T) : Low T [1] := ⟨h, tr_one (by decide), ⟨0, rfl, rfl⟩, fun _ => 0, fun _ => 1, IsP.const 0, IsP.const 1, fun x => by simp only [ev]; grind⟩
end NN
end

section
open PySem PySem.W PyProof.Rows PySem.Calls PySem.Spec PySem.Builtin.Int
set_option Elab.async false
set_option autoImplicit false
set_option maxRecDepth 10000
set_option linter.unusedSimpArgs false
set_option linter.unusedVariables false

namespace NN
noncomputable def pv (p : List Rat) : PV := .lst (p.map rv)
noncomputable def SzL (s : Nat) (p : List Rat) : Prop := ∀ i, Sz s (cf p i)
theorem sz0 (s : Nat) : Sz s 0 := sz_zero.mono (by omega)
theorem sz1 (s : Nat) : Sz s 1 := sz_one.mono (by omega)
theorem SzL.mono {s t : Nat} {p : List Rat} (h : SzL s p) (e : s ≤ t) : SzL t p := fun i => (h i).mono e
theorem szl_nil (s : Nat) : SzL s [] := fun i => sz0 s
theorem szl_cons {s : Nat} {c : Rat} {p : List Rat} (h : Sz s c) (g : SzL s p) : SzL s (c :: p) := fun i => match i with
  | 0 => h
  | i + 1 => g i
theorem SzL.head {s : Nat} {c : Rat} {p : List Rat} (h : SzL s (c :: p)) : Sz s c := h 0
theorem SzL.tail {s : Nat} {c : Rat} {p : List Rat} (h : SzL s (c :: p)) : SzL s p := fun i => h (i + 1)
theorem SzL.trim {s : Nat} {p : List Rat} (h : SzL s p) : SzL s (trim p) := fun i => by rw [cf_trim]; exact h i
theorem rv0 : rv 0 = rt 0 1 := rfl
theorem rv1 : rv 1 = rt 1 1 := rfl
theorem fLen_pv {p : List Rat} (h : p.length ≤ 2 ^ 20) : fLen (pv p) = some (.int p.length) := by
  simp only [fLen, pv, List.length_map]; rw [if_pos (by omega)]
theorem pick_pv {p : List Rat} {k : Int} (i : Nat) (h : p.length ≤ 2 ^ 20) (hk : k = i) (hi : i < p.length) : pick (pv p) k = some (rv (cf p i)) := by
  subst hk
  simp only [pick, pv, List.length_map]
  rw [if_pos (by omega), if_pos (by omega), Int.toNat_natCast, List.getElem?_map, List.getElem?_eq_getElem hi, cf_getElem]
  rfl
theorem pick_last {p : List Rat} {k : Int} (n : Nat) (h : p.length ≤ 2 ^ 20) (hk : k = -1) (hn : p.length = n + 1) : pick (pv p) k = some (rv (cf p n)) := by
  subst hk
  simp only [pick, pv, List.length_map]
  rw [if_pos (by omega), if_neg (by omega), if_pos (by omega)]
  have : (-1 + (p.length : Int)).toNat = n := by omega
  rw [this, List.getElem?_map, List.getElem?_eq_getElem (by omega), cf_getElem]
  rfl
theorem fUpto_pv {p : List Rat} {k : Int} (n : Nat) (h : p.length ≤ 2 ^ 20) (hk : k = n) : fUpto (pv p) (.int k) = some (pv (p.take n)) := by
  subst hk
  simp only [fUpto, pv, List.length_map]
  rw [if_pos (by omega), if_pos (by omega), Int.toNat_natCast, List.map_take]
theorem fUpto_last {p : List Rat} {k : Int} (h : p.length ≤ 2 ^ 20) (hk : k = -1) : fUpto (pv p) (.int k) = some (pv p.dropLast) := by
  subst hk
  simp only [fUpto, pv, List.length_map]
  rw [if_pos (by omega), if_neg (by omega), List.dropLast_eq_take, List.map_take]
  rfl
theorem fGt_int (a b : Int) : fGt (.int a) (.int b) = some (decide (a > b)) := rfl
theorem fLt_int (a b : Int) : fLt (.int a) (.int b) = some (decide (a < b)) := rfl
theorem fGe_int (a b : Int) : fGe (.int a) (.int b) = some (decide (a ≥ b)) := rfl
theorem fMax_int (a b : Int) : fMax (.int a) (.int b) = some (.int (if b > a then b else a)) := rfl
theorem cf_take : ∀ (p : List Rat) (m i : Nat), cf (p.take m) i = if i < m then cf p i else 0
  | [], m, i => by simp [cf]
  | c :: p, 0, i => by simp [cf]
  | c :: p, m + 1, 0 => by simp [cf]
  | c :: p, m + 1, i + 1 => by simp [cf, cf_take p m i]
theorem cf_rangemap (f : Nat → Rat) (n i : Nat) : cf ((List.range n).map f) i = if i < n then f i else 0 := by
  by_cases h : i < n
  · rw [if_pos h, ← cf_getElem _ _ (by simpa using h)]; simp
  · rw [if_neg h, cf_ge _ _ (by simpa using h)]
theorem trim_congr {p q : List Rat} (h : ∀ i, cf p i = cf q i) : trim p = trim q := tr_ext (tr_trim p) (tr_trim q) fun i => by rw [cf_trim, cf_trim, h]
theorem trim_of {p q : List Rat} (hp : Tr p) (h : ∀ i, cf p i = cf q i) : p = trim q := tr_ext hp (tr_trim q) fun i => by rw [cf_trim, h]
theorem pick_rv0 (c : Rat) : pick (rv c) 0 = some (.int c.num) := rfl
theorem pick_rv1 (c : Rat) : pick (rv c) 1 = some (.int c.den) := rfl
theorem pCopy_pv {p : PE PV} {ps ps' : PS} {q : List Rat} (h : p ps = some (pv q, ps')) (hl : q.length ≤ 2 ^ 20) : pCopy p ps = some (q.map rv, ps') := by
  unfold pCopy; rw [h]; simp only [pv, List.length_map]; rw [if_pos hl]
theorem pLs_pv {p : PE PV} {ps ps' : PS} {q : List Rat} (h : p ps = some (pv q, ps')) (hl : q.length ≤ 2 ^ 20) : pLs p ps = some (q.map rv, ps') := by
  unfold pLs; rw [h]; simp only [pv, List.length_map]; rw [if_pos hl]
theorem pRv_pv {p : PE PV} {ps ps' : PS} {q : List Rat} (h : p ps = some (pv q, ps')) (hl : q.length ≤ 2 ^ 20) : pRv p ps = some (q.reverse.map rv, ps') := by
  unfold pRv; rw [h]; simp only [pv, List.length_map]; rw [if_pos hl, List.map_reverse]
theorem pMulL_pv {p q : PE PV} {ps ps₁ ps₂ : PS} {c : Rat} {k : Int} (n : Nat) (h : p ps = some (pv [c], ps₁)) (h2 : q ps₁ = some (.int k, ps₂)) (hk : k = n) (hn : n ≤ 2 ^ 20) : pMulL p q ps = some ((List.replicate n c).map rv, ps₂) := by
  subst hk
  unfold pMulL; rw [h]; simp only [pv, List.map_cons, List.map_nil, h2]; rw [if_pos (by omega), Int.toNat_natCast, List.map_replicate]
theorem pAddL_pv {p q : PE PV} {ps ps₁ ps₂ : PS} {a b : List Rat} (h : p ps = some (pv a, ps₁)) (h2 : q ps₁ = some (pv b, ps₂)) (hl : a.length + b.length ≤ 2 ^ 20) : pAddL p q ps = some ((a ++ b).map rv, ps₂) := by
  unfold pAddL; rw [h]; simp only [pv] at *; simp only [h2, List.length_map]; rw [if_pos hl, List.map_append]
theorem pRg_n {p : PE PV} {ps ps' : PS} {k : Int} (n : Nat) (h : p ps = some (.int k, ps')) (hk : k = n) (hn : n ≤ 2 ^ 20) : pRg p ps = some ((List.range n).map (fun k : Nat => PV.int (k : Int)), ps') := by
  subst hk
  unfold pRg; rw [h]; simp only; rw [if_pos (by omega), Int.toNat_natCast]
theorem pComp_map {α : Type} {x : String} {vis : List String} {p : PE PV} {ps : PS} (f g : α → PV) : ∀ (l : List α), (∀ a ∈ l, (p (cps x vis ps (f a))).map Prod.fst = some (g a)) → pComp x vis (pBool true) p ps (l.map f) = some (l.map g)
  | [], _ => rfl
  | a :: l, h => by
    obtain ⟨⟨_, q⟩, hq, rfl⟩ := Option.map_eq_some_iff.mp (h a List.mem_cons_self)
    have hg : g a = g a := rfl
    simp only [List.map_cons, pComp, pBool, hq, pComp_map f g l fun b hb => h b (List.mem_cons_of_mem _ hb)]
    rfl
theorem pLC_map {α : Type} {x : String} {vis : List String} {p : PE PV} {it : PE (List PV)} {ps ps' : PS} (f g : α → PV) (l : List α) (h : it ps = some (l.map f, ps')) (hl : l.length ≤ 2 ^ 20) (h1 : ps'.own = none) (h2 : ps'.par = none) (hp : ∀ a ∈ l, (p (cps x vis ps' (f a))).map Prod.fst = some (g a)) : pLC x vis (pBool true) p it ps = some (l.map g, ps') := by
  unfold pLC
  rw [h]
  simp only [List.length_map, pComp_map f g l hp]
  rw [if_pos ⟨hl, fun y _ => by rw [h1, h2]; simp⟩]
  rfl
theorem loc_cps (x : String) (vis : List String) (ps : PS) (d : PV) (y : String) : (cps x vis ps d).loc y = if y = x then some d else if y ∈ vis then ps.loc y else none := rfl
theorem own_cps (x : String) (vis : List String) (ps : PS) (d : PV) : (cps x vis ps d).own = none := rfl
theorem par_cps (x : String) (vis : List String) (ps : PS) (d : PV) : (cps x vis ps d).par = none := rfl
theorem num_zero_iff (c : Rat) : c.num = 0 ↔ c = 0 := Rat.num_eq_zero

theorem qtrim_loop (p : List Rat) (hp : p.length ≤ 2 ^ 20) : ∀ (n : Nat) (ps : PS), n ≤ p.length → (∀ i, n ≤ i → cf p i = 0) → ps.own = none → ps.par = none → ps.loc "row" = some (pv p) → ps.loc "size" = some (.int n) →
    ∃ ps' m, pWh (pAnd (pCmpN fGt "size" (pK (.int 0))) (pAnd (pCmp fEq (pSub (pSubN "row" (pBin fSub (pVar "size") (pK (.int 1)))) (pK (.int 0))) (pK (.int 0))) (pBool true))) (pSeq (pAug "size" fSub (pK (.int 1)))
    pEnd) ps = some (.next, ps') ∧ m ≤ p.length ∧ (∀ i, m ≤ i → cf p i = 0) ∧ (∀ k, m = k + 1 → cf p k ≠ 0) ∧ ps'.own = none ∧ ps'.par = none ∧ ps'.loc "row" = some (pv p) ∧ ps'.loc "size" = some (.int m) := by
  intro n
  induction n with
  | zero =>
    intro ps h1 h2 h3 h4 h5 h6
    refine ⟨ps, 0, pWh_stop (ps' := ps) ?_, h1, h2, fun k h => by omega, h3, h4, h5, h6⟩
    simp only [pCmp, pCmpN, pK, pVar, pSubN, pSub, pBin, fPick, pAnd, pBool, fSub, Option.isSome_some, ↓reduceIte, Option.map, Option.bind, h6, fGt_int]
    rfl
  | succ n ih =>
    intro ps h1 h2 h3 h4 h5 h6
    have e1 := pick_pv (p := p) (k := ((n + 1 : Nat) : Int) - 1) n hp (by omega) (by omega)
    have e0 : decide (((n + 1 : Nat) : Int) > 0) = true := decide_eq_true (by omega)
    by_cases h0 : cf p n = 0
    · obtain ⟨ps', m, a1, a2⟩ := ih (ps.set "size" (.int n)) (by omega) (fun i hi => by
        by_cases e : i = n
        · subst e; exact h0
        · exact h2 i (by omega)) h3 h4 (by rw [loc_set, if_neg (by decide)]; exact h5) (by rw [loc_set, if_pos rfl])
      refine ⟨ps', m, pWh_turn (ps₁ := ps) (ps₂ := ps.set "size" (.int n)) ?_ ?_ a1, a2⟩
      · simp only [pCmp, pCmpN, pK, pVar, pSubN, pSub, pBin, fPick, pAnd, pBool, fSub, Option.isSome_some, reduceCtorEq, or_self, ↓reduceIte, Option.map, Option.bind, h3, h4, h5, h6, fGt_int, e0, e1, pick_rv0, fEq_int, (num_zero_iff _).mpr h0, decide_true]
      · simp only [pSeq, pEnd, pK, pPut, pAug, fSub, reduceCtorEq, or_self, Option.some.injEq, ↓reduceIte, Option.map, Option.bind, h3, h4, h6]
        have : ((n + 1 : Nat) : Int) - 1 = n := by omega
        rw [this]
    · refine ⟨ps, n + 1, pWh_stop (ps' := ps) ?_, h1, h2, fun k h => (by
        have hk : k = n := by omega
        rw [hk]; exact h0), h3, h4, h5, h6⟩
      have : decide ((cf p n).num = 0) = false := decide_eq_false (by rw [num_zero_iff]; exact h0)
      simp only [pCmp, pCmpN, pK, pVar, pSubN, pSub, pBin, fPick, pAnd, fSub, Option.isSome_some, reduceCtorEq, or_self, ↓reduceIte, Option.map, Option.bind, h3, h4, h5, h6, fGt_int, e0, e1, pick_rv0, fEq_int, this]
theorem qtrim_run (p : List Rat) (hp : p.length ≤ 2 ^ 20) : sp_qtrim [pv p] = some (pv (trim p)) := by
  obtain ⟨ps', m, e1, e2, e3, e4, e5, e6, e7, e8⟩ := qtrim_loop p hp p.length ((args ["row"] [pv p]).set "size" (.int p.length)) (Nat.le_refl _) (fun i h => cf_ge p i h) rfl rfl (by simp only [List.zip, List.zipWith, List.lookup_cons, String.reduceEq, beq_self_eq_true, ↓reduceIte, loc_set, loc_args]) (by simp only [↓reduceIte, loc_set])
  have hf : p.take m = trim p := trim_of (by
      intro k hk
      have hk' : m = k + 1 := by rw [List.length_take] at hk; omega
      rw [cf_take, if_pos (by omega)]
      exact e4 k hk') (fun i => by
      rw [cf_take]
      split
      · rfl
      · exact (e3 i (by omega)).symm)
  rw [← hf]
  refine run_of rfl (seq_next (ps₁ := (args ["row"] [pv p]).set "size" (.int p.length)) ?_ (seq_next e1 (seq_ret (ret_of (ps₁ := ps'.freeze) ?_))))
  · simp only [List.zip, List.zipWith, List.lookup_cons, pUnN, pAssign, pPut, reduceCtorEq, beq_self_eq_true, or_self, ↓reduceIte, Option.map, Option.bind, loc_args, own_args, par_args, fLen_pv hp]
  · simp only [pFr]
    rw [pCopy_pv (q := p.take m) (ps' := ps'.freeze) ?_ (by rw [List.length_take]; omega)]
    · rfl
    · simp only [pVar, pBin, reduceCtorEq, or_self, ↓reduceIte, Option.map, loc_freeze, own_freeze, par_freeze, e6, e7, e8, fUpto_pv m hp rfl]

theorem szl_getD {s : Nat} {p : List Rat} (h : SzL s p) (i : Nat) : Sz s (cf p i) := h i
theorem qadd_run {s t : Nat} {a b : List Rat} (ha : a.length ≤ 2 ^ 19) (hb : b.length ≤ 2 ^ 19) (sa : SzL s a) (sb : SzL t b) (h : s + t ≤ 2 ^ 26) : sp_qadd [pv a, pv b] = some (pv (trim (padd a b))) := by
  have hs : (if (b.length : Int) > a.length then (b.length : Int) else a.length) = ((max a.length b.length : Nat) : Int) := by split <;> omega
  have ht : trim ((List.range (max a.length b.length)).map fun i => cf a i + cf b i) = trim (padd a b) := trim_congr fun i => by
    rw [cf_rangemap, cf_padd]
    split
    · rfl
    · rw [cf_ge a i (by omega), cf_ge b i (by omega)]; grind
  rw [← ht]
  refine run_of rfl (seq_next (ps₁ := (args ["a", "b"] [pv a, pv b]).set "size" (.int (max a.length b.length : Nat))) ?_ (seq_ret (ret_of (ps₁ := ((args ["a", "b"] [pv a, pv b]).set "size" (.int (max a.length b.length : Nat))).freeze) ?_)))
  · simp only [List.zip, List.zipWith, List.lookup_cons, pBin, pUnN, pAssign, pPut, reduceCtorEq, String.reduceBEq, beq_self_eq_true, or_self, ↓reduceIte, Option.map, Option.bind, loc_args, own_args, par_args, fLen_pv (p := a) (by omega), fLen_pv (p := b) (by omega), fMax_int, hs]
  · simp only [pCall, pCons, pNil, pFr]
    rw [pLC_map (fun k : Nat => PV.int (k : Int)) (fun k => rv (cf a k + cf b k)) (List.range (max a.length b.length)) (pRg_n (max a.length b.length) (ps' := ((args ["a", "b"] [pv a, pv b]).set "size" (.int (max a.length b.length : Nat))).freeze) (k := (max a.length b.length : Nat)) (by simp only [pVar, reduceCtorEq, or_self, ↓reduceIte, Option.map, loc_set, par_set, loc_freeze, own_freeze, par_freeze, par_args]) rfl (by omega)) (by simp; omega) rfl rfl ?_]
    · have := qtrim_run ((List.range (max a.length b.length)).map fun i => cf a i + cf b i) (by simp; omega)
      simp only [pv, List.map_map] at this
      simp only [Option.map_some]
      rw [show (fun k => rv (cf a k + cf b k)) = rv ∘ (fun i => cf a i + cf b i) from rfl, this]
      rfl
    · intro k hk
      have r := radd_run (sa k) (sb k) h
      have la := fLen_pv (p := a) (by omega)
      have lb := fLen_pv (p := b) (by omega)
      by_cases h1 : k < a.length
      · have d1 : decide ((k : Int) < a.length) = true := decide_eq_true (by omega)
        have e1 := pick_pv (p := a) (k := (k : Int)) k (by omega) rfl h1
        by_cases h2 : k < b.length
        · have d2 : decide ((k : Int) < b.length) = true := decide_eq_true (by omega)
          have e2 := pick_pv (p := b) (k := (k : Int)) k (by omega) rfl h2
          simp only [List.zip, List.zipWith, List.lookup_cons, pIf, pCmpN, pVar, pSubN, pUnN, pCons, pNil, pCall, Option.isSome_some, reduceCtorEq, String.reduceEq, String.reduceBEq, beq_self_eq_true, or_self, false_or, ↓reduceIte, Option.map, Option.bind, loc_set, loc_freeze, loc_args, loc_cps, own_cps, par_cps, la, lb, fLt_int, d1, d2, e1, e2, r, List.mem_cons, true_or, or_true]
        · have d2 : decide ((k : Int) < b.length) = false := decide_eq_false (by omega)
          rw [cf_ge b k (by omega)] at r ⊢
          simp only [List.zip, List.zipWith, List.lookup_cons, pIf, pCmpN, pK, pVar, pSubN, pUnN, pCons, pNil, pCall, Option.isSome_some, reduceCtorEq, String.reduceEq, String.reduceBEq, beq_self_eq_true, or_self, false_or, ↓reduceIte, Option.map, Option.bind, loc_set, loc_freeze, loc_args, loc_cps, own_cps, par_cps, la, lb, fLt_int, d1, d2, e1, ← rv0, r, List.mem_cons, true_or, or_true]
      · have d1 : decide ((k : Int) < a.length) = false := decide_eq_false (by omega)
        rw [cf_ge a k (by omega)] at r ⊢
        by_cases h2 : k < b.length
        · have d2 : decide ((k : Int) < b.length) = true := decide_eq_true (by omega)
          have e2 := pick_pv (p := b) (k := (k : Int)) k (by omega) rfl h2
          simp only [List.zip, List.zipWith, List.lookup_cons, pIf, pCmpN, pK, pVar, pSubN, pUnN, pCons, pNil, pCall, Option.isSome_some, reduceCtorEq, String.reduceEq, String.reduceBEq, beq_self_eq_true, or_self, false_or, ↓reduceIte, Option.map, Option.bind, loc_set, loc_freeze, loc_args, loc_cps, own_cps, par_cps, la, lb, fLt_int, d1, d2, e2, ← rv0, r, List.mem_cons, true_or, or_true]
        · have d2 : decide ((k : Int) < b.length) = false := decide_eq_false (by omega)
          rw [cf_ge b k (by omega)] at r ⊢
          simp only [List.zip, List.zipWith, List.lookup_cons, pIf, pCmpN, pK, pUnN, pCons, pNil, pCall, Option.isSome_some, String.reduceEq, String.reduceBEq, beq_self_eq_true, false_or, ↓reduceIte, Option.map, Option.bind, loc_set, loc_freeze, loc_args, loc_cps, la, lb, fLt_int, d1, d2, ← rv0, r, List.mem_cons, true_or, or_true]
/-! minus, times a number, times a power -/
noncomputable def pneg (p : List Rat) : List Rat := p.map (fun c => -c)
theorem cf_pneg : ∀ (p : List Rat) (i : Nat), cf (pneg p) i = -cf p i
  | [], i => by simp only [pneg, List.map_nil, cf_nil, Rat.neg_zero]
  | _ :: p, 0 => rfl
  | _ :: p, i + 1 => cf_pneg p i
theorem len_pneg (p : List Rat) : (pneg p).length = p.length := by simp [pneg]
theorem ev_pneg : ∀ (p : List Rat) (x : Rat), ev (pneg p) x = -ev p x
  | [], x => by simp only [pneg, List.map_nil, ev, Rat.neg_zero]
  | c :: p, x => by
    have := ev_pneg p x
    simp only [pneg, List.map_cons, ev] at *
    rw [this]; grind
theorem tr_pneg {p : List Rat} (h : Tr p) : Tr (pneg p) := fun n hn => by
  rw [cf_pneg]
  have := h n (by rw [← hn, len_pneg])
  grind
theorem SzL.pneg {s : Nat} {p : List Rat} (h : SzL s p) : SzL s (pneg p) := fun i => by rw [cf_pneg]; exact (h i).neg
theorem qneg_run {p : List Rat} (hp : p.length ≤ 2 ^ 20) : sp_qneg [pv p] = some (pv (pneg p)) := by
  refine run_of rfl (seq_ret (ret_of (ps₁ := (args ["p"] [pv p]).freeze) ?_))
  simp only [pFr]
  rw [pLC_map (f := rv) (g := fun c => rv (-c)) (l := p) (pLs_pv (ps' := (args ["p"] [pv p]).freeze) (by simp only [List.zip, List.zipWith, List.lookup_cons, pVar, reduceCtorEq, beq_self_eq_true, or_self, ↓reduceIte, Option.map, loc_freeze, own_freeze, par_freeze, loc_args, par_args]) hp) hp rfl rfl (fun c _ => by
    simp only [pVar, pCons, pNil, pCall, reduceCtorEq, or_self, ↓reduceIte, Option.map, loc_cps, own_cps, par_cps, rneg_run])]
  simp only [Option.map_some, pv, pneg, List.map_map]
  rfl
theorem qsub_run {s t : Nat} {a b : List Rat} (ha : a.length ≤ 2 ^ 19) (hb : b.length ≤ 2 ^ 19) (sa : SzL s a) (sb : SzL t b) (h : s + t ≤ 2 ^ 26) : sp_qsub [pv a, pv b] = some (pv (trim (padd a (pneg b)))) := by
  refine run_of rfl (seq_ret (ret_of (ps₁ := (args ["a", "b"] [pv a, pv b]).freeze) ?_))
  have e1 := qneg_run (p := b) (by omega)
  have e2 := qadd_run (b := pneg b) ha (by rw [len_pneg]; exact hb) sa sb.pneg h
  simp only [List.zip, List.zipWith, List.lookup_cons, pVar, pCons, pNil, pCall, reduceCtorEq, String.reduceBEq, beq_self_eq_true, or_self, ↓reduceIte, Option.map, loc_freeze, own_freeze, par_freeze, loc_args, par_args, e1, e2]
theorem qscale_run {s t : Nat} {p : List Rat} {r : Rat} (hp : p.length ≤ 2 ^ 20) (sp : SzL s p) (sr : Sz t r) (h : s + t ≤ 2 ^ 26) (h0 : r ≠ 0) : sp_qscale [pv p, rv r] = some (pv (pscale r p)) := by
  have hn : decide (r.num = 0) = false := decide_eq_false (by rw [num_zero_iff]; exact h0)
  refine run_of rfl (seq_ret (ret_of (ps₁ := (args ["p", "r"] [pv p, rv r]).freeze) ?_))
  simp only [pIf]
  rw [show pCmp fNe (pSubN "r" (pK (PV.int 0))) (pK (PV.int 0)) (args ["p", "r"] [pv p, rv r]).freeze = some (true, (args ["p", "r"] [pv p, rv r]).freeze) by simp only [List.zip, List.zipWith, List.lookup_cons, pCmp, pK, pSubN, Option.isSome_some, String.reduceBEq, beq_self_eq_true, ↓reduceIte, Option.map, Option.bind, loc_freeze, loc_args, pick_rv0, fNe_int, hn, Bool.not_false]]
  simp only [pFr]
  rw [pLC_map (f := rv) (g := fun c => rv (c * r)) (l := p) (pLs_pv (ps' := (args ["p", "r"] [pv p, rv r]).freeze) (by simp only [List.zip, List.zipWith, List.lookup_cons, pVar, reduceCtorEq, beq_self_eq_true, or_self, ↓reduceIte, Option.map, loc_freeze, own_freeze, par_freeze, loc_args, par_args]) hp) hp rfl rfl (fun c hc => by
    obtain ⟨i, hi, rfl⟩ := mem_cf hc
    have := rmul_run (sp i) sr h
    simp only [List.zip, List.zipWith, List.lookup_cons, pVar, pCons, pNil, pCall, reduceCtorEq, String.reduceEq, String.reduceBEq, beq_self_eq_true, or_self, ↓reduceIte, Option.map, loc_freeze, loc_args, loc_cps, own_cps, par_cps, this, List.mem_cons, true_or])]
  simp only [Option.map_some, pv, pscale, List.map_map]
  congr 4
  funext c
  simp only [Function.comp, Rat.mul_comm]
theorem qscale_zero {p : List Rat} : sp_qscale [pv p, rv 0] = some (pv []) := by
  refine run_of rfl (seq_ret (ret_of (ps₁ := (args ["p", "r"] [pv p, rv 0]).freeze) ?_))
  simp only [pIf]
  rw [show pCmp fNe (pSubN "r" (pK (PV.int 0))) (pK (PV.int 0)) (args ["p", "r"] [pv p, rv 0]).freeze = some (false, (args ["p", "r"] [pv p, rv 0]).freeze) by simp only [List.zip, List.zipWith, List.lookup_cons, pCmp, pK, pSubN, Option.isSome_some, String.reduceBEq, beq_self_eq_true, Option.some.injEq, ↓reduceIte, Option.map, Option.bind, loc_freeze, loc_args, pick_rv0, fNe_int]; rfl]
  simp only [List.length_nil, pNil, pFr, pDisp, ↓reduceIte, Nat.reduceLeDiff, Option.map, pv, List.map_nil]
noncomputable def praise (k : Nat) (p : List Rat) : List Rat := if p = [] then [] else List.replicate k 0 ++ p
theorem qraise_run {p : List Rat} {k : Nat} (hk : k ≤ 2 ^ 19) (hp : p.length ≤ 2 ^ 19) : sp_qraise [pv p, .int k] = some (pv (praise k p)) := by
  refine run_of rfl (seq_ret (ret_of (ps₁ := (args ["p", "many"] [pv p, .int k]).freeze) ?_))
  simp only [pIf]
  by_cases h : p = []
  · subst h
    rw [show pCmp fGt (pUnN fLen "p") (pK (PV.int 0)) (args ["p", "many"] [pv [], .int k]).freeze = some (false, (args ["p", "many"] [pv [], .int k]).freeze) by simp only [List.zip, List.zipWith, List.lookup_cons, List.length_nil, pCmp, pK, pUnN, beq_self_eq_true, Option.some.injEq, Option.map, Option.bind, loc_freeze, loc_args, fLen_pv (p := []) (by simp), fGt_int]; rfl]
    simp only [List.length_nil, pNil, pFr, pDisp, ↓reduceIte, Nat.reduceLeDiff, Option.map, pv, List.map_nil, praise]
  · have hl := List.length_pos_iff.mpr h
    have hd : decide ((p.length : Int) > 0) = true := decide_eq_true (by omega)
    rw [show pCmp fGt (pUnN fLen "p") (pK (PV.int 0)) (args ["p", "many"] [pv p, .int k]).freeze = some (true, (args ["p", "many"] [pv p, .int k]).freeze) by simp only [List.zip, List.zipWith, List.lookup_cons, pCmp, pK, pUnN, beq_self_eq_true, Option.map, Option.bind, loc_freeze, loc_args, fLen_pv (p := p) (by omega), fGt_int, hd]]
    simp only [pFr]
    rw [pAddL_pv (a := List.replicate k 0) (b := p) (ps₁ := (args ["p", "many"] [pv p, .int k]).freeze) (ps₂ := (args ["p", "many"] [pv p, .int k]).freeze) ?_ ?_ (by simp; omega)]
    · simp only [praise, if_neg h]; rfl
    · simp only [pFr]
      rw [pMulL_pv (c := 0) (k := k) k (ps₁ := (args ["p", "many"] [pv p, .int k]).freeze) (ps₂ := (args ["p", "many"] [pv p, .int k]).freeze) (by simp only [List.length_cons, List.length_nil, pK, pCons, pNil, pFr, pDisp, ↓reduceIte, Nat.reduceLeDiff, Nat.zero_add, Option.map, pv, List.map_cons, List.map_nil, rv0]) (by simp only [List.zip, List.zipWith, List.lookup_cons, pVar, reduceCtorEq, String.reduceBEq, beq_self_eq_true, or_self, ↓reduceIte, Option.map, loc_freeze, own_freeze, par_freeze, loc_args, par_args]) rfl (by omega)]
      rfl
    · simp only [pFr]
      rw [pCopy_pv (q := p) (ps' := (args ["p", "many"] [pv p, .int k]).freeze) (by simp only [List.zip, List.zipWith, List.lookup_cons, pVar, reduceCtorEq, beq_self_eq_true, or_self, ↓reduceIte, Option.map, loc_freeze, own_freeze, par_freeze, loc_args, par_args]) (by omega)]
      rfl
theorem cf_raise : ∀ (k : Nat) (p : List Rat) (i : Nat), cf (List.replicate k 0 ++ p) (k + i) = cf p i
  | 0, p, i => by simp
  | k + 1, p, i => by
    rw [show k + 1 + i = (k + i) + 1 by omega]
    simp only [List.replicate_succ, List.cons_append, cf_succ, cf_raise k p i]
theorem cf_raise_lt : ∀ (k : Nat) (p : List Rat) (i : Nat), i < k → cf (List.replicate k 0 ++ p) i = 0
  | 0, p, i, h => by omega
  | k + 1, p, 0, h => rfl
  | k + 1, p, i + 1, h => by
    simp only [List.replicate_succ, List.cons_append, cf_succ, cf_raise_lt k p i (by omega)]
theorem ev_raise : ∀ (k : Nat) (p : List Rat) (x : Rat), ev (List.replicate k 0 ++ p) x = x ^ k * ev p x
  | 0, p, x => by simp [Rat.one_mul]
  | k + 1, p, x => by
    simp only [List.replicate_succ, List.cons_append, ev, ev_raise k p x, Rat.pow_succ]; grind
theorem ev_praise (k : Nat) (p : List Rat) (x : Rat) : ev (praise k p) x = x ^ k * ev p x := by
  unfold praise
  split
  · rename_i h; subst h; simp only [ev]; grind
  · exact ev_raise k p x
theorem SzL.praise {s : Nat} {p : List Rat} (h : SzL s p) (k : Nat) : SzL s (praise k p) := fun i => by
  unfold NN.praise
  split
  · exact sz0 s
  · by_cases hi : i < k
    · rw [cf_raise_lt k p i hi]; exact sz0 s
    · obtain ⟨j, rfl⟩ : ∃ j, i = k + j := ⟨i - k, by omega⟩
      rw [cf_raise]; exact h j
theorem len_praise_le (k : Nat) (p : List Rat) : (praise k p).length ≤ k + p.length := by
  unfold praise; split <;> simp
end NN
end

section
open PySem PySem.W PyProof.Rows PySem.Calls PySem.Spec PySem.Builtin.Int
set_option Elab.async false
set_option autoImplicit false
set_option maxRecDepth 10000
set_option linter.unusedSimpArgs false
set_option linter.unusedVariables false

namespace NN
theorem cf_set : ∀ (F : List Rat) (k : Nat) (c : Rat) (i : Nat), k < F.length → cf (F.set k c) i = if i = k then c else cf F i
  | [], k, c, i, h => by simp at h
  | d :: F, 0, c, 0, h => rfl
  | d :: F, 0, c, i + 1, h => by simp [cf]
  | d :: F, k + 1, c, 0, h => by simp [cf]
  | d :: F, k + 1, c, i + 1, h => by
    simp only [List.set_cons_succ, cf_succ, cf_set F k c i (by simpa using h)]
    simp
theorem ev_set : ∀ (F : List Rat) (k : Nat) (c x : Rat), k < F.length → ev (F.set k c) x = ev F x + x ^ k * (c - cf F k)
  | [], k, c, x, h => by simp at h
  | d :: F, 0, c, x, h => by simp only [List.set_cons_zero, ev, cf_zero, Rat.pow_zero]; grind
  | d :: F, k + 1, c, x, h => by
    simp only [List.set_cons_succ, ev, cf_succ, ev_set F k c x (by simpa using h), Rat.pow_succ]; grind
theorem pSetItem_pv {x : String} {q p : PE PV} {ps ps₁ ps₂ : PS} {F : List Rat} {c : Rat} {k : Int} (n : Nat) (h : p ps = some (rv c, ps₁)) (hx : ps₁.loc x = some (pv F)) (h2 : q ps₁ = some (.int k, ps₂)) (hx2 : ps₂.loc x = some (pv F)) (ho : ps₂.own = some x) (hk : k = n) (hn : n < F.length) (hl : F.length ≤ 2 ^ 20) :
    pSetItem x q p ps = some (.next, ps₂.set x (pv (F.set n c))) := by
  subst hk
  unfold pSetItem
  simp only [h, hx, h2, hx2, pv, List.length_map, Option.isSome_some, if_true]
  rw [if_pos ⟨.inl ho, by omega, by simpa using hn, hl⟩, Int.toNat_natCast, List.map_set]

inductive MuI (b : List Rat) (l : Rat) (i u z : Nat) (bs : List Rat) (j : Nat) (F : List Rat) (ps : PS) : Prop
  | mk (ps' : PS) (F' : List Rat) (h0 : pTurnsE "other" "right" (pSeq (pSetItem "found" (pBin fAdd (pVar "one") (pVar "other")) (pCall sp_radd (pCons (pSubN "found" (pBin fAdd (pVar "one") (pVar "other"))) (pCons (pCall sp_rmul (pCons (pVar "left") (pCons (pVar "right") pNil))) pNil))))
    pEnd) j (bs.map rv) ps = some (.next, ps')) (h1 : F'.length = F.length) (h2 : (∀ x, ev F' x = ev F x + x ^ (i + j) * (l * ev bs x))) (h3 : (∀ k, Sz (u + z) (cf F' k))) (h4 : ps'.own = some "found") (h5 : ps'.par = none) (h6 : ps'.loc "found" = some (pv F')) (h7 : ps'.loc "b" = some (pv b)) : MuI b l i u z bs j F ps
theorem qmul_inner {a b : List Rat} {s t : Nat} (l : Rat) (sl : Sz s l) (i : Nat) (u : Nat) (hu : u + (s + t) ≤ 2 ^ 26) : ∀ (bs : List Rat) (j : Nat) (F : List Rat) (ps : PS), SzL t bs → i + j + bs.length ≤ F.length → F.length ≤ 2 ^ 20 → (∀ k, Sz (u + (s + t + 1)) (cf F k)) → (∀ k, i + j ≤ k → Sz u (cf F k)) →
    ps.own = some "found" → ps.par = none → ps.loc "found" = some (pv F) → ps.loc "one" = some (.int i) → ps.loc "left" = some (rv l) → ps.loc "b" = some (pv b) →
    MuI b l i u (s + t + 1) bs j F ps := by
  intro bs
  induction bs with
  | nil =>
    intro j F ps _ _ _ h1 _ h3 h4 h5 h6 h7 h8
    exact ⟨ps, F, rfl, rfl, fun x => by simp only [ev]; grind, h1, h3, h4, h5, h8⟩
  | cons c bs ih =>
    intro j F ps sb hl hF h1 h2 h3 h4 h5 h6 h7 h8
    have hn : i + j < F.length := by simp only [List.length_cons] at hl; omega
    have e1 := rmul_run sl sb.head (by omega)
    have e2 := radd_run (h2 (i + j) (Nat.le_refl _)) (sl.mul sb.head) hu
    have e3 := pick_pv (p := F) (k := (i : Int) + (j : Int)) (i + j) hF (by omega) hn
    have sn : Sz (u + (s + t + 1)) (cf F (i + j) + l * c) := (h2 (i + j) (Nat.le_refl _)).add (sl.mul sb.head)
    have hc : ∀ k, cf (F.set (i + j) (cf F (i + j) + l * c)) k = if k = i + j then cf F (i + j) + l * c else cf F k := fun k => cf_set F (i + j) _ k hn
    obtain ⟨ps', F', a1, a2, a3, a4, a5, a6, a7, a8⟩ := ih (j + 1) (F.set (i + j) (cf F (i + j) + l * c)) (((ps.set "other" (.int j)).set "right" (rv c)).set "found" (pv (F.set (i + j) (cf F (i + j) + l * c)))) sb.tail (by simp only [List.length_cons, List.length_set] at *; omega) (by simpa using hF)
      (fun k => by
        rw [hc]; split
        · exact sn
        · exact h1 k)
      (fun k hk => by
        rw [hc, if_neg (by omega)]; exact h2 k (by omega)) h3 h4 (by simp only [↓reduceIte, loc_set]) (by simp only [String.reduceEq, ↓reduceIte, loc_set, h6]) (by simp only [String.reduceEq, ↓reduceIte, loc_set, h7]) (by simp only [String.reduceEq, ↓reduceIte, loc_set, h8])
    refine ⟨ps', F', ?_, by rw [a2]; simp, fun x => ?_, a4, a5, a6, a7, a8⟩
    · simp only [List.map_cons, pTurnsE]
      rw [show pPuts ["other", "right"] [PV.int j, rv c] ps = some ((ps.set "other" (.int j)).set "right" (rv c)) by simp only [pPut, pPuts, reduceCtorEq, String.reduceEq, or_self, Option.some.injEq, ↓reduceIte, Option.bind, own_set, par_set, h3, h4]]
      simp only [Option.bind_some]
      rw [seq_next (ps₁ := ((ps.set "other" (.int j)).set "right" (rv c)).set "found" (pv (F.set (i + j) (cf F (i + j) + l * c)))) (pSetItem_pv (i + j) (k := (i : Int) + (j : Int)) (F := F) (c := cf F (i + j) + l * c) (ps₁ := (ps.set "other" (.int j)).set "right" (rv c)) (by simp only [pVar, pSubN, pBin, pCons, pNil, pCall, fAdd, Option.isSome_some, reduceCtorEq, String.reduceEq, or_self, Option.some.injEq, ↓reduceIte, Option.map, Option.bind, loc_set, own_set, par_set, h3, h4, h5, h6, h7, e1, e2, e3]) (by simp only [String.reduceEq, ↓reduceIte, loc_set, h5]) (by simp only [pVar, pBin, fAdd, reduceCtorEq, String.reduceEq, or_self, Option.some.injEq, ↓reduceIte, Option.map, loc_set, own_set, par_set, h3, h4, h6]) (by simp only [String.reduceEq, ↓reduceIte, loc_set, h5]) (by simp only [own_set, h3]) (by omega) hn hF) (show pEnd _ = some (.next, _) from rfl)]
      exact a1
    · rw [a3, ev_set F _ _ _ hn]
      simp only [ev]
      rw [show i + (j + 1) = i + j + 1 by omega, Rat.pow_succ]
      grind
inductive MuO (b : List Rat) (z : Nat) (as : List Rat) (i : Nat) (F : List Rat) (ps : PS) : Prop
  | mk (ps' : PS) (F' : List Rat) (h0 : pTurnsE "one" "left" (pSeq (pForE "other" "right" (pVar "b") (pSeq (pSetItem "found" (pBin fAdd (pVar "one") (pVar "other")) (pCall sp_radd (pCons (pSubN "found" (pBin fAdd (pVar "one") (pVar "other"))) (pCons (pCall sp_rmul (pCons (pVar "left") (pCons (pVar "right") pNil))) pNil))))
    pEnd))
    pEnd) i (as.map rv) ps = some (.next, ps')) (h1 : F'.length = F.length) (h2 : (∀ x, ev F' x = ev F x + x ^ i * (ev as x * ev b x))) (h3 : SzL z F') (h4 : ps'.own = some "found") (h5 : ps'.par = none) (h6 : ps'.loc "found" = some (pv F')) : MuO b z as i F ps
theorem qmul_outer {b : List Rat} {s t : Nat} (sb : SzL t b) (hb : b.length ≤ 2 ^ 18) : ∀ (as : List Rat) (i : Nat) (F : List Rat) (ps : PS), SzL s as → i + as.length + b.length ≤ F.length + 1 → F.length ≤ 2 ^ 20 → SzL (i * (s + t + 1)) F → (i + as.length) * (s + t + 1) ≤ 2 ^ 26 →
    ps.own = some "found" → ps.par = none → ps.loc "found" = some (pv F) → ps.loc "b" = some (pv b) →
    MuO b ((i + as.length) * (s + t + 1)) as i F ps := by
  intro as
  induction as with
  | nil =>
    intro i F ps _ _ _ h1 _ h3 h4 h5 h6
    exact ⟨ps, F, rfl, rfl, fun x => by simp only [ev]; grind, h1, h3, h4, h5⟩
  | cons c as ih =>
    intro i F ps sa hl hF h1 h2 h3 h4 h5 h6
    have hmul : (i + 1 + as.length) * (s + t + 1) = i * (s + t + 1) + (s + t + 1) + as.length * (s + t + 1) := by
      rw [Nat.add_mul, Nat.add_mul, Nat.one_mul]
    have e0 : i + (c :: as).length = i + 1 + as.length := by simp only [List.length_cons]; omega
    rw [e0] at h2 hl ⊢
    have em : (i + 1) * (s + t + 1) = i * (s + t + 1) + (s + t + 1) := by rw [Nat.add_mul, Nat.one_mul]
    obtain ⟨ps₁, F₁, a1, a2, a3, a4, a5, a6, a7, a8⟩ := qmul_inner (a := as) (b := b) (s := s) (t := t) c sa.head i (i * (s + t + 1)) (by omega) b 0 F ((ps.set "one" (.int i)).set "left" (rv c)) sb (by omega) hF (fun k => (h1 k).mono (by omega)) (fun k _ => h1 k) h3 h4 (by simp only [String.reduceEq, ↓reduceIte, loc_set, h5]) (by simp only [String.reduceEq, ↓reduceIte, loc_set]) (by simp only [↓reduceIte, loc_set]) (by simp only [String.reduceEq, ↓reduceIte, loc_set, h6])
    obtain ⟨ps', F', b1, b2, b3, b4, b5, b6, b7⟩ := ih (i + 1) F₁ ps₁ sa.tail (by omega) (by omega) (by rw [em]; exact a4) h2 a5 a6 a7 a8
    refine ⟨ps', F', ?_, by rw [b2, a2], fun x => ?_, b4, b5, b6, b7⟩
    · simp only [List.map_cons, pTurnsE]
      rw [show pPuts ["one", "left"] [PV.int i, rv c] ps = some ((ps.set "one" (.int i)).set "left" (rv c)) by simp only [pPut, pPuts, reduceCtorEq, String.reduceEq, or_self, Option.some.injEq, ↓reduceIte, Option.bind, own_set, par_set, h3, h4]]
      simp only [Option.bind_some]
      rw [seq_next (ps₁ := ps₁) (r := some (.next, ps₁)) ?_ rfl]
      · exact b1
      · unfold pForE
        rw [show pVar "b" ((ps.set "one" (.int i)).set "left" (rv c)) = some (pv b, (ps.set "one" (.int i)).set "left" (rv c)) by simp only [pVar, reduceCtorEq, String.reduceEq, or_self, Option.some.injEq, ↓reduceIte, Option.map, loc_set, own_set, par_set, h3, h4, h6]]
        simp only [pv, List.length_map]
        rw [if_pos (by omega)]
        exact a1
    · rw [b3, a3, Rat.pow_succ]
      simp only [ev, Nat.add_zero]
      grind
theorem qmul_run {s t : Nat} {a b : List Rat} (ha : a.length ≤ 2 ^ 18) (hb : b.length ≤ 2 ^ 18) (sa : SzL s a) (sb : SzL t b) (h : a.length * (s + t + 1) ≤ 2 ^ 26) (h0 : a ≠ []) (h1 : b ≠ []) :
    sp_qmul [pv a, pv b] = some (pv (pmul a b)) ∧ SzL (a.length * (s + t + 1)) (pmul a b) := by
  have p0 := List.length_pos_iff.mpr h0
  have p1 := List.length_pos_iff.mpr h1
  have hlen := len_pmul a b h0 h1
  obtain ⟨ps', F', e1, e2, e3, e4, e5, e6, e7⟩ := qmul_outer (s := s) sb hb a 0 (List.replicate (a.length + b.length - 1) 0) ({ (args ["a", "b"] [pv a, pv b]).set "found" (pv (List.replicate (a.length + b.length - 1) 0)) with own := some "found" }) sa (by simp; omega) (by simp; omega)
    (fun i => by
      by_cases hi : i < a.length + b.length - 1
      · have := cf_raise_lt (a.length + b.length - 1) [] i hi
        rw [List.append_nil] at this
        rw [this]; exact sz0 _
      · rw [cf_ge _ _ (by simpa using hi)]; exact sz0 _) (by rw [Nat.zero_add]; exact h) rfl rfl rfl rfl
  have hF : F' = pmul a b := by
    refine list_ext _ _ (by rw [e2]; simp; omega) (cf_of_lg (Lg.of fun k => ?_))
    have := ev_raise (a.length + b.length - 1) [] (k : Rat)
    rw [List.append_nil] at this
    rw [e3, ev_pmul, this]
    simp only [ev, Rat.pow_zero]
    grind
  subst hF
  rw [Nat.zero_add] at e4
  refine ⟨?_, e4⟩
  have la := fLen_pv (p := a) (by omega)
  have lb := fLen_pv (p := b) (by omega)
  have d1 : decide ((a.length : Int) = 0) = false := decide_eq_false (by omega)
  have d2 : decide ((b.length : Int) = 0) = false := decide_eq_false (by omega)
  refine run_of rfl (seq_next (ps₁ := args ["a", "b"] [pv a, pv b]) ?_ (seq_next (ps₁ := { (args ["a", "b"] [pv a, pv b]).set "found" (pv (List.replicate (a.length + b.length - 1) 0)) with own := some "found" }) ?_ (seq_next (ps₁ := ps') ?_ (seq_ret (ret_of (ps₁ := ps'.freeze) ?_)))))
  · simp only [List.zip, List.zipWith, List.lookup_cons, pEnd, pStIf, pCmp, pK, pUnN, pOr, pBool, String.reduceBEq, beq_self_eq_true, Option.map, Option.bind, loc_args, la, lb, fEq_int, d1, d2]
  · unfold pAssignO
    rw [pMulL_pv (c := 0) (k := (a.length : Int) + b.length - 1) (a.length + b.length - 1) (ps₁ := args ["a", "b"] [pv a, pv b]) (ps₂ := args ["a", "b"] [pv a, pv b]) (by simp only [List.length_cons, List.length_nil, pK, pCons, pNil, pFr, pDisp, ↓reduceIte, Nat.reduceLeDiff, Nat.zero_add, Option.map, pv, List.map_cons, List.map_nil, rv0]) (by simp only [List.zip, List.zipWith, List.lookup_cons, pK, pBin, pUnN, fAdd, fSub, String.reduceBEq, beq_self_eq_true, Option.map, Option.bind, loc_args, la, lb]) (by omega) (by omega)]
    rfl
  · unfold pForE
    rw [show pVar "a" ({ (args ["a", "b"] [pv a, pv b]).set "found" (pv (List.replicate (a.length + b.length - 1) 0)) with own := some "found" }) = some (pv a, { (args ["a", "b"] [pv a, pv b]).set "found" (pv (List.replicate (a.length + b.length - 1) 0)) with own := some "found" }) by simp only [List.zip, List.zipWith, List.lookup_cons, pVar, reduceCtorEq, String.reduceEq, beq_self_eq_true, or_self, Option.some.injEq, ↓reduceIte, Option.map, loc_set, par_set, loc_args, par_args]]
    simp only [pv, List.length_map]
    rw [if_pos (by omega)]
    exact e1
  · simp only [pVar, reduceCtorEq, or_self, ↓reduceIte, Option.map, loc_freeze, own_freeze, par_freeze, e6, e7]
theorem qmul_nil_l {b : List Rat} (hb : b.length ≤ 2 ^ 18) : sp_qmul [pv [], pv b] = some (pv []) := by
  refine run_of rfl (seq_ret (ps₁ := (args ["a", "b"] [pv [], pv b]).freeze) ?_)
  simp only [List.zip, List.zipWith, List.lookup_cons, List.length_nil, pSeq, pEnd, pStIf, pCmp, pK, pUnN, pNil, pFr, pDisp, pOr, pBool, beq_self_eq_true, ↓reduceIte, Nat.reduceLeDiff, Option.map, Option.bind, loc_args, pRet, fLen_pv (p := []) (by simp), fEq_int]
  rfl
theorem qmul_nil_r {a : List Rat} (ha : a.length ≤ 2 ^ 18) : sp_qmul [pv a, pv []] = some (pv []) := by
  refine run_of rfl (seq_ret (ps₁ := (args ["a", "b"] [pv a, pv []]).freeze) ?_)
  have la := fLen_pv (p := a) (by omega)
  simp only [List.zip, List.zipWith, List.lookup_cons, List.length_nil, pSeq, pEnd, pStIf, pCmp, pK, pUnN, pNil, pFr, pDisp, pOr, pBool, beq_self_eq_true, ↓reduceIte, Nat.reduceLeDiff, Option.map, Option.bind, loc_args, pRet, la, fEq_int]
  by_cases h : decide ((a.length : Int) = 0) = true
  · rw [h]; rfl
  · rw [Bool.not_eq_true] at h; rw [h]; rfl
end NN
end

section
open PySem PySem.W PyProof.Rows PySem.Calls PySem.Spec PySem.Builtin.Int
set_option Elab.async false
set_option autoImplicit false
set_option maxRecDepth 10000
set_option linter.unusedSimpArgs false
set_option linter.unusedVariables false

namespace NN
/-! the value at a number -/
theorem qat_loop {s t : Nat} {r : Rat} (sr : Sz t r) : ∀ (l : List Rat) (f : Rat) (u : Nat) (ps : PS), SzL s l → Sz u f → u + l.length * (s + t + 1) ≤ 2 ^ 26 → ps.own = none → ps.par = none → ps.loc "found" = some (rv f) → ps.loc "r" = some (rv r) →
    ∃ ps', pTurns "number" (pSeq (pAssign "found" (pCall sp_radd (pCons (pCall sp_rmul (pCons (pVar "found") (pCons (pVar "r") pNil))) (pCons (pVar "number") pNil))))
    pEnd) (l.map rv) ps = some (.next, ps') ∧ ps'.own = none ∧ ps'.par = none ∧ ps'.loc "found" = some (rv (l.foldl (fun acc c => acc * r + c) f)) ∧ Sz (u + l.length * (s + t + 1)) (l.foldl (fun acc c => acc * r + c) f) := by
  intro l
  induction l with
  | nil =>
    intro f u ps _ hf _ h1 h2 h3 h4
    exact ⟨ps, rfl, h1, h2, h3, hf.mono (by omega)⟩
  | cons c l ih =>
    intro f u ps sl hf hu h1 h2 h3 h4
    have em : u + (c :: l).length * (s + t + 1) = (u + t + s + 1) + l.length * (s + t + 1) := by
      simp only [List.length_cons, Nat.add_mul, Nat.one_mul]; omega
    rw [em] at hu ⊢
    have e1 := rmul_run hf sr (by omega)
    have e2 := radd_run (hf.mul sr) sl.head (by omega)
    obtain ⟨ps', a1, a2⟩ := ih (f * r + c) (u + t + s + 1) ((ps.set "number" (rv c)).set "found" (rv (f * r + c))) sl.tail ((hf.mul sr).add sl.head) hu h1 h2 (by simp only [↓reduceIte, loc_set]) (by simp only [String.reduceEq, ↓reduceIte, loc_set, h4])
    refine ⟨ps', ?_, a2⟩
    simp only [List.map_cons, pTurns]
    rw [show pPut "number" ps (rv c) = some (ps.set "number" (rv c)) by simp only [pPut, reduceCtorEq, or_self, ↓reduceIte, h1, h2]]
    simp only [Option.bind_some]
    rw [seq_next (ps₁ := (ps.set "number" (rv c)).set "found" (rv (f * r + c))) (by simp only [pVar, pCons, pNil, pCall, pAssign, pPut, reduceCtorEq, String.reduceEq, or_self, ↓reduceIte, Option.map, loc_set, own_set, par_set, h1, h2, h3, h4, e1, e2]) (show pEnd _ = some (.next, _) from rfl)]
    exact a1
theorem szl_rev {s : Nat} {p : List Rat} (h : SzL s p) : SzL s p.reverse := fun i => by
  by_cases hi : i < p.reverse.length
  · have := cf_mem p.reverse i hi
    rw [List.mem_reverse] at this
    obtain ⟨j, _, e⟩ := mem_cf this
    rw [← e]; exact h j
  · rw [cf_ge _ _ (by omega)]; exact sz0 s
theorem ev_foldl (p : List Rat) (r : Rat) : p.reverse.foldl (fun acc c => acc * r + c) 0 = ev p r := by
  rw [List.foldl_reverse]
  induction p with
  | nil => rfl
  | cons c p ih => simp only [List.foldr_cons, ih, ev]; grind
theorem qat_run {s t : Nat} {p : List Rat} {r : Rat} (hp : p.length ≤ 2 ^ 20) (sp : SzL s p) (sr : Sz t r) (h : p.length * (s + t + 1) ≤ 2 ^ 26) : sp_qat [pv p, rv r] = some (rv (ev p r)) ∧ Sz (p.length * (s + t + 1)) (ev p r) := by
  obtain ⟨ps', e1, e2, e3, e4, e5⟩ := qat_loop sr p.reverse 0 0 ((args ["p", "r"] [pv p, rv r]).set "found" (rv 0)) (szl_rev sp) (sz0 0) (by rw [List.length_reverse]; omega) rfl rfl (by simp only [↓reduceIte, loc_set]) (by simp only [List.zip, List.zipWith, List.lookup_cons, String.reduceEq, String.reduceBEq, beq_self_eq_true, ↓reduceIte, loc_set, loc_args])
  rw [ev_foldl] at e4 e5
  rw [List.length_reverse, Nat.zero_add] at e5
  refine ⟨run_of rfl (seq_next (ps₁ := (args ["p", "r"] [pv p, rv r]).set "found" (rv 0)) ?_ (seq_next (ps₁ := ps') ?_ (seq_ret (ret_of (ps₁ := ps'.freeze) ?_)))), e5⟩
  · simp only [pK, pAssign, pPut, reduceCtorEq, or_self, ↓reduceIte, Option.map, own_args, par_args, ← rv0]
  · unfold pFor
    rw [pRv_pv (q := p) (ps' := (args ["p", "r"] [pv p, rv r]).set "found" (rv 0)) (by simp only [List.zip, List.zipWith, List.lookup_cons, pVar, reduceCtorEq, String.reduceEq, beq_self_eq_true, or_self, ↓reduceIte, Option.map, loc_set, own_set, par_set, loc_args, own_args, par_args]) hp]
    exact e1
  · simp only [pVar, reduceCtorEq, or_self, ↓reduceIte, Option.map, loc_freeze, own_freeze, par_freeze, e3, e4]

/-! division -/
theorem rpow_add (x : Rat) (m : Nat) : ∀ n : Nat, x ^ (m + n) = x ^ m * x ^ n
  | 0 => by simp only [Nat.add_zero, Rat.pow_zero]; grind
  | n + 1 => by rw [← Nat.add_assoc, Rat.pow_succ, Rat.pow_succ, rpow_add x m n]; grind
noncomputable def stp (m β γ S : Nat) : Nat := if m = 0 then S else 2 * S + β + γ + 1
noncomputable def stN (m β γ : Nat) : Nat → Nat → Nat
  | 0, S => S
  | k + 1, S => stN m β γ k (stp m β γ S)
theorem stp_ge (m β γ S : Nat) : S ≤ stp m β γ S := by unfold stp; split <;> omega
theorem stN_ge (m β γ : Nat) : ∀ (k S : Nat), S ≤ stN m β γ k S
  | 0, S => Nat.le_refl _
  | k + 1, S => Nat.le_trans (stp_ge m β γ S) (stN_ge m β γ k _)
noncomputable def pscale0 (r : Rat) (p : List Rat) : List Rat := if r = 0 then [] else pscale r p
theorem cf_pscale0 (r : Rat) (p : List Rat) (i : Nat) : cf (pscale0 r p) i = r * cf p i := by
  unfold pscale0; split
  · rename_i h; subst h; simp only [cf_nil]; grind
  · exact cf_pscale r p i
theorem ev_pscale0 (r : Rat) (p : List Rat) (x : Rat) : ev (pscale0 r p) x = r * ev p x := by
  unfold pscale0; split
  · rename_i h; subst h; simp only [ev]; grind
  · exact ev_pscale r p x
theorem len_pscale0_le (r : Rat) (p : List Rat) : (pscale0 r p).length ≤ p.length := by
  unfold pscale0; split
  · simp
  · rw [len_pscale]; exact Nat.le_refl _
theorem qscale_any {s t : Nat} {p : List Rat} {r : Rat} (hp : p.length ≤ 2 ^ 20) (sp : SzL s p) (sr : Sz t r) (h : s + t ≤ 2 ^ 26) : sp_qscale [pv p, rv r] = some (pv (pscale0 r p)) := by
  unfold pscale0
  split
  · rename_i h0; subst h0; exact qscale_zero
  · rename_i h0; exact qscale_run hp sp sr h h0
theorem len_trim_le : ∀ (p : List Rat), (trim p).length ≤ p.length
  | [] => Nat.le_refl _
  | c :: p => by
    have := len_trim_le p
    unfold trim
    cases h : trim p with
    | nil => dsimp only; split <;> simp
    | cons d q => rw [h] at this; simp only [List.length_cons] at *; omega
theorem ev_dropLast : ∀ (p : List Rat) (n : Nat) (x : Rat), p.length = n + 1 → ev p x = ev p.dropLast x + x ^ n * cf p n
  | [], n, x, h => by simp at h
  | [c], n, x, h => by
    obtain rfl : n = 0 := by simpa using h.symm
    simp only [List.dropLast_singleton, ev, cf_zero, Rat.pow_zero]; grind
  | c :: d :: p, n, x, h => by
    obtain ⟨k, rfl⟩ : ∃ k, n = k + 1 := ⟨n - 1, by simp at h; omega⟩
    have := ev_dropLast (d :: p) k x (by simpa using h)
    rw [List.dropLast_cons_of_ne_nil (by simp)]
    show c + x * ev (d :: p) x = c + x * ev (d :: p).dropLast x + x ^ (k + 1) * cf (d :: p) k
    rw [this, Rat.pow_succ]; grind
theorem szl_dropLast {s : Nat} {p : List Rat} (h : SzL s p) : SzL s p.dropLast := fun i => by
  rw [List.dropLast_eq_take, cf_take]
  split
  · exact h i
  · exact sz0 s

inductive DivR (b : List Rat) (m V Z : Nat) (R F : List Rat) (ps : PS) : Prop
  | mk (ps' : PS) (R' F' : List Rat) (h0 : pWh (pCmp fGe (pUnN fLen "rest") (pUnN fLen "b")) (pSeq (pUnpR ["number", "power"] (pTup (pCons (pCall sp_rdiv (pCons (pSubN "rest" (pUn fNeg (pK (.int 1)))) (pCons (pSubN "b" (pUn fNeg (pK (.int 1)))) pNil))) (pCons (pBin fSub (pUnN fLen "rest") (pUnN fLen "b")) pNil))))
    (pSeq (pSetItem "found" (pVar "power") (pVar "number"))
    (pSeq (pAssign "lower" (pCall sp_qsub (pCons (pBin fUpto (pVar "rest") (pUn fNeg (pK (.int 1)))) (pCons (pCall sp_qraise (pCons (pCall sp_qscale (pCons (pBin fUpto (pVar "b") (pUn fNeg (pK (.int 1)))) (pCons (pVar "number") pNil))) (pCons (pVar "power") pNil))) pNil))))
    (pSeq (pAssign "rest" (pVar "lower"))
    pEnd)))) ps = some (.next, ps')) (h1 : R'.length ≤ m) (h2 : Tr R') (h3 : SzL (Z) R') (h4 : F'.length = F.length) (h5 : SzL V F') (h6 : (∀ x, ev F' x * ev b x + ev R' x = ev F x * ev b x + ev R x)) (h7 : ps'.own = some "found") (h8 : ps'.par = none) (h9 : ps'.loc "rest" = some (pv R')) (h10 : ps'.loc "found" = some (pv F')) : DivR b m V Z R F ps
theorem divmod_loop {b : List Rat} {m β γ : Nat} (hm : b.length = m + 1) (hL : cf b m ≠ 0) (sb : SzL β b) (hb : b.length ≤ 2 ^ 18) (hγ : ∀ s r, Sz s r → Sz (s + γ) (r / cf b m)) :
    ∀ (k : Nat) (R F : List Rat) (ps : PS) (S V : Nat), R.length ≤ m + k → R.length ≤ 2 ^ 18 → Tr R → SzL S R → F.length ≤ 2 ^ 18 → k ≤ F.length → (∀ i, i + m < R.length → cf F i = 0) → SzL V F → stN m β γ k S + γ ≤ V → stN m β γ k S + β + γ ≤ 2 ^ 26 →
    ps.own = some "found" → ps.par = none → ps.loc "rest" = some (pv R) → ps.loc "found" = some (pv F) → ps.loc "b" = some (pv b) →
    DivR b m V (stN m β γ k S) R F ps := by
  intro k
  induction k with
  | zero =>
    intro R F ps S V h1 h1' h2 h3 h4 h5 h6 h7 h8 h9 g1 g2 g3 g4 g5
    refine ⟨ps, R, F, pWh_stop (ps' := ps) ?_, by omega, h2, h3, rfl, h7, fun x => rfl, g1, g2, g3, g4⟩
    have d : decide ((R.length : Int) ≥ b.length) = false := decide_eq_false (by omega)
    simp only [pCmp, pUnN, Option.map, Option.bind, g3, g5, fLen_pv (p := R) (by omega), fLen_pv (p := b) (by omega), fGe_int, d]
  | succ k ih =>
    intro R F ps S V h1 h1' h2 h3 h4 h5 h6 h7 h8 h9 g1 g2 g3 g4 g5
    have lR := fLen_pv (p := R) (by omega)
    have lb := fLen_pv (p := b) (by omega)
    by_cases hlt : R.length ≤ m
    · refine ⟨ps, R, F, pWh_stop (ps' := ps) ?_, hlt, h2, h3.mono (stN_ge ..), rfl, h7, fun x => rfl, g1, g2, g3, g4⟩
      have d : decide ((R.length : Int) ≥ b.length) = false := decide_eq_false (by omega)
      simp only [pCmp, pUnN, Option.map, Option.bind, g3, g5, lR, lb, fGe_int, d]
    · obtain ⟨n, hn⟩ : ∃ n, R.length = n + 1 := ⟨R.length - 1, by omega⟩
      have hsz := stN_ge m β γ k (stp m β γ S)
      have hsz0 := stp_ge m β γ S
      simp only [stN] at h8 h9 ⊢
      have hS : S + β + γ ≤ 2 ^ 26 := by omega
      have d : decide ((R.length : Int) ≥ b.length) = true := decide_eq_true (by omega)
      have e1 := rdiv_run (h3 n) (sb m) hL (by omega)
      have sN := hγ S (cf R n) (h3 n)
      have eR := pick_last (p := R) (k := -1) n (by omega) rfl hn
      have eb := pick_last (p := b) (k := -1) m (by omega) rfl hm
      have fR := fUpto_last (p := R) (k := -1) (by omega) rfl
      have fb := fUpto_last (p := b) (k := -1) (by omega) rfl
      have e2 := qscale_any (p := b.dropLast) (by simp; omega) (szl_dropLast sb) sN (by omega)
      have hpl : (pscale0 (cf R n / cf b m) b.dropLast).length ≤ m := Nat.le_trans (len_pscale0_le _ _) (by simp; omega)
      have e3 := qraise_run (p := pscale0 (cf R n / cf b m) b.dropLast) (k := n - m) (by omega) (by omega)
      have hrl := len_praise_le (n - m) (pscale0 (cf R n / cf b m) b.dropLast)
      have sz1 : SzL (if m = 0 then 0 else β + (S + γ)) (praise (n - m) (pscale0 (cf R n / cf b m) b.dropLast)) := by
        refine SzL.praise (fun i => ?_) _
        rw [cf_pscale0]
        by_cases hm0 : m = 0
        · rw [if_pos hm0, cf_ge b.dropLast i (by simp; omega), Rat.mul_zero]; exact sz0 0
        · rw [if_neg hm0, Rat.mul_comm]; exact (szl_dropLast sb i).mul sN
      have hfit : S + (if m = 0 then 0 else β + (S + γ)) ≤ 2 ^ 26 := by
        unfold stp at hsz hsz0
        split <;> rename_i hm0
        · omega
        · rw [if_neg hm0] at hsz; unfold stp at h9; rw [if_neg hm0] at h9; omega
      have e4 := qsub_run (a := R.dropLast) (b := praise (n - m) (pscale0 (cf R n / cf b m) b.dropLast)) (by simp; omega) (by omega) (szl_dropLast h3) sz1 hfit
      have hpow : (R.length : Int) - b.length = ((n - m : Nat) : Int) := by omega
      have hset := pSetItem_pv (x := "found") (q := pVar "power") (p := pVar "number") (ps := (ps.set "power" (.int (n - m : Nat))).set "number" (rv (cf R n / cf b m))) (ps₁ := (ps.set "power" (.int (n - m : Nat))).set "number" (rv (cf R n / cf b m))) (ps₂ := (ps.set "power" (.int (n - m : Nat))).set "number" (rv (cf R n / cf b m))) (F := F) (c := cf R n / cf b m) (k := (n - m : Nat)) (n - m) (by simp only [pVar, reduceCtorEq, String.reduceEq, or_self, Option.some.injEq, ↓reduceIte, Option.map, loc_set, own_set, par_set, g1, g2]) (by simp only [String.reduceEq, ↓reduceIte, loc_set, g4]) (by simp only [pVar, reduceCtorEq, String.reduceEq, or_self, Option.some.injEq, ↓reduceIte, Option.map, loc_set, own_set, par_set, g1, g2]) (by simp only [String.reduceEq, ↓reduceIte, loc_set, g4]) g1 rfl (by omega) (by omega)
      obtain ⟨ps', R', F', a1, a2, a3, a4, a5, a6, a7, a8, a9, a10, a11⟩ := ih (trim (padd R.dropLast (pneg (praise (n - m) (pscale0 (cf R n / cf b m) b.dropLast))))) (F.set (n - m) (cf R n / cf b m))
        ((((((ps.set "power" (.int (n - m : Nat))).set "number" (rv (cf R n / cf b m))).set "found" (pv (F.set (n - m) (cf R n / cf b m))))).set "lower" (pv (trim (padd R.dropLast (pneg (praise (n - m) (pscale0 (cf R n / cf b m) b.dropLast))))))).set "rest" (pv (trim (padd R.dropLast (pneg (praise (n - m) (pscale0 (cf R n / cf b m) b.dropLast)))))))
        (stp m β γ S) V
        (by
          refine Nat.le_trans (len_trim_le _) ?_
          rw [len_padd, len_pneg, List.length_dropLast]; omega)
        (by
          refine Nat.le_trans (len_trim_le _) ?_
          rw [len_padd, len_pneg, List.length_dropLast]; omega)
        (tr_trim _)
        (SzL.trim fun i => by
          rw [cf_padd, cf_pneg]
          unfold stp
          by_cases hm0 : m = 0
          · rw [if_pos hm0]
            have hz : cf (praise (n - m) (pscale0 (cf R n / cf b m) b.dropLast)) i = 0 := by
              have : pscale0 (cf R n / cf b m) b.dropLast = [] := List.length_eq_zero_iff.mp (by omega)
              rw [this]; rfl
            rw [hz, Rat.neg_zero, Rat.add_zero]
            exact szl_dropLast h3 i
          · rw [if_neg hm0]
            rw [if_neg hm0] at sz1
            exact ((szl_dropLast h3 i).add (sz1 i).neg).mono (by omega))
        (by simpa using h4) (by simp; omega)
        (fun i hi => by
          have hl := len_trim_le (padd R.dropLast (pneg (praise (n - m) (pscale0 (cf R n / cf b m) b.dropLast))))
          rw [len_padd, len_pneg, List.length_dropLast] at hl
          rw [cf_set _ _ _ _ (by omega), if_neg (by omega)]
          exact h6 i (by omega))
        (fun i => by
          rw [cf_set _ _ _ _ (by omega)]
          split
          · exact sN.mono (by omega)
          · exact h7 i)
        h8 h9 g1 g2 (by simp only [↓reduceIte, loc_set]) (by simp only [String.reduceEq, ↓reduceIte, loc_set]) (by simp only [String.reduceEq, ↓reduceIte, loc_set, g5])
      refine ⟨ps', R', F', pWh_turn (ps₁ := ps) (ps₂ := _) ?_ (seq_next (ps₁ := (ps.set "power" (.int (n - m : Nat))).set "number" (rv (cf R n / cf b m))) ?_ (seq_next hset (seq_next (ps₁ := (((((ps.set "power" (.int (n - m : Nat))).set "number" (rv (cf R n / cf b m))).set "found" (pv (F.set (n - m) (cf R n / cf b m))))).set "lower" (pv (trim (padd R.dropLast (pneg (praise (n - m) (pscale0 (cf R n / cf b m) b.dropLast)))))))) ?_ ?_))) a1, a2, a3, a4, by rw [a5]; simp, a6, fun x => ?_, a8, a9, a10, a11⟩
      · simp only [pCmp, pUnN, Option.map, Option.bind, g3, g5, lR, lb, fGe_int, d]
      · simp only [List.length_cons, List.length_nil, pK, pSubN, pBin, pUn, pUnN, pTup, pCons, pNil, pCall, pPut, pUnpR, pPuts, fSub, fNeg, Option.isSome_some, reduceCtorEq, String.reduceEq, or_self, Option.some.injEq, List.reverse_cons, List.reverse_nil, List.nil_append, List.cons_append, ↓reduceIte, Nat.reduceAdd, Nat.reduceLeDiff, Nat.zero_add, Option.map, Option.bind, own_set, par_set, g1, g2, g3, g5, lR, lb, Int.reduceNeg, eR, eb, e1, hpow]
      · simp only [pK, pVar, pBin, pUn, pCons, pNil, pCall, pAssign, pPut, fNeg, reduceCtorEq, String.reduceEq, or_self, Option.some.injEq, ↓reduceIte, Option.map, loc_set, own_set, par_set, g1, g2, g3, g5, Int.reduceNeg, fR, fb, e2, e3, e4]
      · simp only [pSeq, pEnd, pVar, pAssign, pPut, reduceCtorEq, String.reduceEq, or_self, Option.some.injEq, ↓reduceIte, Option.map, loc_set, own_set, par_set, g1, g2]
      · have c1 := ev_dropLast R n x hn
        have c2 := ev_dropLast b m x hm
        have c3 : ev (trim (padd R.dropLast (pneg (praise (n - m) (pscale0 (cf R n / cf b m) b.dropLast))))) x = ev R.dropLast x - x ^ (n - m) * (cf R n / cf b m * ev b.dropLast x) := by
          rw [evp_congr _ _ _ (cf_trim _), ev_padd, ev_pneg, ev_praise, ev_pscale0]; grind
        have c4 : x ^ n = x ^ (n - m) * x ^ m := by rw [← rpow_add]; congr 1; omega
        have c5 : cf R n / cf b m * cf b m = cf R n := Rat.div_mul_cancel hL
        rw [a7, ev_set _ _ _ _ (by omega), h6 (n - m) (by omega), c3, c1, c2, c4]
        rw [← c5]
        grind

theorem qdivmod_run {a b : List Rat} {m β γ S : Nat} (k : Nat) (hm : b.length = m + 1) (hL : cf b m ≠ 0) (sb : SzL β b) (hb : b.length ≤ 2 ^ 17) (hγ : ∀ s r, Sz s r → Sz (s + γ) (r / cf b m)) (ha : a.length ≤ 2 ^ 17) (hk : k = a.length - m) (ta : Tr a) (sa : SzL S a) (h : stN m β γ k S + β + γ ≤ 2 ^ 26) :
    ∃ q r, sp_qdivmod [pv a, pv b] = some (.tup [pv q, pv r]) ∧ Tr q ∧ Tr r ∧ r.length ≤ m ∧ q.length ≤ k ∧ SzL (stN m β γ k S + γ) q ∧ SzL (stN m β γ k S) r ∧ (∀ x, ev a x = ev q x * ev b x + ev r x) := by
  have hz : ∀ i, cf (List.replicate k 0) i = 0 := fun i => by
    by_cases hi : i < k
    · have := cf_raise_lt k [] i hi
      rw [List.append_nil] at this; exact this
    · exact cf_ge _ _ (by simpa using hi)
  have la := fLen_pv (p := a) (by omega)
  have lb := fLen_pv (p := b) (by omega)
  obtain ⟨ps', R, F, e1, e2, e3, e4, e5, e6, e7, e8, e9, e10, e11⟩ := divmod_loop (b := b) hm hL sb (by omega) hγ k a (List.replicate k 0) ({ (({ (args ["a", "b"] [pv a, pv b]).set "found" (pv (List.replicate k 0)) with own := some "found" } : PS).set "rest" (pv a)) with own := some "found" }) S (stN m β γ k S + γ) (by omega) (by omega) ta sa (by simp; omega) (by simp) (fun i _ => hz i) (fun i => by rw [hz]; exact sz0 _) (Nat.le_refl _) h rfl rfl rfl rfl rfl
  have hlF : F.length = k := by rw [e5]; simp
  refine ⟨trim F, R, ?_, tr_trim _, e3, e2, by rw [← hlF]; exact len_trim_le F, e6.trim, e4, fun x => ?_⟩
  · have d : decide ((b.length : Int) = 0) = false := decide_eq_false (by omega)
    have hmax : (if (a.length : Int) - b.length + 1 > 0 then (a.length : Int) - b.length + 1 else 0) = (k : Int) := by split <;> omega
    have t1 := qtrim_run F (by omega)
    refine run_of rfl (seq_next (ps₁ := args ["a", "b"] [pv a, pv b]) ?_ (seq_next (ps₁ := { (({ (args ["a", "b"] [pv a, pv b]).set "found" (pv (List.replicate k 0)) with own := some "found" } : PS).set "rest" (pv a)) with own := some "found" }) ?_ (seq_next e1 (seq_ret (ret_of (ps₁ := ps'.freeze) ?_)))))
    · simp only [List.zip, List.zipWith, List.lookup_cons, pEnd, pStIf, pCmp, pK, pUnN, String.reduceBEq, beq_self_eq_true, Option.map, Option.bind, loc_args, lb, fEq_int, d]
    · unfold pUnpO
      rw [show pFr (pCopy (pVar "a")) (args ["a", "b"] [pv a, pv b]) = some (pv a, args ["a", "b"] [pv a, pv b]) by
        simp only [pFr]
        rw [pCopy_pv (q := a) (ps' := args ["a", "b"] [pv a, pv b]) (by simp only [List.zip, List.zipWith, List.lookup_cons, pVar, reduceCtorEq, beq_self_eq_true, or_self, ↓reduceIte, Option.map, loc_args, own_args, par_args]) (by omega)]
        rfl]
      simp only
      rw [pMulL_pv (c := 0) (k := k) k (ps₁ := args ["a", "b"] [pv a, pv b]) (ps₂ := args ["a", "b"] [pv a, pv b]) (by simp only [List.length_cons, List.length_nil, pK, pCons, pNil, pFr, pDisp, ↓reduceIte, Nat.reduceLeDiff, Nat.zero_add, Option.map, pv, List.map_cons, List.map_nil, rv0]) (by simp only [List.zip, List.zipWith, List.lookup_cons, pK, pBin, pUnN, fAdd, fSub, String.reduceBEq, beq_self_eq_true, Option.map, Option.bind, loc_args, la, lb, fMax_int, hmax]) rfl (by omega)]
      rfl
    · simp only [List.length_cons, List.length_nil, pVar, pTup, pCons, pNil, pCall, reduceCtorEq, or_self, ↓reduceIte, Nat.reduceAdd, Nat.reduceLeDiff, Nat.zero_add, Option.map, loc_freeze, own_freeze, par_freeze, e9, e10, e11, t1]
  · rw [evp_congr _ _ _ (cf_trim F), e7, ev_zero _ _ hz]; grind

/-! monic -/
theorem qmonic_nil : sp_qmonic [pv []] = some (pv []) := by
  refine run_of rfl (seq_ret (ret_of (ps₁ := (args ["p"] [pv []]).freeze) ?_))
  simp only [pIf]
  rw [show pCmp fGt (pUnN fLen "p") (pK (PV.int 0)) (args ["p"] [pv []]).freeze = some (false, (args ["p"] [pv []]).freeze) by simp only [List.zip, List.zipWith, List.lookup_cons, List.length_nil, pCmp, pK, pUnN, beq_self_eq_true, Option.some.injEq, Option.map, Option.bind, loc_freeze, loc_args, fLen_pv (p := []) (by simp), fGt_int]; rfl]
  rfl
theorem qmonic_run {p : List Rat} {n s : Nat} (hn : p.length = n + 1) (hp : p.length ≤ 2 ^ 20) (h0 : cf p n ≠ 0) (sp : SzL s p) (h : s + s ≤ 2 ^ 26) : sp_qmonic [pv p] = some (pv (pscale (cf p n)⁻¹ p)) := by
  have d : decide ((p.length : Int) > 0) = true := decide_eq_true (by omega)
  have e1 := pick_last (p := p) (k := -1) n hp rfl hn
  have hi : (cf p n)⁻¹ ≠ 0 := by
    intro hi
    have := Rat.mul_inv_cancel (cf p n) h0
    rw [hi] at this; grind
  have e2 := qscale_run hp sp (sp n).inv h hi
  refine run_of rfl (seq_ret (ret_of (ps₁ := (args ["p"] [pv p]).freeze) ?_))
  simp only [pIf]
  rw [show pCmp fGt (pUnN fLen "p") (pK (PV.int 0)) (args ["p"] [pv p]).freeze = some (true, (args ["p"] [pv p]).freeze) by simp only [List.zip, List.zipWith, List.lookup_cons, pCmp, pK, pUnN, beq_self_eq_true, Option.map, Option.bind, loc_freeze, loc_args, fLen_pv hp, fGt_int, d]]
  simp only [List.zip, List.zipWith, List.lookup_cons, pK, pVar, pSubN, pUn, pCons, pNil, pCall, fNeg, Option.isSome_some, reduceCtorEq, beq_self_eq_true, or_self, ↓reduceIte, Option.map, Option.bind, loc_freeze, own_freeze, par_freeze, loc_args, par_args, Int.reduceNeg, e1, rinv_run _ h0, e2]
end NN
end

section
open PySem PySem.W PyProof.Rows PySem.Calls PySem.Spec PySem.Builtin.Int
set_option Elab.async false
set_option autoImplicit false
set_option maxRecDepth 10000
set_option linter.unusedSimpArgs false
set_option linter.unusedVariables false

namespace NN
/-! equality of trees -/
noncomputable def fv (T B : List Rat) : PV := .tup [pv T, pv B]
theorem lay_rv (q : Rat) : (rv q).py.canLay0 = true ∧ (rv q).py.depth = 1 := by
  simp [rv_rt, PV.py, PV.pys, PyData.canLay0, PyData.canLayAll0, PyData.depth, PyData.depthAll]
theorem lay_rvs : ∀ (p : List Rat), PyData.canLayAll0 (PV.pys (p.map rv)) = true ∧ PyData.depthAll (PV.pys (p.map rv)) ≤ 1
  | [] => by simp [PV.pys, PyData.canLayAll0, PyData.depthAll]
  | c :: p => by
    obtain ⟨h1, h2⟩ := lay_rvs p
    obtain ⟨g1, g2⟩ := lay_rv c
    simp only [List.map_cons, PV.pys, PyData.canLayAll0, PyData.depthAll, h1, g1, g2, Bool.and_self, true_and]
    omega
theorem lay_pv (p : List Rat) : (pv p).py.canLay0 = true ∧ (pv p).py.depth ≤ 2 := by
  obtain ⟨h1, h2⟩ := lay_rvs p
  simp only [pv, PV.py, PyData.canLay0, PyData.depth, h1, true_and]
  omega
theorem lay_fv (p q : List Rat) : (fv p q).py.canLay0 = true ∧ (fv p q).py.depth ≤ 3 := by
  obtain ⟨h1, h2⟩ := lay_pv p
  obtain ⟨g1, g2⟩ := lay_pv q
  simp only [fv, PV.py, PV.pys, PyData.canLay0, PyData.canLayAll0, PyData.depth, PyData.depthAll] at *
  simp only [h1, g1, Bool.and_self, true_and]
  omega
theorem small_of {x : PV} (h : x.py.canLay0 = true) (g : x.py.depth ≤ 60) : small x = true := by
  unfold small; rw [h, decide_eq_true g]; rfl
theorem small_rv (q : Rat) : small (rv q) = true := small_of (lay_rv q).1 (by have := (lay_rv q).2; omega)
theorem small_pv (p : List Rat) : small (pv p) = true := small_of (lay_pv p).1 (by have := (lay_pv p).2; omega)
theorem small_fv (p q : List Rat) : small (fv p q) = true := small_of (lay_fv p q).1 (by have := (lay_fv p q).2; omega)
theorem eqv_rv (a b : Rat) : PyData.eqv (rv a).py (rv b).py = decide (a = b) := by
  simp only [rv_rt, PV.py, PV.pys, PyData.eqv, PyData.eqvAll, Bool.and_true]
  by_cases h : a = b
  · subst h; simp
  · rw [decide_eq_false h]
    by_cases h1 : a.num = b.num
    · have : ((a.den : Int) == b.den) = false := by
        rw [beq_eq_false_iff_ne]; intro h2; exact h (Rat.ext h1 (by omega))
      rw [this, Bool.and_false]
    · have : (a.num == b.num) = false := by rw [beq_eq_false_iff_ne]; exact h1
      rw [this, Bool.false_and]
theorem eqv_rvs : ∀ (p q : List Rat), PyData.eqvAll (PV.pys (p.map rv)) (PV.pys (q.map rv)) = decide (p = q)
  | [], [] => by simp [PV.pys, PyData.eqvAll]
  | [], _ :: _ => by simp [PV.pys, PyData.eqvAll]
  | _ :: _, [] => by simp [PV.pys, PyData.eqvAll]
  | c :: p, d :: q => by
    simp only [List.map_cons, PV.pys, PyData.eqvAll, eqv_rv, eqv_rvs p q]
    by_cases h1 : c = d <;> by_cases h2 : p = q <;> simp [h1, h2]
theorem eqv_pv (p q : List Rat) : PyData.eqv (pv p).py (pv q).py = decide (p = q) := by
  simp only [pv, PV.py, PyData.eqv, eqv_rvs]
theorem eqv_fv (p q p' q' : List Rat) : PyData.eqv (fv p q).py (fv p' q').py = decide (p = p' ∧ q = q') := by
  have h : PyData.eqv (fv p q).py (fv p' q').py = (PyData.eqv (pv p).py (pv p').py && (PyData.eqv (pv q).py (pv q').py && true)) := by
    simp only [fv, PV.py, PV.pys, PyData.eqv, PyData.eqvAll]
  rw [h, eqv_pv, eqv_pv]
  by_cases h1 : p = p' <;> by_cases h2 : q = q' <;> simp [h1, h2]
theorem fEq_rv (a b : Rat) : fEq (rv a) (rv b) = some (decide (a = b)) := by unfold fEq; rw [small_rv, small_rv, eqv_rv]; rfl
theorem fNe_rv (a b : Rat) : fNe (rv a) (rv b) = some (!decide (a = b)) := by unfold fNe; rw [small_rv, small_rv, eqv_rv]; rfl
theorem fEq_pv (a b : List Rat) : fEq (pv a) (pv b) = some (decide (a = b)) := by unfold fEq; rw [small_pv, small_pv, eqv_pv]; rfl
theorem fNe_pv (a b : List Rat) : fNe (pv a) (pv b) = some (!decide (a = b)) := by unfold fNe; rw [small_pv, small_pv, eqv_pv]; rfl
theorem fEq_fv (a b c d : List Rat) : fEq (fv a b) (fv c d) = some (decide (a = c ∧ b = d)) := by unfold fEq; rw [small_fv, small_fv, eqv_fv]; rfl
theorem fNe_fv (a b c d : List Rat) : fNe (fv a b) (fv c d) = some (!decide (a = c ∧ b = d)) := by unfold fNe; rw [small_fv, small_fv, eqv_fv]; rfl
theorem pv_nil : pv [] = .lst [] := rfl
theorem pick_fv0 (T B : List Rat) : pick (fv T B) 0 = some (pv T) := rfl
theorem pick_fv1 (T B : List Rat) : pick (fv T B) 1 = some (pv B) := rfl

/-! the monic one -/
noncomputable def mo (p : List Rat) : List Rat := pscale (cf p (p.length - 1))⁻¹ p
theorem inv_ne {x : Rat} (h : x ≠ 0) : x⁻¹ ≠ 0 := by
  intro hi
  have := Rat.mul_inv_cancel x h
  rw [hi] at this; grind
theorem mo_nil : mo [] = [] := rfl
theorem len_mo (p : List Rat) : (mo p).length = p.length := len_pscale _ _
theorem mo_ne {p : List Rat} (h : p ≠ []) : mo p ≠ [] := by
  intro e
  have := len_mo p
  rw [e] at this
  exact h (List.length_eq_zero_iff.mp this.symm)
theorem mo_lead {p : List Rat} (h : Tr p) {n : Nat} (hn : (mo p).length = n + 1) : cf (mo p) n = 1 := by
  rw [len_mo] at hn
  unfold mo
  have : p.length - 1 = n := by omega
  rw [this, cf_pscale, Rat.mul_comm, Rat.mul_inv_cancel _ (h n hn)]
theorem tr_mo {p : List Rat} (h : Tr p) : Tr (mo p) := fun n hn => by rw [mo_lead h hn]; decide
theorem ev_mo {p : List Rat} (h : Tr p) : ∃ k : Rat, k ≠ 0 ∧ ∀ x, ev (mo p) x = k * ev p x := by
  by_cases h0 : p = []
  · subst h0
    exact ⟨1, by decide, fun x => by simp only [mo_nil, ev]; grind⟩
  · have := List.length_pos_iff.mpr h0
    exact ⟨_, inv_ne (h (p.length - 1) (by omega)), fun x => ev_pscale _ _ _⟩
theorem szl_mo {p : List Rat} {s : Nat} (h : SzL s p) : SzL (2 * s) (mo p) := fun i => by
  unfold mo; rw [cf_pscale]; exact ((h _).inv.mul (h i)).mono (by omega)
theorem mo_one {p : List Rat} (h : Tr p) (h1 : p.length = 1) : mo p = [1] := by
  have := mo_lead h (n := 0) (by rw [len_mo]; exact h1)
  obtain ⟨c, hc⟩ := List.length_eq_one_iff.mp (show (mo p).length = 1 by rw [len_mo]; exact h1)
  rw [hc] at this ⊢
  have : c = 1 := this
  rw [this]
theorem szl_one (s : Nat) : SzL s [1] := szl_cons (sz1 s) (szl_nil s)
theorem qmonic_any {p : List Rat} {s : Nat} (hp : p.length ≤ 2 ^ 20) (tp : Tr p) (sp : SzL s p) (h : s + s ≤ 2 ^ 26) : sp_qmonic [pv p] = some (pv (mo p)) := by
  by_cases h0 : p = []
  · subst h0; exact qmonic_nil
  · have hl := List.length_pos_iff.mpr h0
    exact qmonic_run (n := p.length - 1) (by omega) hp (tp _ (by omega)) sp h

/-! the greatest common divisor -/
noncomputable def mx (n : Nat) (f : Nat → Nat) : Nat := (List.range n).foldr (fun i acc => max (f i) acc) 0
theorem le_fold (f : Nat → Nat) : ∀ (l : List Nat) (i : Nat), i ∈ l → f i ≤ l.foldr (fun i acc => max (f i) acc) 0
  | [], _, h => by simp at h
  | a :: l, i, h => by
    rcases List.mem_cons.mp h with rfl | h
    · exact Nat.le_max_left ..
    · exact Nat.le_trans (le_fold f l i h) (Nat.le_max_right ..)
theorem le_mx {n : Nat} {f : Nat → Nat} {i : Nat} (h : i < n) : f i ≤ mx n f := le_fold f _ i (List.mem_range.mpr h)
noncomputable def GL : Nat → Nat → Nat → Nat → Nat → Nat
  | 0, la, _, sa, _ => if la = 1 then 0 else 2 * sa
  | fuel + 1, la, lb, sa, sb => if lb = 0 then (if la = 1 then 0 else 2 * sa) else mx lb fun lr => GL fuel lb lr sb (if lr = 1 then 0 else 2 * stN (lb - 1) sb 0 (la - (lb - 1)) sa)
noncomputable def GP : Nat → Nat → Nat → Nat → Nat → Nat
  | 0, _, _, sa, _ => 2 * sa
  | fuel + 1, la, lb, sa, sb => if lb = 0 then 2 * sa else max (stN (lb - 1) sb 0 (la - (lb - 1)) sa + sb) (max (2 * stN (lb - 1) sb 0 (la - (lb - 1)) sa) (mx lb fun lr => GP fuel lb lr sb (if lr = 1 then 0 else 2 * stN (lb - 1) sb 0 (la - (lb - 1)) sa)))
noncomputable def GL0 (la lb sa sb : Nat) : Nat := mx lb fun lr => GL lb lb lr sb (if lr = 1 then 0 else 2 * stN (lb - 1) sb sb (la - (lb - 1)) sa)
noncomputable def GP0 (la lb sa sb : Nat) : Nat := max (stN (lb - 1) sb sb (la - (lb - 1)) sa + 2 * sb) (max (2 * stN (lb - 1) sb sb (la - (lb - 1)) sa) (mx lb fun lr => GP lb lb lr sb (if lr = 1 then 0 else 2 * stN (lb - 1) sb sb (la - (lb - 1)) sa)))
theorem GL_zero (fuel la sa sb : Nat) : GL fuel la 0 sa sb = if la = 1 then 0 else 2 * sa := by cases fuel <;> simp [GL]
theorem GP_zero (fuel la sa sb : Nat) : GP fuel la 0 sa sb = 2 * sa := by cases fuel <;> simp [GP]

noncomputable def gcd_t : PE Bool := pCmp fGt (pUnN fLen "b") (pK (.int 0))
noncomputable def gcd_b : PSt := (pSeq (pUnpR ["a", "b"] (pTup (pCons (pVar "b") (pCons (pCall sp_qmonic (pCons (pSub (pCall sp_qdivmod (pCons (pVar "a") (pCons (pVar "b") pNil))) (pK (.int 1))) pNil)) pNil))))
    pEnd)
theorem gcd_step {a b : List Rat} {m β γ S : Nat} {ps : PS} (k : Nat) (hm : b.length = m + 1) (tb : Tr b) (sb : SzL β b) (hb : b.length ≤ 2 ^ 17) (hγ : ∀ s r, Sz s r → Sz (s + γ) (r / cf b m)) (ha : a.length ≤ 2 ^ 17) (hk : k = a.length - m) (ta : Tr a) (sa : SzL S a) (h : stN m β γ k S + β + γ ≤ 2 ^ 26) (h2 : 2 * stN m β γ k S ≤ 2 ^ 26)
    (h3 : ps.own = none) (h4 : ps.par = none) (h5 : ps.loc "a" = some (pv a)) (h6 : ps.loc "b" = some (pv b)) :
    ∃ q r, gcd_t ps = some (true, ps) ∧ gcd_b ps = some (.next, (ps.set "b" (pv (mo r))).set "a" (pv b)) ∧ Tr r ∧ r.length ≤ m ∧ SzL (stN m β γ k S) r ∧ (∀ x, ev a x = ev q x * ev b x + ev r x) := by
  obtain ⟨q, r, e1, e2, e3, e4, e5, e6, e7, e8⟩ := qdivmod_run k hm (tb m hm) sb hb hγ ha hk ta sa h
  have e9 := qmonic_any (p := r) (by omega) e3 e7 (by omega)
  refine ⟨q, r, ?_, ?_, e3, e4, e7, e8⟩
  · have d : decide ((b.length : Int) > 0) = true := decide_eq_true (by omega)
    simp only [gcd_t, pCmp, pK, pUnN, Option.map, Option.bind, h6, fLen_pv (p := b) (by omega), fGt_int, d]
  · simp only [gcd_b, List.length_cons, List.length_nil, pSeq, pEnd, pK, pVar, pSub, pBin, fPick, pTup, pCons, pNil, pCall, pPut, pUnpR, pPuts, reduceCtorEq, or_self, List.reverse_cons, List.reverse_nil, List.nil_append, List.cons_append, ↓reduceIte, Nat.reduceAdd, Nat.reduceLeDiff, Nat.zero_add, Option.map, Option.bind, own_set, par_set, h3, h4, h5, h6, e1, show ∀ u v : PV, pick (.tup [u, v]) 1 = some v from fun _ _ => rfl, e9]
inductive GcdL (a b : List Rat) (Z : Nat) (ps : PS) : Prop
  | mk (ps' : PS) (c : List Rat) (h0 : pWh gcd_t gcd_b ps = some (.next, ps')) (h1 : c ≠ []) (h2 : Tr c) (h3 : c.length ≤ 2 ^ 17) (h4 : SzL (Z) (mo c)) (h5 : (∃ s, SzL s c ∧ s + s ≤ 2 ^ 26)) (h6 : (∃ pa pb : Rat → Rat, IsP pa ∧ IsP pb ∧ ∀ x, ev a x = pa x * ev c x ∧ ev b x = pb x * ev c x)) (h7 : (∃ u v, IsP u ∧ IsP v ∧ ∀ x, u x * ev a x + v x * ev b x = ev c x)) (h8 : ps'.own = none) (h9 : ps'.par = none) (h10 : ps'.loc "a" = some (pv c)) : GcdL a b Z ps
theorem gcd_loop2 : ∀ (fuel : Nat) (a b : List Rat) (ps : PS) (sa sb : Nat), b.length ≤ fuel → a.length ≤ 2 ^ 17 → b.length ≤ 2 ^ 17 → Tr a → a ≠ [] → Tr b → (∀ n, b.length = n + 1 → cf b n = 1) → SzL sa a → SzL sb b → GP fuel a.length b.length sa sb ≤ 2 ^ 26 →
    ps.own = none → ps.par = none → ps.loc "a" = some (pv a) → ps.loc "b" = some (pv b) →
    GcdL a b (GL fuel a.length b.length sa sb) ps := by
  intro fuel
  induction fuel with
  | zero =>
    intro a b ps sa sb h1 ha hb ta a0 tb mb za zb hP g1 g2 g3 g4
    obtain rfl : b = [] := List.length_eq_zero_iff.mp (by omega)
    refine ⟨ps, a, pWh_stop (ps' := ps) ?_, a0, ta, ha, ?_, ⟨sa, za, by simp only [GP] at hP; omega⟩, ⟨fun _ => 1, fun _ => 0, IsP.const 1, IsP.const 0, fun x => ⟨by simp only [Rat.one_mul], by simp only [ev, Rat.zero_mul]⟩⟩, ⟨fun _ => 1, fun _ => 0, IsP.const 1, IsP.const 0, fun x => by grind⟩, g1, g2, g3⟩
    · simp only [gcd_t, List.length_nil, pCmp, pK, pUnN, Option.some.injEq, Option.map, Option.bind, g4, fLen_pv (p := []) (by simp), fGt_int]
      rfl
    · simp only [GL]
      split
      · rename_i h; rw [mo_one ta h]; exact szl_one 0
      · exact szl_mo za
  | succ fuel ih =>
    intro a b ps sa sb h1 ha hb ta a0 tb mb za zb hP g1 g2 g3 g4
    by_cases hb0 : b = []
    · subst hb0
      simp only [List.length_nil, GP_zero, GL_zero] at hP ⊢
      refine ⟨ps, a, pWh_stop (ps' := ps) ?_, a0, ta, ha, ?_, ⟨sa, za, by omega⟩, ⟨fun _ => 1, fun _ => 0, IsP.const 1, IsP.const 0, fun x => ⟨by simp only [Rat.one_mul], by simp only [ev, Rat.zero_mul]⟩⟩, ⟨fun _ => 1, fun _ => 0, IsP.const 1, IsP.const 0, fun x => by grind⟩, g1, g2, g3⟩
      · simp only [gcd_t, List.length_nil, pCmp, pK, pUnN, Option.some.injEq, Option.map, Option.bind, g4, fLen_pv (p := []) (by simp), fGt_int]
        rfl
      · split
        · rename_i h; rw [mo_one ta h]; exact szl_one 0
        · exact szl_mo za
    · have hpos := List.length_pos_iff.mpr hb0
      obtain ⟨m, hm⟩ : ∃ m, b.length = m + 1 := ⟨b.length - 1, by omega⟩
      have hm1 : b.length - 1 = m := by omega
      have hne : b.length ≠ 0 := by omega
      simp only [GP, GL, if_neg hne, hm1] at hP ⊢
      have hP1 := Nat.le_trans (Nat.le_max_left ..) hP
      have hP2 := Nat.le_trans (Nat.le_max_right ..) hP
      have hP3 := Nat.le_trans (Nat.le_max_left ..) hP2
      have hP4 := Nat.le_trans (Nat.le_max_right ..) hP2
      have hlead := mb m hm
      obtain ⟨q, r, e1, e2, e3, e4, e5, e6⟩ := gcd_step (γ := 0) (β := sb) (a.length - m) hm tb zb hb (fun s r h => by
        rw [hlead, show r / 1 = r by grind]; exact h) ha rfl ta za (by omega) hP3 g1 g2 g3 g4
      have zr : SzL (if (mo r).length = 1 then 0 else 2 * stN m sb 0 (a.length - m) sa) (mo r) := by
        split
        · rename_i h; rw [len_mo] at h; rw [mo_one e3 h]; exact szl_one 0
        · exact szl_mo e5
      have hlr : (mo r).length < b.length := by rw [len_mo]; omega
      obtain ⟨ps', c, f1, f2, f3, f4, f5, f6, ⟨pa, pb, f7, f8, f9⟩, ⟨u, v, k1, k2, k3⟩, f11, f12, f13⟩ := ih b (mo r) ((ps.set "b" (pv (mo r))).set "a" (pv b)) sb _ (by omega) hb (by omega) tb hb0 (tr_mo e3) (fun n hn => mo_lead e3 hn) zb zr (Nat.le_trans (le_mx (f := fun lr => GP fuel b.length lr sb (if lr = 1 then 0 else 2 * stN m sb 0 (a.length - m) sa)) hlr) hP4) g1 g2 (by simp only [↓reduceIte, loc_set]) (by simp only [String.reduceEq, ↓reduceIte, loc_set])
      obtain ⟨k, hk0, hk⟩ := ev_mo e3
      have hkk : k⁻¹ * k = 1 := Rat.inv_mul_cancel k hk0
      refine ⟨ps', c, pWh_turn e1 e2 f1, f2, f3, f4, f5.mono (le_mx (f := fun lr => GL fuel b.length lr sb (if lr = 1 then 0 else 2 * stN m sb 0 (a.length - m) sa)) hlr), f6, ⟨fun x => ev q x * pa x + k⁻¹ * pb x, pa, (IsP.mul (IsP.ev q) f7).add (IsP.mul (IsP.const _) f8), f7, fun x => ⟨?_, (f9 x).1⟩⟩, ⟨fun x => v x * k, fun x => u x + -1 * (v x * k * ev q x), k2.mul (IsP.const k), k1.add ((IsP.const (-1)).mul ((k2.mul (IsP.const k)).mul (IsP.ev q))), fun x => ?_⟩, f11, f12, f13⟩
      · have h9 := f9 x
        have h10 := hk x
        have h11 : ev r x = k⁻¹ * (pb x * ev c x) := by rw [← h9.2, h10]; grind
        rw [e6 x, h9.1, h11]; grind
      · have h9 := k3 x
        rw [hk x] at h9
        rw [← h9, e6 x]; grind
theorem qgcd_run {a b : List Rat} {sa sb : Nat} (ha : a.length ≤ 2 ^ 17) (hb : b.length ≤ 2 ^ 17) (ta : Tr a) (tb : Tr b) (b0 : b ≠ []) (za : SzL sa a) (zb : SzL sb b) (hP : GP0 a.length b.length sa sb ≤ 2 ^ 26) :
    ∃ g, sp_qgcd [pv a, pv b] = some (pv g) ∧ g ≠ [] ∧ Tr g ∧ g.length ≤ 2 ^ 17 ∧ (∀ n, g.length = n + 1 → cf g n = 1) ∧ SzL (GL0 a.length b.length sa sb) g ∧ (∃ pa pb : Rat → Rat, IsP pa ∧ IsP pb ∧ ∀ x, ev a x = pa x * ev g x ∧ ev b x = pb x * ev g x) ∧ (∃ u v, IsP u ∧ IsP v ∧ ∀ x, u x * ev a x + v x * ev b x = ev g x) := by
  have hpos := List.length_pos_iff.mpr b0
  obtain ⟨m, hm⟩ : ∃ m, b.length = m + 1 := ⟨b.length - 1, by omega⟩
  have hm1 : b.length - 1 = m := by omega
  simp only [GP0, GL0, hm1] at hP ⊢
  have hP1 := Nat.le_trans (Nat.le_max_left ..) hP
  have hP2 := Nat.le_trans (Nat.le_max_right ..) hP
  have hP3 := Nat.le_trans (Nat.le_max_left ..) hP2
  have hP4 := Nat.le_trans (Nat.le_max_right ..) hP2
  obtain ⟨q, r, e1, e2, e3, e4, e5, e6⟩ := gcd_step (ps := args ["a", "b"] [pv a, pv b]) (γ := sb) (β := sb) (a.length - m) hm tb zb hb (fun s r h => h.div (zb m)) ha rfl ta za (by omega) hP3 rfl rfl (by simp only [List.zip, List.zipWith, List.lookup_cons, beq_self_eq_true, loc_args]) (by simp only [List.zip, List.zipWith, List.lookup_cons, String.reduceBEq, beq_self_eq_true, loc_args])
  have zr : SzL (if (mo r).length = 1 then 0 else 2 * stN m sb sb (a.length - m) sa) (mo r) := by
    split
    · rename_i h; rw [len_mo] at h; rw [mo_one e3 h]; exact szl_one 0
    · exact szl_mo e5
  have hlr : (mo r).length < b.length := by rw [len_mo]; omega
  obtain ⟨ps', c, f1, f2, f3, f4, f5, ⟨s, f6, f6'⟩, ⟨pa, pb, f7, f8, f9⟩, ⟨u, v, k1, k2, k3⟩, f11, f12, f13⟩ := gcd_loop2 b.length b (mo r) (((args ["a", "b"] [pv a, pv b]).set "b" (pv (mo r))).set "a" (pv b)) sb _ (by omega) hb (by omega) tb b0 (tr_mo e3) (fun n hn => mo_lead e3 hn) zb zr (Nat.le_trans (le_mx (f := fun lr => GP b.length b.length lr sb (if lr = 1 then 0 else 2 * stN m sb sb (a.length - m) sa)) hlr) hP4) rfl rfl (by simp only [↓reduceIte, loc_set]) (by simp only [String.reduceEq, ↓reduceIte, loc_set])
  obtain ⟨k, hk0, hk⟩ := ev_mo e3
  have hkk : k⁻¹ * k = 1 := Rat.inv_mul_cancel k hk0
  obtain ⟨d, hd0, hd⟩ := ev_mo f3
  have hdd : d⁻¹ * d = 1 := Rat.inv_mul_cancel d hd0
  have e9 := qmonic_any (p := c) (by omega) f3 f6 f6'
  refine ⟨mo c, run_of rfl (seq_next (pWh_turn e1 e2 f1) (seq_ret (ret_of (ps₁ := ps'.freeze) ?_))), mo_ne f2, tr_mo f3, by rw [len_mo]; exact f4, fun n hn => mo_lead f3 hn, f5.mono (le_mx (f := fun lr => GL b.length b.length lr sb (if lr = 1 then 0 else 2 * stN m sb sb (a.length - m) sa)) hlr), ⟨fun x => d⁻¹ * (ev q x * pa x + k⁻¹ * pb x), fun x => d⁻¹ * pa x, (IsP.const _).mul ((IsP.mul (IsP.ev q) f7).add (IsP.mul (IsP.const _) f8)), (IsP.const _).mul f7, fun x => ⟨?_, ?_⟩⟩, ⟨fun x => d * (v x * k), fun x => d * (u x + -1 * (v x * k * ev q x)), (IsP.const d).mul (k2.mul (IsP.const k)), (IsP.const d).mul (k1.add ((IsP.const (-1)).mul ((k2.mul (IsP.const k)).mul (IsP.ev q)))), fun x => ?_⟩⟩
  · simp only [pVar, pCons, pNil, pCall, reduceCtorEq, or_self, ↓reduceIte, Option.map, loc_freeze, own_freeze, par_freeze, f12, f13, e9]
  · have h9 := f9 x
    have h10 := hk x
    have h11 : ev r x = k⁻¹ * (pb x * ev c x) := by rw [← h9.2, h10]; grind
    rw [e6 x, h9.1, h11, hd x]; grind
  · have h9 := f9 x
    rw [h9.1, hd x]; grind
  · have h9 := k3 x
    rw [hk x] at h9
    rw [hd x, ← h9, e6 x]; grind
end NN
end

section
open PySem PySem.W PyProof.Rows PySem.Calls PySem.Spec PySem.Builtin.Int
set_option Elab.async false
set_option autoImplicit false
set_option maxRecDepth 10000
set_option linter.unusedSimpArgs false
set_option linter.unusedVariables false

namespace NN
theorem stN_succ (m β γ : Nat) : ∀ (k S : Nat), stN m β γ (k + 1) S = stp m β γ (stN m β γ k S)
  | 0, S => rfl
  | k + 1, S => by
    show stN m β γ (k + 1) (stp m β γ S) = stp m β γ (stN m β γ k (stp m β γ S))
    exact stN_succ m β γ k (stp m β γ S)
theorem stN_mono {m β γ S : Nat} : ∀ {k k' : Nat}, k ≤ k' → stN m β γ k S ≤ stN m β γ k' S := by
  intro k k' h
  obtain ⟨d, rfl⟩ : ∃ d, k' = k + d := ⟨k' - k, by omega⟩
  clear h
  induction d with
  | zero => exact Nat.le_refl _
  | succ d ih => rw [← Nat.add_assoc, stN_succ]; exact Nat.le_trans ih (stp_ge ..)
theorem stN_pos {m β γ : Nat} (h : m ≠ 0) : ∀ (k S : Nat), stN m β γ k S = stN 1 β γ k S
  | 0, S => rfl
  | k + 1, S => by
    have : stp m β γ S = stp 1 β γ S := by unfold stp; rw [if_neg h, if_neg (by decide)]
    simp only [stN, this]
    exact stN_pos h k _
theorem tr_pscale {p : List Rat} {k : Rat} (h : Tr p) (hk : k ≠ 0) : Tr (pscale k p) := fun n hn => by
  rw [len_pscale] at hn
  rw [cf_pscale]
  intro h0
  rcases Rat.mul_eq_zero.mp h0 with h0 | h0
  · exact hk h0
  · exact h n hn h0
theorem qdiv_exact {a g : List Rat} {m β S : Nat} {pa : Rat → Rat} (hm : g.length = m + 1) (hg : cf g m = 1) (tg : Tr g) (zg : SzL β g) (lg : g.length ≤ 2 ^ 17) (la : a.length ≤ 2 ^ 17) (ta : Tr a) (za : SzL S a) (h : stN m β 0 (a.length - m) S + β ≤ 2 ^ 26) (hp : IsP pa) (e : ∀ x, ev a x = pa x * ev g x) :
    ∃ q, sp_qdivmod [pv a, pv g] = some (.tup [pv q, pv []]) ∧ Tr q ∧ q.length ≤ a.length - m ∧ SzL (stN m β 0 (a.length - m) S) q ∧ ∀ x, ev a x = ev q x * ev g x := by
  have g0 : g ≠ [] := by intro h; rw [h] at hm; simp at hm
  obtain ⟨q, r, e1, e2, e3, e4, e5, e6, e7, e8⟩ := qdivmod_run (γ := 0) (a.length - m) hm (tg m hm) zg lg (fun s r h => by rw [hg, show r / 1 = r by grind]; exact h) la rfl ta za (by omega)
  obtain ⟨H, tH, eH⟩ := IsP.tr (hp.add ((IsP.const (-1)).mul (IsP.ev q)))
  have hr : ∀ x, ev r x = ev H x * ev g x := fun x => by
    rw [← eH]
    have := e x
    have := e8 x
    grind
  have r0 : r = [] := by
    by_cases h0 : H = []
    · subst h0
      exact eq_of_lg e3 tr_nil (Lg.of fun k => by rw [hr]; simp only [ev]; grind)
    · have hh := prod_len e3 tH tg h0 g0 hr
      have := len_pmul H g h0 g0
      rw [← hh] at this
      have := List.length_pos_iff.mpr h0
      omega
  subst r0
  exact ⟨q, e1, e2, e5, e6, fun x => by rw [e8]; simp only [ev]; grind⟩
noncomputable def FL (l s : Nat) : Nat := mx (l + 1) fun la => mx (l + 1) fun lb => GL0 la lb s s
noncomputable def FQ (l s : Nat) : Nat := stN 1 (FL l s) 0 (l - 1) s
noncomputable def FP (l s : Nat) : Nat := max (mx (l + 1) fun la => mx (l + 1) fun lb => GP0 la lb s s) (max (FQ l s + FL l s) (2 * FQ l s))
noncomputable def FS (l s : Nat) : Nat := 2 * FQ l s
theorem FL_le {l s la lb : Nat} (ha : la ≤ l) (hb : lb ≤ l) : GL0 la lb s s ≤ FL l s :=
  Nat.le_trans (le_mx (f := fun lb => GL0 la lb s s) (by omega)) (le_mx (f := fun la => mx (l + 1) fun lb => GL0 la lb s s) (by omega))
theorem FP_le {l s la lb : Nat} (ha : la ≤ l) (hb : lb ≤ l) : GP0 la lb s s ≤ FP l s :=
  Nat.le_trans (Nat.le_trans (le_mx (f := fun lb => GP0 la lb s s) (by omega)) (le_mx (f := fun la => mx (l + 1) fun lb => GP0 la lb s s) (by omega))) (Nat.le_max_left ..)
theorem qdegree_run {p : List Rat} (h : p.length ≤ 2 ^ 20) : sp_qdegree [pv p] = some (.int ((p.length : Int) - 1)) := by
  refine run_of rfl (seq_ret (ret_of (ps₁ := (args ["p"] [pv p]).freeze) ?_))
  simp only [List.zip, List.zipWith, List.lookup_cons, pK, pBin, pUnN, fSub, beq_self_eq_true, Option.map, Option.bind, loc_freeze, loc_args, fLen_pv h]
theorem qlead_run {p : List Rat} {n : Nat} (h : p.length ≤ 2 ^ 20) (hn : p.length = n + 1) : sp_qlead [pv p] = some (rv (cf p n)) := by
  have d : decide ((p.length : Int) > 0) = true := decide_eq_true (by omega)
  refine run_of rfl (seq_ret (ret_of (ps₁ := (args ["p"] [pv p]).freeze) ?_))
  simp only [List.zip, List.zipWith, List.lookup_cons, pIf, pCmp, pK, pSubN, pUn, pUnN, fNeg, Option.isSome_some, beq_self_eq_true, ↓reduceIte, Option.map, Option.bind, loc_freeze, loc_args, fLen_pv h, fGt_int, d, Int.reduceNeg, pick_last (p := p) (k := -1) n h rfl hn]
inductive Red (top bottom g : List Rat) (q : Nat) : Prop
  | mk (T0 B0 : List Rat) (ps' : PS) (h0 : pStIf (pCmp fGt (pCall sp_qdegree (pCons (pVar "common") pNil)) (pK (.int 0))) (pSeq (pUnpR ["top", "bottom"] (pTup (pCons (pSub (pCall sp_qdivmod (pCons (pVar "top") (pCons (pVar "common") pNil))) (pK (.int 0))) (pCons (pSub (pCall sp_qdivmod (pCons (pVar "bottom") (pCons (pVar "common") pNil))) (pK (.int 0))) pNil))))
    pEnd) pEnd ((args ["top", "bottom"] [pv top, pv bottom]).set "common" (pv g)) = some (.next, ps')) (h1 : ps'.own = none) (h2 : ps'.par = none) (h3 : ps'.loc "top" = some (pv T0)) (h4 : ps'.loc "bottom" = some (pv B0)) (h5 : Tr T0) (h6 : Tr B0) (h7 : T0.length ≤ top.length) (h8 : B0.length ≤ bottom.length) (h9 : SzL (q) T0) (h10 : SzL (q) B0) (h11 : (∀ x, ev top x = ev T0 x * ev g x)) (h12 : (∀ x, ev bottom x = ev B0 x * ev g x)) : Red top bottom g q
theorem fmake_run {top bottom : List Rat} {l s : Nat} (hl : l ≤ 2 ^ 16) (tt : Tr top) (tb : Tr bottom) (b0 : bottom ≠ []) (lt : top.length ≤ l) (lb : bottom.length ≤ l) (zt : SzL s top) (zb : SzL s bottom) (hP : FP l s ≤ 2 ^ 26) :
    ∃ T B, sp_fmake [pv top, pv bottom] = some (fv T B) ∧ Low T B ∧ (∀ x, ev T x * ev bottom x = ev top x * ev B x) ∧ SzL (FS l s) T ∧ SzL (FS l s) B ∧ T.length ≤ top.length ∧ B.length ≤ bottom.length := by
  have hbl := List.length_pos_iff.mpr b0
  have d0 : fEq (pv bottom) (.lst []) = some false := by rw [← pv_nil, fEq_pv, decide_eq_false b0]
  have d1 : fEq (pv top) (.lst []) = some (decide (top = [])) := by rw [← pv_nil, fEq_pv]
  by_cases t0 : top = []
  · subst t0
    have low := low_one tr_nil
    refine ⟨[], [1], run_of rfl (seq_next (ps₁ := args ["top", "bottom"] [pv [], pv bottom]) ?_ (seq_ret (ps₁ := (args ["top", "bottom"] [pv [], pv bottom]).freeze) ?_)), low, fun x => by simp only [ev]; grind, szl_nil _, szl_one _, by simp, by simp; omega⟩
    · simp only [List.zip, List.zipWith, List.lookup_cons, List.length_nil, pEnd, pStIf, pCmpN, pNil, pFr, pDisp, Option.isSome_some, String.reduceBEq, beq_self_eq_true, ↓reduceIte, Nat.reduceLeDiff, Option.map, Option.bind, loc_args, d0]
    · simp only [List.zip, List.zipWith, List.lookup_cons, List.length_nil, pSeq, pEnd, pStIf, pCmpN, pK, pNil, pFr, pDisp, Option.isSome_some, beq_self_eq_true, ↓reduceIte, Nat.reduceLeDiff, Option.map, Option.bind, loc_args, pRet, d1]
      rfl
  · obtain ⟨g, e1, e2, e3, e4, e5, e6, ⟨pa, pb, q1, q2, q3⟩, ⟨u, v, u1, u2, u3⟩⟩ := qgcd_run (a := top) (b := bottom) (by omega) (by omega) tt tb b0 zt zb (Nat.le_trans (FP_le lt lb) hP)
    have zg := e6.mono (FL_le lt lb)
    have hP2 := Nat.le_trans (Nat.le_max_right ..) hP
    have hP3 := Nat.le_trans (Nat.le_max_left ..) hP2
    have hP4 := Nat.le_trans (Nat.le_max_right ..) hP2
    have hg := List.length_pos_iff.mpr e2
    obtain ⟨m, hm⟩ : ∃ m, g.length = m + 1 := ⟨g.length - 1, by omega⟩
    have key : Red top bottom g (FQ l s) := by
      by_cases h0 : m = 0
      · subst h0
        obtain ⟨c, hc⟩ := List.length_eq_one_iff.mp hm
        have hc1 := e5 0 hm
        subst hc
        have : c = 1 := hc1
        subst this
        refine ⟨top, bottom, ((args ["top", "bottom"] [pv top, pv bottom]).set "common" (pv [1])), ?_, rfl, rfl, ?_, ?_, tt, tb, Nat.le_refl _, Nat.le_refl _, zt.mono (stN_ge ..), zb.mono (stN_ge ..), fun x => by simp only [ev]; grind, fun x => by simp only [ev]; grind⟩
        · simp only [List.length_cons, List.length_nil, pSeq, pEnd, pStIf, pCmp, pK, pVar, pSub, pBin, fPick, pTup, pCons, pNil, pCall, pUnpR, reduceCtorEq, or_self, List.reverse_cons, List.reverse_nil, List.nil_append, List.cons_append, ↓reduceIte, Nat.zero_add, Option.map, loc_set, own_set, par_set, own_args, par_args, qdegree_run (p := [1]) (by simp), fGt_int]
          rfl
        · simp only [List.zip, List.zipWith, List.lookup_cons, String.reduceEq, beq_self_eq_true, ↓reduceIte, loc_set, loc_args]
        · simp only [List.zip, List.zipWith, List.lookup_cons, String.reduceEq, String.reduceBEq, beq_self_eq_true, ↓reduceIte, loc_set, loc_args]
      · have hmono : ∀ k, k ≤ l - 1 → stN m (FL l s) 0 k s ≤ FQ l s := fun k hk => by
          rw [stN_pos h0]; exact stN_mono hk
        obtain ⟨T0, a1, a2, a3, a4, a5⟩ := qdiv_exact hm (e5 m hm) e3 zg e4 (by omega) tt zt (by have := hmono (top.length - m) (by omega); omega) q1 (fun x => (q3 x).1)
        obtain ⟨B0, b1, b2, b3, b4, b5⟩ := qdiv_exact hm (e5 m hm) e3 zg e4 (by omega) tb zb (by have := hmono (bottom.length - m) (by omega); omega) q2 (fun x => (q3 x).2)
        refine ⟨T0, B0, ((((args ["top", "bottom"] [pv top, pv bottom]).set "common" (pv g)).set "bottom" (pv B0)).set "top" (pv T0)), ?_, rfl, rfl, ?_, ?_, a2, b2, by omega, by omega, a4.mono (hmono _ (by omega)), b4.mono (hmono _ (by omega)), a5, b5⟩
        · have d : decide ((g.length : Int) - 1 > 0) = true := decide_eq_true (by omega)
          simp only [List.zip, List.zipWith, List.lookup_cons, List.length_cons, List.length_nil, pSeq, pEnd, pStIf, pCmp, pK, pVar, pSub, pBin, fPick, pTup, pCons, pNil, pCall, pPut, pUnpR, pPuts, reduceCtorEq, String.reduceEq, String.reduceBEq, beq_self_eq_true, or_self, List.reverse_cons, List.reverse_nil, List.nil_append, List.cons_append, ↓reduceIte, Nat.reduceAdd, Nat.reduceLeDiff, Nat.zero_add, Option.map, Option.bind, loc_set, own_set, par_set, loc_args, own_args, par_args, qdegree_run (p := g) (by omega), fGt_int, d, a1, b1, show ∀ u v : PV, pick (.tup [u, v]) 0 = some u from fun _ _ => rfl]
        · simp only [↓reduceIte, loc_set]
        · simp only [String.reduceEq, ↓reduceIte, loc_set]
    obtain ⟨T0, B0, ps', f1, f2, f3, f4, f5, tT, tB, lT, lB, zT, zB, eT, eB⟩ := key
    have B00 : B0 ≠ [] := by
      intro h
      subst h
      obtain ⟨N, hN⟩ := tb.big b0
      apply hN N (Nat.le_refl _)
      rw [eB]; simp only [ev]; grind
    have hB := List.length_pos_iff.mpr B00
    obtain ⟨n, hn⟩ : ∃ n, B0.length = n + 1 := ⟨B0.length - 1, by omega⟩
    have hl0 := tB n hn
    have hk := inv_ne hl0
    have hkk : cf B0 n * (cf B0 n)⁻¹ = 1 := Rat.mul_inv_cancel _ hl0
    have zk := (zB n).inv
    have g1 := qscale_run (p := T0) (by omega) zT zk (by omega) hk
    have g2 := qscale_run (p := B0) (by omega) zB zk (by omega) hk
    have hz : ∀ (p : List Rat), SzL (FQ l s) p → SzL (FS l s) (pscale (cf B0 n)⁻¹ p) := fun p hp i => by
      rw [cf_pscale]; exact (zk.mul (hp i)).mono (by unfold FS; omega)
    refine ⟨pscale (cf B0 n)⁻¹ T0, pscale (cf B0 n)⁻¹ B0, ?_, ⟨tr_pscale tT hk, tr_pscale tB hk, ⟨n, by rw [len_pscale, hn], by rw [cf_pscale]; grind⟩, fun x => cf B0 n * u x, fun x => cf B0 n * v x, (IsP.const _).mul u1, (IsP.const _).mul u2, ?_⟩, fun x => by rw [ev_pscale, ev_pscale, eT, eB]; grind, hz _ zT, hz _ zB, by rw [len_pscale]; exact lT, by rw [len_pscale]; exact lB⟩
    · refine run_of rfl (seq_next (ps₁ := args ["top", "bottom"] [pv top, pv bottom]) ?_ (seq_next (ps₁ := args ["top", "bottom"] [pv top, pv bottom]) ?_ (seq_next (ps₁ := (args ["top", "bottom"] [pv top, pv bottom]).set "common" (pv g)) ?_ (seq_next f1 (seq_next (ps₁ := ps'.set "scale" (rv (cf B0 n)⁻¹)) ?_ (seq_ret (ret_of (ps₁ := (ps'.set "scale" (rv (cf B0 n)⁻¹)).freeze) ?_)))))))
      · simp only [List.zip, List.zipWith, List.lookup_cons, List.length_nil, pEnd, pStIf, pCmpN, pNil, pFr, pDisp, Option.isSome_some, String.reduceBEq, beq_self_eq_true, ↓reduceIte, Nat.reduceLeDiff, Option.map, Option.bind, loc_args, d0]
      · simp only [List.zip, List.zipWith, List.lookup_cons, List.length_nil, pEnd, pStIf, pCmpN, pNil, pFr, pDisp, Option.isSome_some, beq_self_eq_true, ↓reduceIte, Nat.reduceLeDiff, Option.map, Option.bind, loc_args, d1, decide_eq_false t0]
      · simp only [List.zip, List.zipWith, List.lookup_cons, pVar, pCons, pNil, pCall, pAssign, pPut, reduceCtorEq, String.reduceBEq, beq_self_eq_true, or_self, ↓reduceIte, Option.map, loc_args, own_args, par_args, e1]
      · simp only [pVar, pCons, pNil, pCall, pAssign, pPut, reduceCtorEq, or_self, ↓reduceIte, Option.map, f2, f3, f5, qlead_run (p := B0) (by omega) hn, rinv_run _ hl0]
      · simp only [List.length_cons, List.length_nil, pVar, pTup, pCons, pNil, pCall, reduceCtorEq, String.reduceEq, or_self, Option.some.injEq, ↓reduceIte, Nat.reduceAdd, Nat.reduceLeDiff, Nat.zero_add, Option.map, loc_set, par_set, loc_freeze, own_freeze, par_freeze, f3, f4, f5, g1, g2]
        rfl
    · refine fun x => IsP.eq (φ := fun x => cf B0 n * u x * ev (pscale (cf B0 n)⁻¹ T0) x + cf B0 n * v x * ev (pscale (cf B0 n)⁻¹ B0) x) (ψ := fun _ => 1) ((((IsP.const _).mul u1).mul (IsP.ev _)).add (((IsP.const _).mul u2).mul (IsP.ev _))) (IsP.const 1) ((e3.big e2).mp fun k hgk => ?_) x
      have := u3 (k : Rat)
      rw [eT, eB] at this
      simp only [ev_pscale]
      have h3 : (u (k : Rat) * ev T0 (k : Rat) + v (k : Rat) * ev B0 (k : Rat) - 1) * ev g (k : Rat) = 0 := by grind
      rcases Rat.mul_eq_zero.mp h3 with h3 | h3
      · grind
      · exact absurd h3 hgk
end NN
end

section
open PySem PySem.W PyProof.Rows PySem.Calls PySem.Spec PySem.Builtin.Int
set_option Elab.async false
set_option autoImplicit false
set_option maxRecDepth 10000
set_option linter.unusedSimpArgs false
set_option linter.unusedVariables false

namespace NN
structure Fr (l s : Nat) (T B : List Rat) : Prop where
  tT : Tr T
  tB : Tr B
  B0 : B ≠ []
  lT : T.length ≤ l
  lB : B.length ≤ l
  zT : SzL s T
  zB : SzL s B
theorem Fr.mono {l s l' s' : Nat} {T B : List Rat} (h : Fr l s T B) (hl : l ≤ l') (hs : s ≤ s') : Fr l' s' T B :=
  ⟨h.tT, h.tB, h.B0, Nat.le_trans h.lT hl, Nat.le_trans h.lB hl, h.zT.mono hs, h.zB.mono hs⟩
noncomputable def pmul0 (a b : List Rat) : List Rat := if a = [] ∨ b = [] then [] else pmul a b
theorem ev_pmul0 (a b : List Rat) (x : Rat) : ev (pmul0 a b) x = ev a x * ev b x := by
  unfold pmul0
  split
  · rename_i h
    rcases h with rfl | rfl <;> simp only [ev] <;> grind
  · exact ev_pmul a b x
theorem tr_pmul0 {a b : List Rat} (ha : Tr a) (hb : Tr b) : Tr (pmul0 a b) := by
  unfold pmul0
  split
  · exact tr_nil
  · rename_i h
    rw [not_or] at h
    exact tr_pmul ha hb h.1 h.2
theorem len_pmul0 (a b : List Rat) : (pmul0 a b).length ≤ a.length + b.length - 1 := by
  unfold pmul0
  split
  · simp
  · rename_i h
    rw [not_or] at h
    have := len_pmul a b h.1 h.2
    omega
theorem pmul0_ne {a b : List Rat} (ha : a ≠ []) (hb : b ≠ []) : pmul0 a b ≠ [] := by
  unfold pmul0
  rw [if_neg (by rw [not_or]; exact ⟨ha, hb⟩)]
  intro h
  have := len_pmul a b ha hb
  have := List.length_pos_iff.mpr ha
  have := List.length_pos_iff.mpr hb
  rw [h] at *
  simp at *
  omega
theorem qmul_any {s t n : Nat} {a b : List Rat} (hn : a.length ≤ n) (ha : a.length ≤ 2 ^ 18) (hb : b.length ≤ 2 ^ 18) (sa : SzL s a) (sb : SzL t b) (h : n * (s + t + 1) ≤ 2 ^ 26) :
    sp_qmul [pv a, pv b] = some (pv (pmul0 a b)) ∧ SzL (n * (s + t + 1)) (pmul0 a b) := by
  unfold pmul0
  by_cases h1 : a = []
  · subst h1
    rw [if_pos (.inl rfl)]
    exact ⟨qmul_nil_l hb, szl_nil _⟩
  · by_cases h2 : b = []
    · subst h2
      rw [if_pos (.inr rfl)]
      exact ⟨qmul_nil_r ha, szl_nil _⟩
    · rw [if_neg (by rw [not_or]; exact ⟨h1, h2⟩)]
      have hm : a.length * (s + t + 1) ≤ n * (s + t + 1) := Nat.mul_le_mul_right _ hn
      obtain ⟨e1, e2⟩ := qmul_run ha hb sa sb (by omega) h1 h2
      exact ⟨e1, e2.mono hm⟩
theorem FP_two (l s : Nat) : 2 * s ≤ FP l s := by
  have h1 : 2 * FQ l s ≤ FP l s := Nat.le_trans (Nat.le_max_right ..) (Nat.le_max_right ..)
  have h2 : s ≤ FQ l s := stN_ge ..
  omega
theorem ev_trim (p : List Rat) (x : Rat) : ev (trim p) x = ev p x := evp_congr _ _ _ (cf_trim p)
theorem szl_add {s : Nat} {a b : List Rat} (ha : SzL s a) (hb : SzL s b) : SzL (2 * s + 1) (trim (padd a b)) := SzL.trim fun i => by
  rw [cf_padd]; exact ((ha i).add (hb i)).mono (by omega)
theorem Fr.low {l s : Nat} {top bottom T B : List Rat} (low : Low T B) (zT : SzL s T) (zB : SzL s B) (lT : T.length ≤ top.length) (lB : B.length ≤ bottom.length) (ht : top.length ≤ l) (hb : bottom.length ≤ l) : Fr l s T B :=
  ⟨low.tT, low.tB, low.ne, by omega, by omega, zT, zB⟩
theorem fadd_run {Tf Bf Tg Bg : List Rat} {l1 l2 l s t n M : Nat} (f : Fr l1 s Tf Bf) (g : Fr l2 t Tg Bg) (h1 : l1 ≤ n) (h2 : l2 ≤ n) (hl : l1 + l2 ≤ l + 1) (hl2 : l ≤ 2 ^ 16) (hM : n * (s + t + 1) = M) (hP : FP l (2 * M + 1) ≤ 2 ^ 26) :
    ∃ T B, sp_fadd [fv Tf Bf, fv Tg Bg] = some (fv T B) ∧ Low T B ∧ Fr l (FS l (2 * M + 1)) T B ∧ (∀ x, ev T x * (ev Bf x * ev Bg x) = (ev Tf x * ev Bg x + ev Tg x * ev Bf x) * ev B x) := by
  have hM2 := FP_two l (2 * M + 1)
  have hb1 := List.length_pos_iff.mpr f.B0
  have hb2 := List.length_pos_iff.mpr g.B0
  have i1 := f.lT; have i2 := f.lB; have i3 := g.lT; have i4 := g.lB
  have hM' : n * (t + s + 1) = M := by rw [Nat.add_comm t s]; exact hM
  have l18 : l1 ≤ 2 ^ 18 ∧ l2 ≤ 2 ^ 18 := by omega
  obtain ⟨a1, a2⟩ := qmul_any (n := n) (a := Tf) (b := Bg) (by omega) (by omega) (by omega) f.zT g.zB (by omega)
  obtain ⟨b1, b2⟩ := qmul_any (n := n) (a := Tg) (b := Bf) (by omega) (by omega) (by omega) g.zT f.zB (by omega)
  obtain ⟨c1, c2⟩ := qmul_any (n := n) (a := Bf) (b := Bg) (by omega) (by omega) (by omega) f.zB g.zB (by omega)
  rw [hM] at a2 c2
  rw [hM'] at b2
  have k1 := len_pmul0 Tf Bg
  have k2 := len_pmul0 Tg Bf
  have k3 := len_pmul0 Bf Bg
  have d1 := qadd_run (a := pmul0 Tf Bg) (b := pmul0 Tg Bf) (by omega) (by omega) a2 b2 (by omega)
  have k4 := len_trim_le (padd (pmul0 Tf Bg) (pmul0 Tg Bf))
  rw [len_padd] at k4
  obtain ⟨T, B, e1, e2, e3, e4, e5, e6, e7⟩ := fmake_run (top := trim (padd (pmul0 Tf Bg) (pmul0 Tg Bf))) (bottom := pmul0 Bf Bg) hl2 (tr_trim _) (tr_pmul0 f.tB g.tB) (pmul0_ne f.B0 g.B0) (by omega) (by omega) (szl_add a2 b2) (c2.mono (by omega)) hP
  refine ⟨T, B, run_of rfl (seq_ret (ret_of (ps₁ := (args ["f", "g"] [fv Tf Bf, fv Tg Bg]).freeze) ?_)), e2, Fr.low e2 e4 e5 e6 e7 (by omega) (by omega), fun x => ?_⟩
  · simp only [List.zip, List.zipWith, List.lookup_cons, pK, pSubN, pCons, pNil, pCall, Option.isSome_some, String.reduceBEq, beq_self_eq_true, ↓reduceIte, Option.map, Option.bind, loc_freeze, loc_args, pick_fv0, pick_fv1, a1, b1, c1, d1, e1]
  · have := e3 x
    rw [ev_trim, ev_padd, ev_pmul0, ev_pmul0, ev_pmul0] at this
    exact this
theorem fneg_run {T B : List Rat} (hT : T.length ≤ 2 ^ 20) (hB : B.length ≤ 2 ^ 20) : sp_fneg [fv T B] = some (fv (pneg T) B) := by
  refine run_of rfl (seq_ret (ret_of (ps₁ := (args ["f"] [fv T B]).freeze) ?_))
  have e1 : pCopy (pSubN "f" (pK (.int 1))) (args ["f"] [fv T B]).freeze = some (B.map rv, (args ["f"] [fv T B]).freeze) := pCopy_pv (by simp only [List.zip, List.zipWith, List.lookup_cons, pK, pSubN, Option.isSome_some, beq_self_eq_true, ↓reduceIte, Option.map, Option.bind, loc_freeze, loc_args, pick_fv1]) hB
  simp only [List.zip, List.zipWith, List.lookup_cons, List.length_cons, List.length_nil, pK, pSubN, pTup, pCons, pNil, pFr, pCall, Option.isSome_some, beq_self_eq_true, Option.some.injEq, ↓reduceIte, Nat.reduceAdd, Nat.reduceLeDiff, Nat.zero_add, Option.map, Option.bind, loc_freeze, loc_args, pick_fv0, qneg_run hT, e1]
  rfl
theorem Fr.neg {l s : Nat} {T B : List Rat} (h : Fr l s T B) : Fr l s (pneg T) B := ⟨tr_pneg h.tT, h.tB, h.B0, by rw [len_pneg]; exact h.lT, h.lB, h.zT.pneg, h.zB⟩
theorem fsub_run {Tf Bf Tg Bg : List Rat} {l1 l2 l s t n M : Nat} (f : Fr l1 s Tf Bf) (g : Fr l2 t Tg Bg) (h1 : l1 ≤ n) (h2 : l2 ≤ n) (hl : l1 + l2 ≤ l + 1) (hl2 : l ≤ 2 ^ 16) (hM : n * (s + t + 1) = M) (hP : FP l (2 * M + 1) ≤ 2 ^ 26) :
    ∃ T B, sp_fsub [fv Tf Bf, fv Tg Bg] = some (fv T B) ∧ Low T B ∧ Fr l (FS l (2 * M + 1)) T B ∧ (∀ x, ev T x * (ev Bf x * ev Bg x) = (ev Tf x * ev Bg x - ev Tg x * ev Bf x) * ev B x) := by
  have hb1 := List.length_pos_iff.mpr f.B0
  have i3 := g.lT; have i4 := g.lB; have i5 := f.lB
  obtain ⟨T, B, e1, e2, e3, e4⟩ := fadd_run f g.neg h1 h2 hl hl2 hM hP
  have e0 := fneg_run (T := Tg) (B := Bg) (by omega) (by omega)
  refine ⟨T, B, run_of rfl (seq_ret (ret_of (ps₁ := (args ["f", "g"] [fv Tf Bf, fv Tg Bg]).freeze) ?_)), e2, e3, fun x => ?_⟩
  · simp only [List.zip, List.zipWith, List.lookup_cons, pVar, pCons, pNil, pCall, reduceCtorEq, String.reduceBEq, beq_self_eq_true, or_self, ↓reduceIte, Option.map, loc_freeze, own_freeze, par_freeze, loc_args, par_args, e0, e1]
  · rw [e4, ev_pneg]; grind
theorem fmul_run {Tf Bf Tg Bg : List Rat} {l1 l2 l s t n M : Nat} (f : Fr l1 s Tf Bf) (g : Fr l2 t Tg Bg) (h1 : l1 ≤ n) (hl : l1 + l2 ≤ l + 1) (hl2 : l ≤ 2 ^ 16) (hM : n * (s + t + 1) = M) (hP : FP l M ≤ 2 ^ 26) :
    ∃ T B, sp_fmul [fv Tf Bf, fv Tg Bg] = some (fv T B) ∧ Low T B ∧ Fr l (FS l M) T B ∧ (∀ x, ev T x * (ev Bf x * ev Bg x) = (ev Tf x * ev Tg x) * ev B x) := by
  have hM2 := FP_two l M
  have hb1 := List.length_pos_iff.mpr f.B0
  have hb2 := List.length_pos_iff.mpr g.B0
  have i1 := f.lT; have i2 := f.lB; have i3 := g.lT; have i4 := g.lB
  obtain ⟨a1, a2⟩ := qmul_any (n := n) (a := Tf) (b := Tg) (by omega) (by omega) (by omega) f.zT g.zT (by omega)
  obtain ⟨c1, c2⟩ := qmul_any (n := n) (a := Bf) (b := Bg) (by omega) (by omega) (by omega) f.zB g.zB (by omega)
  rw [hM] at a2 c2
  have k1 := len_pmul0 Tf Tg
  have k3 := len_pmul0 Bf Bg
  obtain ⟨T, B, e1, e2, e3, e4, e5, e6, e7⟩ := fmake_run (top := pmul0 Tf Tg) (bottom := pmul0 Bf Bg) hl2 (tr_pmul0 f.tT g.tT) (tr_pmul0 f.tB g.tB) (pmul0_ne f.B0 g.B0) (by omega) (by omega) a2 c2 hP
  refine ⟨T, B, run_of rfl (seq_ret (ret_of (ps₁ := (args ["f", "g"] [fv Tf Bf, fv Tg Bg]).freeze) ?_)), e2, Fr.low e2 e4 e5 e6 e7 (by omega) (by omega), fun x => ?_⟩
  · simp only [List.zip, List.zipWith, List.lookup_cons, pK, pSubN, pCons, pNil, pCall, Option.isSome_some, String.reduceBEq, beq_self_eq_true, ↓reduceIte, Option.map, Option.bind, loc_freeze, loc_args, pick_fv0, pick_fv1, a1, c1, e1]
  · have := e3 x
    rw [ev_pmul0, ev_pmul0] at this
    exact this
theorem fdiv_run {Tf Bf Tg Bg : List Rat} {l1 l2 l s t n M : Nat} (f : Fr l1 s Tf Bf) (g : Fr l2 t Tg Bg) (g0 : Tg ≠ []) (h1 : l1 ≤ n) (hl : l1 + l2 ≤ l + 1) (hl2 : l ≤ 2 ^ 16) (hM : n * (s + t + 1) = M) (hP : FP l M ≤ 2 ^ 26) :
    ∃ T B, sp_fdiv [fv Tf Bf, fv Tg Bg] = some (fv T B) ∧ Low T B ∧ Fr l (FS l M) T B ∧ (∀ x, ev T x * (ev Bf x * ev Tg x) = (ev Tf x * ev Bg x) * ev B x) := by
  have hM2 := FP_two l M
  have hb1 := List.length_pos_iff.mpr f.B0
  have hb2 := List.length_pos_iff.mpr g.B0
  have i1 := f.lT; have i2 := f.lB; have i3 := g.lT; have i4 := g.lB
  obtain ⟨a1, a2⟩ := qmul_any (n := n) (a := Tf) (b := Bg) (by omega) (by omega) (by omega) f.zT g.zB (by omega)
  obtain ⟨c1, c2⟩ := qmul_any (n := n) (a := Bf) (b := Tg) (by omega) (by omega) (by omega) f.zB g.zT (by omega)
  rw [hM] at a2 c2
  have k1 := len_pmul0 Tf Bg
  have k3 := len_pmul0 Bf Tg
  obtain ⟨T, B, e1, e2, e3, e4, e5, e6, e7⟩ := fmake_run (top := pmul0 Tf Bg) (bottom := pmul0 Bf Tg) hl2 (tr_pmul0 f.tT g.tB) (tr_pmul0 f.tB g.tT) (pmul0_ne f.B0 g0) (by omega) (by omega) a2 c2 hP
  refine ⟨T, B, run_of rfl (seq_ret (ret_of (ps₁ := (args ["f", "g"] [fv Tf Bf, fv Tg Bg]).freeze) ?_)), e2, Fr.low e2 e4 e5 e6 e7 (by omega) (by omega), fun x => ?_⟩
  · simp only [List.zip, List.zipWith, List.lookup_cons, pK, pSubN, pCons, pNil, pCall, Option.isSome_some, String.reduceBEq, beq_self_eq_true, ↓reduceIte, Option.map, Option.bind, loc_freeze, loc_args, pick_fv0, pick_fv1, a1, c1, e1]
  · have := e3 x
    rw [ev_pmul0, ev_pmul0] at this
    exact this
theorem finv_run {Tf Bf : List Rat} {l s : Nat} (f : Fr l s Tf Bf) (f0 : Tf ≠ []) (hl2 : l ≤ 2 ^ 16) (hP : FP l s ≤ 2 ^ 26) :
    ∃ T B, sp_finv [fv Tf Bf] = some (fv T B) ∧ Low T B ∧ Fr l (FS l s) T B ∧ (∀ x, ev T x * ev Tf x = ev Bf x * ev B x) := by
  obtain ⟨T, B, e1, e2, e3, e4, e5, e6, e7⟩ := fmake_run (top := Bf) (bottom := Tf) hl2 f.tB f.tT f0 f.lB f.lT f.zB f.zT hP
  refine ⟨T, B, run_of rfl (seq_ret (ret_of (ps₁ := (args ["f"] [fv Tf Bf]).freeze) ?_)), e2, Fr.low e2 e4 e5 e6 e7 f.lB f.lT, e3⟩
  simp only [List.zip, List.zipWith, List.lookup_cons, pK, pSubN, pCons, pNil, pCall, Option.isSome_some, beq_self_eq_true, ↓reduceIte, Option.map, Option.bind, loc_freeze, loc_args, pick_fv0, pick_fv1, e1]
theorem fat_run {T B : List Rat} {l s t M : Nat} {r : Rat} (f : Fr l s T B) (zr : Sz t r) (hl : l ≤ 2 ^ 16) (hM : l * (s + t + 1) = M) (h : M + M ≤ 2 ^ 26) :
    sp_fat [fv T B, rv r] = some (if ev B r = 0 then .none else rv (ev T r / ev B r)) ∧ (ev B r ≠ 0 → Sz (M + M) (ev T r / ev B r)) := by
  have i1 := f.lT; have i2 := f.lB
  have m1 : T.length * (s + t + 1) ≤ M := by rw [← hM]; exact Nat.mul_le_mul_right _ i1
  have m2 : B.length * (s + t + 1) ≤ M := by rw [← hM]; exact Nat.mul_le_mul_right _ i2
  obtain ⟨a1, a2⟩ := qat_run (p := T) (by omega) f.zT zr (by omega)
  obtain ⟨b1, b2⟩ := qat_run (p := B) (by omega) f.zB zr (by omega)
  refine ⟨run_of rfl (seq_next (ps₁ := (args ["f", "r"] [fv T B, rv r]).set "below" (rv (ev B r))) ?_ (seq_ret (ret_of (ps₁ := ((args ["f", "r"] [fv T B, rv r]).set "below" (rv (ev B r))).freeze) ?_))), fun h0 => (a2.mono m1).div (b2.mono m2)⟩
  · simp only [List.zip, List.zipWith, List.lookup_cons, pK, pVar, pSubN, pCons, pNil, pCall, pAssign, pPut, Option.isSome_some, reduceCtorEq, String.reduceBEq, beq_self_eq_true, or_self, ↓reduceIte, Option.map, Option.bind, loc_args, own_args, par_args, pick_fv1, b1]
  · by_cases h0 : ev B r = 0
    · simp only [pIf, pCmpN, pK, Option.isSome_some, ↓reduceIte, Option.map, Option.bind, loc_set, loc_freeze, ← rv0, fEq_rv, decide_eq_true h0, if_pos h0]
    · have e := rdiv_run (a2.mono m1) (b2.mono m2) h0 h
      simp only [List.zip, List.zipWith, List.lookup_cons, pIf, pCmpN, pK, pVar, pSubN, pCons, pNil, pCall, Option.isSome_some, reduceCtorEq, String.reduceEq, String.reduceBEq, beq_self_eq_true, or_self, ↓reduceIte, Option.map, Option.bind, loc_set, par_set, loc_freeze, own_freeze, par_freeze, loc_args, par_args, ← rv0, fEq_rv, decide_eq_false h0, if_neg h0, pick_fv0, a1, e]
theorem fpoly_run {p : List Rat} (h : p.length ≤ 2 ^ 20) : sp_fpoly [pv p] = some (fv p [1]) := by
  refine run_of rfl (seq_ret (ret_of (ps₁ := (args ["p"] [pv p]).freeze) ?_))
  have e1 : pCopy (pVar "p") (args ["p"] [pv p]).freeze = some (p.map rv, (args ["p"] [pv p]).freeze) := pCopy_pv (by simp only [List.zip, List.zipWith, List.lookup_cons, pVar, reduceCtorEq, beq_self_eq_true, or_self, ↓reduceIte, Option.map, loc_freeze, own_freeze, par_freeze, loc_args, par_args]) h
  simp only [List.length_cons, List.length_nil, pK, pTup, pCons, pNil, pFr, pDisp, Option.some.injEq, ↓reduceIte, Nat.reduceAdd, Nat.reduceLeDiff, Nat.zero_add, Option.map, e1]
  rfl
theorem fnumber_run {r : Rat} : sp_fnumber [rv r] = some (fv (if r = 0 then [] else [r]) [1]) := by
  refine run_of rfl (seq_ret (ret_of (ps₁ := (args ["r"] [rv r]).freeze) ?_))
  by_cases h : r = 0
  · simp only [List.zip, List.zipWith, List.lookup_cons, List.length_cons, List.length_nil, pIf, pCmpN, pK, pTup, pCons, pNil, pFr, pDisp, Option.isSome_some, beq_self_eq_true, Option.some.injEq, ↓reduceIte, Nat.reduceAdd, Nat.reduceLeDiff, Nat.zero_add, Option.map, Option.bind, loc_freeze, loc_args, ← rv0, fEq_rv, decide_eq_true h, if_pos h]
    rfl
  · simp only [List.zip, List.zipWith, List.lookup_cons, List.length_cons, List.length_nil, pIf, pCmpN, pK, pVar, pTup, pCons, pNil, pFr, pDisp, Option.isSome_some, reduceCtorEq, beq_self_eq_true, or_self, Option.some.injEq, ↓reduceIte, Nat.reduceAdd, Nat.reduceLeDiff, Nat.zero_add, Option.map, Option.bind, loc_freeze, own_freeze, par_freeze, loc_args, par_args, ← rv0, fEq_rv, decide_eq_false h, if_neg h]
    rfl
theorem fscale_run {T B : List Rat} {s t : Nat} {r : Rat} (hT : T.length ≤ 2 ^ 20) (hB : B.length ≤ 2 ^ 20) (zT : SzL s T) (zr : Sz t r) (h : s + t ≤ 2 ^ 26) (h0 : r ≠ 0) : sp_fscale [fv T B, rv r] = some (fv (pscale r T) B) := by
  refine run_of rfl (seq_ret (ret_of (ps₁ := (args ["f", "r"] [fv T B, rv r]).freeze) ?_))
  have e1 : pCopy (pSubN "f" (pK (.int 1))) (args ["f", "r"] [fv T B, rv r]).freeze = some (B.map rv, (args ["f", "r"] [fv T B, rv r]).freeze) := pCopy_pv (by simp only [List.zip, List.zipWith, List.lookup_cons, pK, pSubN, Option.isSome_some, beq_self_eq_true, ↓reduceIte, Option.map, Option.bind, loc_freeze, loc_args, pick_fv1]) hB
  simp only [List.zip, List.zipWith, List.lookup_cons, List.length_cons, List.length_nil, pIf, pCmpN, pK, pVar, pSubN, pTup, pCons, pNil, pFr, pCall, Option.isSome_some, reduceCtorEq, String.reduceBEq, beq_self_eq_true, or_self, Option.some.injEq, ↓reduceIte, Nat.reduceAdd, Nat.reduceLeDiff, Nat.zero_add, Option.map, Option.bind, loc_freeze, own_freeze, par_freeze, loc_args, par_args, ← rv0, fEq_rv, decide_eq_false h0, pick_fv0, qscale_run hT zT zr h h0, e1]
  rfl
/-- lowest terms that say the same are the same -/
theorem low_is {T B T' B' top bottom : List Rat} (h : Low T B) (h' : Low T' B') (tb : Tr bottom) (b0 : bottom ≠ []) (e : ∀ x, ev T x * ev bottom x = ev top x * ev B x) (e' : Lg fun k => ev T' (k : Rat) * ev bottom (k : Rat) = ev top (k : Rat) * ev B' (k : Rat)) : T = T' ∧ B = B' := by
  refine h.uniq h' ((e'.and (tb.big b0)).mp fun k hk => ?_)
  have h1 := e (k : Rat)
  have h2 := hk.1
  have h3 : (ev T (k : Rat) * ev B' (k : Rat) - ev T' (k : Rat) * ev B (k : Rat)) * ev bottom (k : Rat) = 0 := by grind
  rcases Rat.mul_eq_zero.mp h3 with h3 | h3
  · grind
  · exact absurd h3 hk.2
end NN
end

section
open PySem PySem.W PyProof.Rows PySem.Calls PySem.Spec PySem.Builtin.Int
set_option Elab.async false
set_option autoImplicit false
set_option maxRecDepth 10000
set_option linter.unusedSimpArgs false
set_option linter.unusedVariables false

namespace NN
theorem F0eq : PV.tup [.lst [], .lst [rt 1 1]] = fv [] [1] := rfl
theorem F1eq : PV.tup [.lst [rt 1 1], .lst [rt 1 1]] = fv [1] [1] := rfl
theorem fr_F1 : Fr 1 0 [1] [1] := ⟨tr_one (by decide), tr_one (by decide), by simp, by simp, by simp, szl_one 0, szl_one 0⟩
theorem fr_F0 : Fr 1 0 [] [1] := ⟨tr_nil, tr_one (by decide), by simp, by simp, by simp, szl_nil 0, szl_one 0⟩
/-! the whole part and the rest -/
theorem fsplit_run {T B : List Rat} {l s : Nat} (low : Low T B) (f : Fr l s T B) (hl : l ≤ 2 ^ 16) (h : stN 1 s 0 l s + s ≤ 2 ^ 26) :
    ∃ w r R', sp_fsplit [fv T B] = some (.tup [pv w, fv r R']) ∧ Tr w ∧ Tr r ∧ w.length ≤ l ∧ r.length < B.length ∧ SzL (stN 1 s 0 l s) w ∧ SzL (stN 1 s 0 l s) r ∧ (r = [] ∧ R' = [1] ∨ r ≠ [] ∧ R' = B) ∧ ∀ x, ev T x = ev w x * ev B x + ev r x := by
  obtain ⟨m, hm, hlead⟩ := low.mon
  have i1 := f.lT; have i2 := f.lB
  have hst : stN m s 0 (T.length - m) s ≤ stN 1 s 0 l s := by
    by_cases h0 : m = 0
    · subst h0
      have : ∀ k S, stN 0 s 0 k S = S := fun k => by
        induction k with
        | zero => intro S; rfl
        | succ k ih => intro S; simp only [stN, stp, if_true, ih]
      rw [this]; exact stN_ge ..
    · rw [stN_pos h0]; exact stN_mono (by omega)
  obtain ⟨q, r, e1, e2, e3, e4, e5, e6, e7, e8⟩ := qdivmod_run (γ := 0) (T.length - m) hm (by rw [hlead]; decide) f.zB (by omega) (fun s r h => by rw [hlead, show r / 1 = r by grind]; exact h) (by omega) rfl f.tT f.zT (by omega)
  refine ⟨q, r, if r = [] then [1] else B, ?_, e2, e3, by omega, by omega, e6.mono (by omega), e7.mono hst, ?_, e8⟩
  · refine run_of rfl (seq_next (ps₁ := ((args ["f"] [fv T B]).set "whole" (pv q)).set "rest" (pv r)) ?_ (seq_ret (ret_of (ps₁ := (((args ["f"] [fv T B]).set "whole" (pv q)).set "rest" (pv r)).freeze) ?_)))
    · simp only [List.zip, List.zipWith, List.lookup_cons, pK, pSubN, pCons, pNil, pCall, pPut, pUnp, pPuts, Option.isSome_some, reduceCtorEq, beq_self_eq_true, or_self, ↓reduceIte, Option.map, Option.bind, own_set, par_set, loc_args, own_args, par_args, pick_fv0, pick_fv1, e1]
    · have c1 : pCopy (pSubN "f" (pK (.int 1))) (((args ["f"] [fv T B]).set "whole" (pv q)).set "rest" (pv r)).freeze = some (B.map rv, (((args ["f"] [fv T B]).set "whole" (pv q)).set "rest" (pv r)).freeze) := pCopy_pv (by simp only [List.zip, List.zipWith, List.lookup_cons, pK, pSubN, Option.isSome_some, String.reduceEq, beq_self_eq_true, ↓reduceIte, Option.map, Option.bind, loc_set, loc_freeze, loc_args, pick_fv1]) (by omega)
      by_cases h0 : r = []
      · simp only [List.length_cons, List.length_nil, pIf, pCmpN, pK, pVar, pTup, pCons, pNil, pFr, pDisp, Option.isSome_some, reduceCtorEq, String.reduceEq, or_self, Option.some.injEq, ↓reduceIte, Nat.reduceAdd, Nat.reduceLeDiff, Nat.zero_add, Option.map, Option.bind, loc_set, par_set, loc_freeze, own_freeze, par_freeze, par_args, ← pv_nil, fNe_pv, decide_eq_true h0, Bool.not_true, if_pos h0]
        subst h0
        rfl
      · simp only [List.length_cons, List.length_nil, pIf, pCmpN, pVar, pTup, pCons, pNil, pFr, pDisp, Option.isSome_some, reduceCtorEq, String.reduceEq, or_self, Option.some.injEq, ↓reduceIte, Nat.reduceAdd, Nat.reduceLeDiff, Nat.zero_add, Option.map, Option.bind, loc_set, par_set, loc_freeze, own_freeze, par_freeze, par_args, ← pv_nil, fNe_pv, decide_eq_false h0, Bool.not_false, if_neg h0, c1]
        rfl
  · by_cases h0 : r = []
    · exact .inl ⟨h0, if_pos h0⟩
    · exact .inr ⟨h0, if_neg h0⟩
/-! powers -/
theorem IsP.pow {φ : Rat → Rat} (h : IsP φ) : ∀ n : Nat, IsP (fun x => φ x ^ n)
  | 0 => by
    obtain ⟨p, hp⟩ := IsP.const 1
    exact ⟨p, fun x => by rw [← hp]; exact Rat.pow_zero _⟩
  | n + 1 => by
    obtain ⟨p, hp⟩ := (IsP.pow h n).mul h
    exact ⟨p, fun x => by rw [← hp]; exact Rat.pow_succ _ _⟩
noncomputable def pow_t : PE Bool := pCmpN fGt "left" (pK (.int 0))
noncomputable def pow_b : PSt := (pSeq (pStIf (pCmp fEq (pBin fMod (pVar "left") (pK (.int 2))) (pK (.int 1))) (pSeq (pAssign "found" (pCall sp_fmul (pCons (pVar "found") (pCons (pVar "base") pNil))))
    pEnd) pEnd)
    (pSeq (pUnpR ["base", "left"] (pTup (pCons (pIf (pCmpN fGt "left" (pK (.int 1))) (pCall sp_fmul (pCons (pVar "base") (pCons (pVar "base") pNil))) (pVar "base")) (pCons (pBin fDiv (pVar "left") (pK (.int 2))) pNil))))
    pEnd))
theorem pow_one {Tb Bb : List Rat} {l s : Nat} {ps : PS} (b : Fr l s Tb Bb) (hl : l ≤ 3) (hP : FP l (s + 1) ≤ 2 ^ 26) (h1 : ps.own = none) (h2 : ps.par = none) (h3 : ps.loc "found" = some (fv [1] [1])) (h4 : ps.loc "base" = some (fv Tb Bb)) (h5 : ps.loc "left" = some (.int 1)) :
    ∃ ps' T B, pWh pow_t pow_b ps = some (.next, ps') ∧ ps'.own = none ∧ ps'.par = none ∧ ps'.loc "found" = some (fv T B) ∧ Low T B ∧ Fr l (FS l (s + 1)) T B ∧ ∀ x, ev T x * ev Bb x = ev Tb x * ev B x := by
  obtain ⟨T, B, e1, e2, e3, e4⟩ := fmul_run (l := l) (n := 1) (M := s + 1) fr_F1 b (Nat.le_refl _) (by omega) (by omega) (by omega) hP
  refine ⟨((ps.set "found" (fv T B)).set "left" (.int 0)).set "base" (fv Tb Bb), T, B, pWh_turn (ps₁ := ps) (ps₂ := ((ps.set "found" (fv T B)).set "left" (.int 0)).set "base" (fv Tb Bb)) ?_ (seq_next (ps₁ := ps.set "found" (fv T B)) ?_ (seq_next (ps₁ := ((ps.set "found" (fv T B)).set "left" (.int 0)).set "base" (fv Tb Bb)) ?_ rfl)) (pWh_stop ?_), h1, h2, by simp only [String.reduceEq, ↓reduceIte, loc_set], e2, e3, fun x => ?_⟩
  · simp only [pow_t, pCmpN, pK, Option.isSome_some, Option.some.injEq, ↓reduceIte, Option.map, Option.bind, h5, fGt_int]
    rfl
  · simp only [pSeq, pEnd, pStIf, pCmp, pK, pVar, pBin, pCons, pNil, pCall, pAssign, pPut, reduceCtorEq, or_self, ↓reduceIte, Option.map, h1, h2, h3, h4, h5, fMod, fEq_int, e1, Int.reduceFMod, decide_true, Int.reduceEq]
  · simp only [List.length_cons, List.length_nil, pIf, pCmpN, pK, pVar, pBin, pTup, pCons, pNil, pPut, pUnpR, pPuts, Option.isSome_some, reduceCtorEq, String.reduceEq, or_self, List.reverse_cons, List.reverse_nil, List.nil_append, List.cons_append, ↓reduceIte, Nat.reduceAdd, Nat.reduceLeDiff, Nat.zero_add, Option.map, Option.bind, loc_set, own_set, par_set, h1, h2, h4, h5, fGt_int, fDiv, Int.reduceFDiv, Int.reduceEq, decide_false, Int.reduceLT, gt_iff_lt]
  · simp only [pow_t, pCmpN, pK, Option.isSome_some, String.reduceEq, Option.some.injEq, ↓reduceIte, Option.map, Option.bind, loc_set, fGt_int]
    rfl
  · have := e4 x
    simp only [ev] at this
    grind
theorem pow_core {Tb Bb : List Rat} {ps : PS} {k : Nat} (hk : k ≤ 2) (b : Fr 2 34 Tb Bb) (h1 : ps.own = none) (h2 : ps.par = none) (h3 : ps.loc "found" = some (fv [1] [1])) (h4 : ps.loc "base" = some (fv Tb Bb)) (h5 : ps.loc "left" = some (.int k)) :
    ∃ ps' T B, pWh pow_t pow_b ps = some (.next, ps') ∧ ps'.own = none ∧ ps'.par = none ∧ ps'.loc "found" = some (fv T B) ∧ Low T B ∧ Fr 3 1500000 T B ∧ ∀ x, ev T x * ev Bb x ^ k = ev Tb x ^ k * ev B x := by
  obtain rfl | rfl | rfl : k = 0 ∨ k = 1 ∨ k = 2 := by omega
  · refine ⟨ps, [1], [1], pWh_stop ?_, h1, h2, h3, low_one (tr_one (by decide)), fr_F1.mono (by omega) (by omega), fun x => by simp only [Rat.pow_zero, ev]; grind⟩
    simp only [pow_t, pCmpN, pK, Option.isSome_some, Option.some.injEq, ↓reduceIte, Option.map, Option.bind, h5, fGt_int]
    rfl
  · obtain ⟨ps', T, B, e1, e2, e3, e4, e5, e6, e7⟩ := pow_one b (by omega) (by decide +kernel) h1 h2 h3 h4 h5
    exact ⟨ps', T, B, e1, e2, e3, e4, e5, e6.mono (by omega) (by decide +kernel), fun x => by rw [show ev Bb x ^ 1 = ev Bb x by grind, show ev Tb x ^ 1 = ev Tb x by grind]; exact e7 x⟩
  · obtain ⟨T2, B2, a1, a2, a3, a4⟩ := fmul_run (l := 3) (n := 2) (M := 138) b b (Nat.le_refl _) (by omega) (by omega) (by omega) (by decide +kernel)
    have z2 : FS 3 138 = 14382 := by decide +kernel
    rw [z2] at a3
    obtain ⟨ps', T, B, e1, e2, e3, e4, e5, e6, e7⟩ := pow_one (ps := (ps.set "left" (.int 1)).set "base" (fv T2 B2)) a3 (by omega) (by decide +kernel) h1 h2 (by simp only [String.reduceEq, ↓reduceIte, loc_set, h3]) (by simp only [↓reduceIte, loc_set]) (by simp only [String.reduceEq, ↓reduceIte, loc_set])
    refine ⟨ps', T, B, pWh_turn (ps₁ := ps) (ps₂ := (ps.set "left" (.int 1)).set "base" (fv T2 B2)) ?_ (seq_next (ps₁ := ps) ?_ (seq_next (ps₁ := (ps.set "left" (.int 1)).set "base" (fv T2 B2)) ?_ rfl)) e1, e2, e3, e4, e5, e6.mono (by omega) (by decide +kernel), fun x => IsP.eq (φ := fun x => ev T x * ev Bb x ^ 2) (ψ := fun x => ev Tb x ^ 2 * ev B x) ((IsP.ev T).mul ((IsP.ev Bb).pow 2)) (((IsP.ev Tb).pow 2).mul (IsP.ev B)) ((a2.tB.big a2.ne).mp fun k hk => ?_) x⟩
    · simp only [pow_t, pCmpN, pK, Option.isSome_some, Option.some.injEq, ↓reduceIte, Option.map, Option.bind, h5, fGt_int]
      rfl
    · have : (Int.fmod ((2 : Nat) : Int) 2) = 0 := by decide
      simp only [pEnd, pStIf, pCmp, pK, pVar, pBin, reduceCtorEq, or_self, ↓reduceIte, Option.map, h1, h2, h5, fMod, fEq_int, this, Int.reduceEq, decide_false]
    · have : (Int.fdiv ((2 : Nat) : Int) 2) = 1 := by decide
      have d : decide (((2 : Nat) : Int) > 1) = true := by decide
      simp only [List.length_cons, List.length_nil, pIf, pCmpN, pK, pVar, pBin, pTup, pCons, pNil, pCall, pPut, pUnpR, pPuts, Option.isSome_some, reduceCtorEq, or_self, List.reverse_cons, List.reverse_nil, List.nil_append, List.cons_append, ↓reduceIte, Nat.reduceAdd, Nat.reduceLeDiff, Nat.zero_add, Option.map, Option.bind, own_set, par_set, h1, h2, h4, h5, fGt_int, fDiv, this, d, a1, Int.reduceEq]
    · have u1 := e7 (k : Rat)
      have u2 := a4 (k : Rat)
      have u3 : (ev T (k : Rat) * ev Bb (k : Rat) ^ 2 - ev Tb (k : Rat) ^ 2 * ev B (k : Rat)) * ev B2 (k : Rat) = 0 := by grind
      rcases Rat.mul_eq_zero.mp u3 with u3 | u3
      · grind
      · exact absurd u3 hk
theorem fpower_run {Tf Bf : List Rat} {n : Int} (f : Fr 2 4 Tf Bf) (hn : n.natAbs ≤ 2) (h0 : n < 0 → Tf ≠ []) :
    ∃ T B, sp_fpower [fv Tf Bf, .int n] = some (fv T B) ∧ Low T B ∧ Fr 3 1500000 T B ∧ (0 ≤ n → ∀ x, ev T x * ev Bf x ^ n.natAbs = ev Tf x ^ n.natAbs * ev B x) ∧ (n < 0 → ∀ x, ev T x * ev Tf x ^ n.natAbs = ev Bf x ^ n.natAbs * ev B x) := by
  by_cases hs : n < 0
  · obtain ⟨Ti, Bi, i1, i2, i3, i4⟩ := finv_run f (h0 hs) (by omega) (by decide +kernel)
    have z : FS 2 4 = 34 := by decide +kernel
    rw [z] at i3
    obtain ⟨ps', T, B, e1, e2, e3, e4, e5, e6, e7⟩ := pow_core (ps := (((args ["f", "n"] [fv Tf Bf, .int n]).set "left" (.int n.natAbs)).set "base" (fv Ti Bi)).set "found" (fv [1] [1])) hn i3 rfl rfl (by simp only [↓reduceIte, loc_set]) (by simp only [String.reduceEq, ↓reduceIte, loc_set]) (by simp only [String.reduceEq, ↓reduceIte, loc_set])
    refine ⟨T, B, run_of rfl (seq_next (ps₁ := (((args ["f", "n"] [fv Tf Bf, .int n]).set "left" (.int n.natAbs)).set "base" (fv Ti Bi)).set "found" (fv [1] [1])) ?_ (seq_next e1 (seq_ret (ret_of (ps₁ := ps'.freeze) ?_)))), e5, e6, fun h => by omega, fun _ x => IsP.eq (φ := fun x => ev T x * ev Tf x ^ n.natAbs) (ψ := fun x => ev Bf x ^ n.natAbs * ev B x) ((IsP.ev T).mul ((IsP.ev Tf).pow _)) (((IsP.ev Bf).pow _).mul (IsP.ev B)) ((i2.tB.big i2.ne).mp fun k hk => ?_) x⟩
    · simp only [List.zip, List.zipWith, List.lookup_cons, List.length_cons, List.length_nil, pIf, pCmpN, pK, pVar, pUnN, pTup, pCons, pNil, pCall, pPut, pUnpR, pPuts, Option.isSome_some, reduceCtorEq, String.reduceBEq, beq_self_eq_true, or_self, List.reverse_cons, List.reverse_nil, List.nil_append, List.cons_append, ↓reduceIte, Nat.reduceAdd, Nat.reduceLeDiff, Nat.zero_add, Option.map, Option.bind, own_set, par_set, loc_args, own_args, par_args, F1eq, fLt_int, decide_eq_true hs, fAbs_int, i1]
    · simp only [pVar, reduceCtorEq, or_self, ↓reduceIte, Option.map, loc_freeze, own_freeze, par_freeze, e3, e4]
    · have u1 := e7 (k : Rat)
      have u2 := i4 (k : Rat)
      obtain ⟨a, ha⟩ : ∃ a, a = ev T (k : Rat) := ⟨_, rfl⟩
      obtain ⟨b, hb⟩ : ∃ b, b = ev B (k : Rat) := ⟨_, rfl⟩
      obtain ⟨c, hc⟩ : ∃ c, c = ev Tf (k : Rat) := ⟨_, rfl⟩
      obtain ⟨d, hd⟩ : ∃ d, d = ev Bf (k : Rat) := ⟨_, rfl⟩
      obtain ⟨u, hu⟩ : ∃ u, u = ev Ti (k : Rat) := ⟨_, rfl⟩
      obtain ⟨v, hv⟩ : ∃ v, v = ev Bi (k : Rat) := ⟨_, rfl⟩
      rw [← ha, ← hb, ← hu, ← hv] at u1
      rw [← hc, ← hd, ← hu, ← hv] at u2
      rw [← hv] at hk
      rw [← ha, ← hb, ← hc, ← hd]
      clear ha hb hc hd hu hv e7 e4 e1
      have hw : v ^ n.natAbs ≠ 0 := by
        obtain h | h | h : n.natAbs = 0 ∨ n.natAbs = 1 ∨ n.natAbs = 2 := by omega
        all_goals rw [h]; intro hz; apply hk; grind
      have u3 : (a * c ^ n.natAbs - d ^ n.natAbs * b) * v ^ n.natAbs = 0 := by
        obtain h | h | h : n.natAbs = 0 ∨ n.natAbs = 1 ∨ n.natAbs = 2 := by omega
        all_goals rw [h] at u1 ⊢; grind
      rcases Rat.mul_eq_zero.mp u3 with u3 | u3
      · grind
      · exact absurd u3 hw
  · obtain ⟨ps', T, B, e1, e2, e3, e4, e5, e6, e7⟩ := pow_core (ps := (((args ["f", "n"] [fv Tf Bf, .int n]).set "left" (.int n.natAbs)).set "base" (fv Tf Bf)).set "found" (fv [1] [1])) hn (f.mono (Nat.le_refl _) (by omega)) rfl rfl (by simp only [↓reduceIte, loc_set]) (by simp only [String.reduceEq, ↓reduceIte, loc_set]) (by simp only [String.reduceEq, ↓reduceIte, loc_set])
    refine ⟨T, B, run_of rfl (seq_next (ps₁ := (((args ["f", "n"] [fv Tf Bf, .int n]).set "left" (.int n.natAbs)).set "base" (fv Tf Bf)).set "found" (fv [1] [1])) ?_ (seq_next e1 (seq_ret (ret_of (ps₁ := ps'.freeze) ?_)))), e5, e6, fun _ => e7, fun h => absurd h hs⟩
    · simp only [List.zip, List.zipWith, List.lookup_cons, List.length_cons, List.length_nil, pIf, pCmpN, pK, pVar, pUnN, pTup, pCons, pNil, pPut, pUnpR, pPuts, Option.isSome_some, reduceCtorEq, String.reduceBEq, beq_self_eq_true, or_self, List.reverse_cons, List.reverse_nil, List.nil_append, List.cons_append, ↓reduceIte, Nat.reduceAdd, Nat.reduceLeDiff, Nat.zero_add, Option.map, Option.bind, own_set, par_set, loc_args, own_args, par_args, F1eq, fLt_int, decide_eq_false hs, fAbs_int]
    · simp only [pVar, reduceCtorEq, or_self, ↓reduceIte, Option.map, loc_freeze, own_freeze, par_freeze, e3, e4]
end NN
end

section
open PySem PySem.W PyProof.Rows PySem.Calls PySem.Spec PySem.Builtin.Int
set_option Elab.async false
set_option autoImplicit false
set_option maxRecDepth 10000
set_option linter.unusedSimpArgs false
set_option linter.unusedVariables false

namespace NN
theorem fRev_pv {p : List Rat} (h : p.length ≤ 2 ^ 20) : fRev (pv p) = some (pv p.reverse) := by
  simp only [fRev, pv, List.length_map]; rw [if_pos h, List.map_reverse]
noncomputable def num (r : Rat) : List Rat := if r = 0 then [] else [r]
theorem tr_num (r : Rat) : Tr (num r) := by unfold num; split; · exact tr_nil
                                            · rename_i h; exact tr_one h
theorem len_num (r : Rat) : (num r).length ≤ 1 := by unfold num; split <;> simp
theorem szl_num {s : Nat} {r : Rat} (h : Sz s r) : SzL s (num r) := by
  unfold num; split
  · exact szl_nil _
  · exact szl_cons h (szl_nil _)
theorem ev_num (r x : Rat) : ev (num r) x = r := by
  unfold num; split
  · rename_i h; rw [h]; rfl
  · simp only [ev]; grind
noncomputable def com_b : PSt := (pSeq (pAssign "value" (pCall sp_fadd (pCons (pCall sp_fmul (pCons (pVar "value") (pCons (pVar "g") pNil))) (pCons (pCall sp_fnumber (pCons (pVar "r") pNil)) pNil))))
    pEnd)
/-- one turn -/
theorem com_step {V L : List Rat} {r : Rat} {σ τ s : Nat} (tV : Tr V) (lV : V.length ≤ 1) (zV : SzL σ V) (tL : Tr L) (lL : L.length ≤ 2) (zL : SzL τ L) (zr : Sz s r) (hP1 : FP 2 (σ + τ + 1) ≤ 2 ^ 26) (hP2 : FP 2 (2 * (2 * (σ + τ + 1 + s + 1)) + 1) ≤ 2 ^ 26) :
    ∃ T V', sp_fmul [fv V [1], fv L [1]] = some T ∧ sp_fnumber [rv r] = some (fv (num r) [1]) ∧ sp_fadd [T, fv (num r) [1]] = some (fv V' [1]) ∧ Tr V' ∧ V'.length ≤ 2 ∧ (V = [] → V'.length ≤ 1) ∧ SzL (σ + τ + s + 2) V' ∧ ∀ x, ev V' x = ev V x * ev L x + r := by
  have t1 : Tr [1] := tr_one (by decide)
  have fV : Fr 1 σ V [1] := ⟨tV, t1, by simp, lV, by simp, zV, szl_one _⟩
  have fL : Fr 2 τ L [1] := ⟨tL, t1, by simp, lL, by simp, zL, szl_one _⟩
  obtain ⟨T, B, e1, e2, e3, e4⟩ := fmul_run (l := 2) (n := 1) (M := σ + τ + 1) fV fL (Nat.le_refl _) (by omega) (by omega) (by omega) hP1
  have one : ∀ x : Rat, ev [1] x = 1 := fun x => by simp only [ev]; grind
  obtain ⟨rfl, rfl⟩ := e2.uniq (low_one (tr_pmul0 tV tL)) (Lg.of fun k => by
    have := e4 (k : Rat)
    rw [one] at this
    rw [one, ev_pmul0]; grind)
  have zM : SzL (σ + τ + 1) (pmul0 V L) := by
    have hh := FP_two 2 (σ + τ + 1)
    have := (qmul_any (n := 1) lV (by omega) (by omega) zV zL (by omega)).2
    exact this.mono (by omega)
  have fT : Fr 2 (σ + τ + 1) (pmul0 V L) [1] := ⟨e2.tT, t1, by simp, e3.lT, by simp, zM, szl_one _⟩
  have fN : Fr 1 s (num r) [1] := ⟨tr_num r, t1, by simp, len_num r, by simp, szl_num zr, szl_one _⟩
  obtain ⟨V', B', f1, f2, f3, f4⟩ := fadd_run (l := 2) (n := 2) (M := 2 * (σ + τ + 1 + s + 1)) fT fN (by omega) (by omega) (by omega) (by omega) rfl hP2
  have hV' : ∀ x, ev V' x * 1 = (ev V x * ev L x + r) * ev B' x := fun x => by
    have := f4 x
    rw [one, ev_pmul0, ev_num] at this
    grind
  obtain ⟨rfl, rfl⟩ := f2.uniq (low_one (tr_trim (padd (pmul0 V L) (num r)))) (Lg.of fun k => by
    have := hV' (k : Rat)
    rw [one, ev_trim, ev_padd, ev_pmul0, ev_num]; grind)
  refine ⟨_, _, e1, fnumber_run, f1, tr_trim _, f3.lT, fun h => ?_, SzL.trim fun i => by rw [cf_padd]; exact ((zM i).add (szl_num zr i)).mono (by omega), fun x => ?_⟩
  · subst h
    have := len_trim_le (padd (pmul0 [] L) (num r))
    rw [len_padd] at this
    have h2 : pmul0 [] L = [] := if_pos (.inl rfl)
    rw [h2] at this
    have := len_num r
    rw [h2]
    simp only [List.length_nil] at *
    omega
  · rw [ev_trim, ev_padd, ev_pmul0, ev_num]
/-- the turns over a list of at most two -/
theorem com_turns {P L : List Rat} {ps : PS} (lP : P.length ≤ 2) (zP : SzL 4 P) (tL : Tr L) (lL : L.length ≤ 2) (zL : SzL 2 L) (h1 : ps.own = some "values") (h2 : ps.par = none) (h3 : ps.loc "value" = some (fv [] [1])) (h4 : ps.loc "g" = some (fv L [1])) :
    ∃ ps' V, pTurns "r" com_b (P.reverse.map rv) ps = some (.next, ps') ∧ ps'.own = some "values" ∧ ps'.par = none ∧ ps'.loc "value" = some (fv V [1]) ∧ ps'.loc "g" = some (fv L [1]) ∧ ps'.loc "values" = ps.loc "values" ∧ Tr V ∧ V.length ≤ 2 ∧ SzL 16 V ∧ ∀ x, ev V x = ev P (ev L x) := by
  match P, lP, zP with
  | [], _, _ => exact ⟨ps, [], rfl, h1, h2, h3, h4, rfl, tr_nil, by simp, szl_nil _, fun x => rfl⟩
  | [a], _, zP =>
    obtain ⟨T, V', a1, a2, a3, a4, a5, a6, a7, a8⟩ := com_step (r := a) tr_nil (by simp) (szl_nil 0) tL lL zL zP.head (by decide +kernel) (by decide +kernel)
    refine ⟨((ps.set "r" (rv a)).set "value" (fv V' [1])), V', ?_, h1, h2, by simp only [↓reduceIte, loc_set], by simp only [String.reduceEq, ↓reduceIte, loc_set, h4], by simp only [String.reduceEq, ↓reduceIte, loc_set], a4, a5, a7.mono (by omega), fun x => by rw [a8]; simp only [ev]; grind⟩
    simp only [List.reverse_cons, List.reverse_nil, List.nil_append, List.map_cons, List.map_nil, pTurns]
    rw [show pPut "r" ps (rv a) = some (ps.set "r" (rv a)) by simp only [pPut, reduceCtorEq, String.reduceEq, or_self, Option.some.injEq, ↓reduceIte, h1, h2]]
    simp only [Option.bind_some]
    rw [show com_b (ps.set "r" (rv a)) = some (.next, (ps.set "r" (rv a)).set "value" (fv V' [1])) by simp only [com_b, pSeq, pEnd, pVar, pCons, pNil, pCall, pAssign, pPut, reduceCtorEq, String.reduceEq, or_self, Option.some.injEq, ↓reduceIte, Option.map, loc_set, own_set, par_set, h1, h2, h3, h4, a1, a2, a3]]
  | [b, a], _, zP =>
    obtain ⟨T, V', a1, a2, a3, a4, a5, a6, a7, a8⟩ := com_step (r := a) tr_nil (by simp) (szl_nil 0) tL lL zL zP.tail.head (by decide +kernel) (by decide +kernel)
    obtain ⟨T2, V2, b1, b2, b3, b4, b5, b6, b7, b8⟩ := com_step (r := b) a4 (a6 rfl) a7 tL lL zL zP.head (by decide +kernel) (by decide +kernel)
    refine ⟨((((ps.set "r" (rv a)).set "value" (fv V' [1])).set "r" (rv b)).set "value" (fv V2 [1])), V2, ?_, h1, h2, by simp only [↓reduceIte, loc_set], by simp only [String.reduceEq, ↓reduceIte, loc_set, h4], by simp only [String.reduceEq, ↓reduceIte, loc_set], b4, b5, b7.mono (by omega), fun x => by rw [b8, a8]; simp only [ev]; grind⟩
    simp only [List.reverse_cons, List.reverse_nil, List.nil_append, List.cons_append, List.map_cons, List.map_nil, pTurns]
    rw [show pPut "r" ps (rv a) = some (ps.set "r" (rv a)) by simp only [pPut, reduceCtorEq, String.reduceEq, or_self, Option.some.injEq, ↓reduceIte, h1, h2]]
    simp only [Option.bind_some]
    rw [show com_b (ps.set "r" (rv a)) = some (.next, (ps.set "r" (rv a)).set "value" (fv V' [1])) by simp only [com_b, pSeq, pEnd, pVar, pCons, pNil, pCall, pAssign, pPut, reduceCtorEq, String.reduceEq, or_self, Option.some.injEq, ↓reduceIte, Option.map, loc_set, own_set, par_set, h1, h2, h3, h4, a1, a2, a3]]
    simp only
    rw [show pPut "r" ((ps.set "r" (rv a)).set "value" (fv V' [1])) (rv b) = some (((ps.set "r" (rv a)).set "value" (fv V' [1])).set "r" (rv b)) by simp only [pPut, reduceCtorEq, String.reduceEq, or_self, Option.some.injEq, ↓reduceIte, own_set, par_set, h1, h2]]
    simp only [Option.bind_some]
    rw [show com_b (((ps.set "r" (rv a)).set "value" (fv V' [1])).set "r" (rv b)) = some (.next, (((ps.set "r" (rv a)).set "value" (fv V' [1])).set "r" (rv b)).set "value" (fv V2 [1])) by simp only [com_b, pSeq, pEnd, pVar, pCons, pNil, pCall, pAssign, pPut, reduceCtorEq, String.reduceEq, or_self, Option.some.injEq, ↓reduceIte, Option.map, loc_set, own_set, par_set, h1, h2, h4, b1, b2, b3]]
noncomputable def com_p : PSt := (pSeq (pAssign "value" (pK (.tup [.lst [], .lst [rt 1 1]])))
    (pSeq (pFor "r" (pLs (pUn fRev (pVar "p"))) com_b)
    (pSeq (pAppend "values" (pVar "value"))
    pEnd)))
theorem com_part {P L : List Rat} {ps : PS} {ds : List PV} (hd : ds.length ≤ 2) (lP : P.length ≤ 2) (zP : SzL 4 P) (tL : Tr L) (lL : L.length ≤ 2) (zL : SzL 2 L) (h1 : ps.own = some "values") (h2 : ps.par = none) (h3 : ps.loc "p" = some (pv P)) (h4 : ps.loc "g" = some (fv L [1])) (h5 : ps.loc "values" = some (.lst ds)) :
    ∃ ps' V, com_p ps = some (.next, ps') ∧ ps'.own = some "values" ∧ ps'.par = none ∧ ps'.loc "g" = some (fv L [1]) ∧ ps'.loc "values" = some (.lst (ds ++ [fv V [1]])) ∧ Tr V ∧ V.length ≤ 2 ∧ SzL 16 V ∧ ∀ x, ev V x = ev P (ev L x) := by
  obtain ⟨ps', V, e1, e2, e3, e4, e5, e6, e7, e8, e9, e10⟩ := com_turns (ps := ps.set "value" (fv [] [1])) lP zP tL lL zL h1 h2 (by simp only [↓reduceIte, loc_set]) (by simp only [String.reduceEq, ↓reduceIte, loc_set, h4])
  have e6' : ps'.loc "values" = some (.lst ds) := by rw [e6]; simp only [String.reduceEq, ↓reduceIte, loc_set, h5]
  refine ⟨ps'.set "values" (.lst (ds ++ [fv V [1]])), V, seq_next (ps₁ := ps.set "value" (fv [] [1])) ?_ (seq_next (ps₁ := ps') ?_ (seq_next (ps₁ := ps'.set "values" (.lst (ds ++ [fv V [1]]))) ?_ rfl)), e2, e3, by simp only [String.reduceEq, ↓reduceIte, loc_set, e5], by simp only [↓reduceIte, loc_set], e7, e8, e9, e10⟩
  · simp only [pK, pAssign, pPut, reduceCtorEq, String.reduceEq, or_self, Option.some.injEq, ↓reduceIte, Option.map, F0eq, h1, h2]
  · unfold pFor
    rw [pLs_pv (q := P.reverse) (ps' := ps.set "value" (fv [] [1])) (by simp only [pVar, pUn, reduceCtorEq, String.reduceEq, or_self, Option.some.injEq, ↓reduceIte, Option.map, loc_set, own_set, par_set, h1, h2, h3, fRev_pv (p := P) (by omega)]) (by simp; omega)]
    exact e1
  · unfold pAppend
    simp only [pVar, reduceCtorEq, String.reduceEq, or_self, or_false, Option.some.injEq, ↓reduceIte, Option.map, e2, e3, e4, e6']
    rw [if_pos (by simp only [true_and]; omega)]
theorem fcompose_run {T B L : List Rat} (f : Fr 2 4 T B) (tL : Tr L) (lL : L.length ≤ 2) (zL : SzL 2 L) (hB : ∀ V, (∀ x, ev V x = ev B (ev L x)) → V ≠ []) :
    ∃ T' B', sp_fcompose [fv T B, fv L [1]] = some (fv T' B') ∧ Low T' B' ∧ Fr 3 100000 T' B' ∧ ∀ x, ev T' x * ev B (ev L x) = ev T (ev L x) * ev B' x := by
  obtain ⟨ps₁, V₁, e1, e2, e3, e4, e5, e6, e7, e8, e9⟩ := com_part (ps := { ((({ (args ["f", "g"] [fv T B, fv L [1]]).set "values" (.lst []) with own := some "values" } : PS)).set "p" (pv T)) with own := some "values" }) (ds := []) (by simp) f.lT f.zT tL lL zL rfl rfl (by simp only [↓reduceIte, loc_set, par_set, par_args]) (by simp only [List.zip, List.zipWith, List.lookup_cons, String.reduceEq, String.reduceBEq, beq_self_eq_true, ↓reduceIte, loc_set, par_set, loc_args, par_args]) (by simp only [String.reduceEq, ↓reduceIte, loc_set, par_set, par_args])
  obtain ⟨ps₂, V₂, g1, g2, g3, g4, g5, g6, g7, g8, g9⟩ := com_part (ps := ps₁.set "p" (pv B)) (ds := [fv V₁ [1]]) (by simp) f.lB f.zB tL lL zL e2 e3 (by simp only [↓reduceIte, loc_set]) (by simp only [String.reduceEq, ↓reduceIte, loc_set, e4]) (by simp only [String.reduceEq, List.nil_append, ↓reduceIte, loc_set, e5])
  have t1 : Tr [1] := tr_one (by decide)
  have one : ∀ x : Rat, ev [1] x = 1 := fun x => by simp only [ev]; grind
  obtain ⟨T', B', k1, k2, k3, k4⟩ := fdiv_run (l := 3) (n := 2) (M := 66) (Tf := V₁) (Bf := [1]) (Tg := V₂) (Bg := [1]) (l1 := 2) (l2 := 2) (s := 16) (t := 16) ⟨e6, t1, by simp, e7, by simp, e8, szl_one _⟩ ⟨g6, t1, by simp, g7, by simp, g8, szl_one _⟩ (hB V₂ g9) (by omega) (by omega) (by omega) (by omega) (by decide +kernel)
  refine ⟨T', B', run_of rfl (seq_next (ps₁ := { (args ["f", "g"] [fv T B, fv L [1]]).set "values" (.lst []) with own := some "values" }) ?_ (seq_next (ps₁ := ps₂) ?_ (seq_ret (ret_of (ps₁ := ps₂.freeze) ?_)))), k2, k3.mono (Nat.le_refl _) (by decide +kernel), fun x => ?_⟩
  · simp only [pAssignO, List.length_nil, pNil, pDisp, ↓reduceIte, Nat.reduceLeDiff, par_set, own_args, par_args]
    rfl
  · have hT : pTs (pVar "f") ({ (args ["f", "g"] [fv T B, fv L [1]]).set "values" (.lst []) with own := some "values" } : PS) = some ([pv T, pv B], { (args ["f", "g"] [fv T B, fv L [1]]).set "values" (.lst []) with own := some "values" }) := by
      simp only [pTs, fv, List.zip, List.zipWith, List.lookup_cons, pVar, reduceCtorEq, String.reduceEq, beq_self_eq_true, or_self, Option.some.injEq, ↓reduceIte, Option.map, loc_set, par_set, loc_args, par_args]
    have b1 : pPut "p" ({ (args ["f", "g"] [fv T B, fv L [1]]).set "values" (.lst []) with own := some "values" } : PS) (pv T) = some { ((({ (args ["f", "g"] [fv T B, fv L [1]]).set "values" (.lst []) with own := some "values" } : PS)).set "p" (pv T)) with own := some "values" } := by
      simp only [pPut, reduceCtorEq, String.reduceEq, or_self, Option.some.injEq, ↓reduceIte, par_set, par_args]
      rfl
    have b2 : pPut "p" ps₁ (pv B) = some (ps₁.set "p" (pv B)) := by simp only [pPut, reduceCtorEq, String.reduceEq, or_self, Option.some.injEq, ↓reduceIte, e2, e3]
    show pFor "p" (pTs (pVar "f")) com_p _ = _
    unfold pFor
    rw [hT]
    simp only [pTurns, b1, Option.bind_some, e1, b2, g1]
  · have q1 : pick (PV.lst ([fv V₁ [1]] ++ [fv V₂ [1]])) 0 = some (fv V₁ [1]) := rfl
    have q2 : pick (PV.lst ([fv V₁ [1]] ++ [fv V₂ [1]])) 1 = some (fv V₂ [1]) := rfl
    simp only [List.cons_append, List.nil_append] at q1 q2
    simp only [pK, pSubN, pCons, pNil, pCall, Option.isSome_some, List.nil_append, List.cons_append, ↓reduceIte, Option.map, Option.bind, loc_freeze, g5, q1, q2, k1]
  · have := k4 x
    rw [one, e9, g9] at this
    grind
end NN
end

section
open PySem PySem.W PyProof.Rows PySem.Calls PySem.Spec PySem.Builtin.Int
set_option Elab.async false
set_option autoImplicit false
set_option maxRecDepth 10000
set_option linter.unusedSimpArgs false
set_option linter.unusedVariables false

namespace NN
theorem loc_argsP (x : String) (xs : List String) (pool ds : List PV) (y : String) : (argsP x xs pool ds).loc y = ((x :: xs).zip (.lst pool :: ds)).lookup y := rfl
theorem own_argsP (x : String) (xs : List String) (pool ds : List PV) : (argsP x xs pool ds).own = none := rfl
theorem par_argsP (x : String) (xs : List String) (pool ds : List PV) : (argsP x xs pool ds).par = some x := rfl
theorem runP_of {x : String} {xs : List String} {p : PSt} {pool ds pool' : List PV} {d : PV} {ps : PS} (hl : ds.length = xs.length) (h : p (argsP x xs pool ds) = some (.ret d, ps)) (h1 : ps.loc x = some (.lst pool')) (h2 : ps.par = some x) : runP x xs p pool ds = some (d, pool') := by
  unfold runP; rw [if_pos hl, h]; simp only [h1, h2, if_true]
theorem pSetItem_gen {x : String} {q p : PE PV} {ps ps₁ ps₂ : PS} {ds : List PV} {d : PV} {k : Int} (n : Nat) (h : p ps = some (d, ps₁)) (hx : (ps₁.loc x).isSome = true) (h2 : q ps₁ = some (.int k, ps₂)) (hx2 : ps₂.loc x = some (.lst ds)) (ho : ps₂.own = some x ∨ ps₂.par = some x) (hk : k = n) (hn : n < ds.length) (hl : ds.length ≤ 2 ^ 20) :
    pSetItem x q p ps = some (.next, ps₂.set x (.lst (ds.set n d))) := by
  subst hk
  unfold pSetItem
  simp only [h, hx, h2, hx2, if_true]
  rw [if_pos ⟨ho, by omega, by simpa using hn, hl⟩, Int.toNat_natCast]
theorem pCallP_of {x : String} {sp : List PV → List PV → Option (PV × List PV)} {q : PE (List PV)} {ps ps₁ : PS} {l₀ pool pool' ds : List PV} {d : PV} (h : ps.loc x = some (.lst l₀)) (ho : ps.own = some x ∨ ps.par = some x) (h2 : q ps = some (ds, ps₁)) (h3 : ps₁.loc x = some (.lst pool)) (ho1 : ps₁.own = some x ∨ ps₁.par = some x) (h4 : sp pool ds = some (d, pool')) :
    pCallP x sp q ps = some (d, ps₁.set x (.lst pool')) := by
  unfold pCallP
  simp only [h, if_pos ho, h2, h3, if_pos ho1, h4, Option.map_some]
/-- the pool -/
noncomputable def pl (a : Int) (ns : List Int) (i : Int) : List PV := [.int a, .lst (ns.map PV.int), .int i]
noncomputable def InR (a : Int) : Prop := 0 ≤ a ∧ a < 2147483647
theorem lay_ints : ∀ (ns : List Int), PyData.canLayAll0 (PV.pys (ns.map PV.int)) = true ∧ PyData.depthAll (PV.pys (ns.map PV.int)) = 0
  | [] => by simp [PV.pys, PyData.canLayAll0, PyData.depthAll]
  | c :: p => by
    obtain ⟨h1, h2⟩ := lay_ints p
    simp [PV.py, PV.pys, PyData.canLayAll0, PyData.depthAll, PyData.canLay0, PyData.depth, h1, h2]
theorem fNe_ints (ns : List Int) : fNe (.lst (ns.map PV.int)) (.lst []) = some (!decide (ns = [])) := by
  obtain ⟨h1, h2⟩ := lay_ints ns
  have s1 : small (.lst (ns.map PV.int)) = true := small_of (by simp only [PV.py, PyData.canLay0, h1]) (by simp only [PV.py, PyData.depth, h2]; omega)
  have s2 : small (.lst []) = true := small_pv []
  unfold fNe
  rw [s1, s2]
  cases ns <;> simp [PV.py, PV.pys, PyData.eqv, PyData.eqvAll]
theorem pick_ints {ns : List Int} {k : Int} (hl : ns.length ≤ 2 ^ 20) (h0 : 0 ≤ k) (h1 : k < ns.length) : ∃ v, pick (.lst (ns.map PV.int)) k = some (.int v) := by
  simp only [pick, List.length_map]
  rw [if_pos (by omega), if_pos h0, List.getElem?_map, List.getElem?_eq_getElem (by omega)]
  exact ⟨_, rfl⟩
theorem fMul_lit {a b : Int} (ha : a.natAbs ≤ 2 ^ 32) (hb : b.natAbs ≤ 2 ^ 32) : fMul (.int a) (.int b) = some (.int (a * b)) := fMul_ok ha hb (by omega)
theorem fMod_int {a b : Int} (h : b ≠ 0) : fMod (.int a) (.int b) = some (.int (a.fmod b)) := by simp only [fMod, h, if_false]
theorem pick_pl0 (a i : Int) (ns : List Int) : pick (.lst (pl a ns i)) 0 = some (.int a) := rfl
theorem pick_pl1 (a i : Int) (ns : List Int) : pick (.lst (pl a ns i)) 1 = some (.lst (ns.map PV.int)) := rfl
theorem pick_pl2 (a i : Int) (ns : List Int) : pick (.lst (pl a ns i)) 2 = some (.int i) := rfl
theorem draw_run {ns : List Int} (hns : ns.length ≤ 64) {a i many : Int} (ha : InR a) (hm : 0 < many) :
    ∃ r a' i', sp_law_draw (pl a ns i) [.int many] = some (.int r, pl a' ns i') ∧ 0 ≤ r ∧ r < many ∧ InR a' := by
  have hlen : fLen (.lst (ns.map PV.int)) = some (.int ns.length) := by
    simp only [fLen, List.length_map]; rw [if_pos (by omega)]
  obtain ⟨c, hc⟩ : ∃ c : Int, pIf (pCmpN fNe "script" (pFr (pDisp pNil))) (pUn fAbs (pSubN "script" (pBin fMod (pSubN "pool" (pK (.int 2))) (pUnN fLen "script")))) (pK (.int 3)) ((argsP "pool" ["many"] (pl a ns i) [.int many]).set "script" (.lst (ns.map PV.int))) = some (.int c, (argsP "pool" ["many"] (pl a ns i) [.int many]).set "script" (.lst (ns.map PV.int))) := by
    by_cases h0 : ns = []
    · exact ⟨3, by simp only [List.length_nil, pIf, pCmpN, pK, pNil, pFr, pDisp, Option.isSome_some, ↓reduceIte, Nat.reduceLeDiff, Option.map, Option.bind, loc_set, fNe_ints, decide_eq_true h0, Bool.not_true]⟩
    · have hpos := List.length_pos_iff.mpr h0
      have hz : (ns.length : Int) ≠ 0 := by omega
      obtain ⟨v, hv⟩ := pick_ints (ns := ns) (k := i.fmod ns.length) (by omega) (Int.fmod_nonneg_of_pos _ (by omega)) (Int.fmod_lt_of_pos _ (by omega))
      exact ⟨v.natAbs, by simp only [List.zip, List.zipWith, List.lookup_cons, List.length_nil, pIf, pCmpN, pK, pSubN, pBin, pUn, pUnN, pNil, pFr, pDisp, Option.isSome_some, String.reduceEq, beq_self_eq_true, ↓reduceIte, Nat.reduceLeDiff, Option.map, Option.bind, loc_set, loc_argsP, fNe_ints, decide_eq_false h0, Bool.not_false, pick_pl2, hlen, fMod_int hz, hv, fAbs_int]⟩
  have m1 := fMul_lit (a := a) (b := 48271) (by have := ha.1; have := ha.2; omega) (by decide)
  have hw : (2147483647 : Int) ≠ 0 := by decide
  have hw2 : (1000003 : Int) ≠ 0 := by decide
  have hmn : many ≠ 0 := by omega
  obtain ⟨a', ha'⟩ : ∃ a', a' = (a * 48271 + c.fmod 1000003 + 29).fmod 2147483647 := ⟨_, rfl⟩
  refine ⟨(a'.fdiv 13).fmod many, a', i + 1, ?_, Int.fmod_nonneg_of_pos _ hm, Int.fmod_lt_of_pos _ hm, by rw [ha']; exact ⟨Int.fmod_nonneg_of_pos _ (by decide), Int.fmod_lt_of_pos _ (by decide)⟩⟩
  obtain ⟨ps₀, hps₀⟩ : ∃ ps₀, ps₀ = (((argsP "pool" ["many"] (pl a ns i) [.int many]).set "script" (.lst (ns.map PV.int))).set "cell" (.int c)) := ⟨_, rfl⟩
  have l1 : ps₀.loc "pool" = some (.lst (pl a ns i)) := by rw [hps₀]; simp only [List.zip, List.zipWith, List.lookup_cons, String.reduceEq, beq_self_eq_true, ↓reduceIte, loc_set, loc_argsP]
  have l2 : ps₀.loc "cell" = some (.int c) := by rw [hps₀]; simp only [↓reduceIte, loc_set]
  have l3 : ps₀.loc "many" = some (.int many) := by rw [hps₀]; simp only [List.zip, List.zipWith, List.lookup_cons, String.reduceEq, String.reduceBEq, beq_self_eq_true, ↓reduceIte, loc_set, loc_argsP]
  have l4 : ps₀.own = none := by rw [hps₀]; rfl
  have l5 : ps₀.par = some "pool" := by rw [hps₀]; rfl
  have s1 := pSetItem_gen (x := "pool") (q := pK (.int 2)) (p := pBin fAdd (pSubN "pool" (pK (.int 2))) (pK (.int 1))) (ps := ps₀) (ps₁ := ps₀) (ps₂ := ps₀) (ds := pl a ns i) (d := .int (i + 1)) (k := 2) 2 (by simp only [pK, pSubN, pBin, fAdd, Option.isSome_some, ↓reduceIte, Option.map, Option.bind, l1, pick_pl2]) (by rw [l1]; rfl) rfl l1 (.inr l5) rfl (by simp [pl]) (by simp [pl])
  have s2 := pSetItem_gen (x := "pool") (q := pK (.int 0)) (p := pBin fMod (pBin fAdd (pBin fAdd (pBin fMul (pSubN "pool" (pK (.int 0))) (pK (.int 48271))) (pBin fMod (pVar "cell") (pK (.int 1000003)))) (pK (.int 29))) (pK (.int 2147483647))) (ps := ps₀.set "pool" (.lst (pl a ns (i + 1)))) (ps₁ := ps₀.set "pool" (.lst (pl a ns (i + 1)))) (ps₂ := ps₀.set "pool" (.lst (pl a ns (i + 1)))) (ds := pl a ns (i + 1)) (d := .int a') (k := 0) 0 (by simp only [pK, pVar, pSubN, pBin, fAdd, Option.isSome_some, reduceCtorEq, String.reduceEq, or_self, Option.some.injEq, ↓reduceIte, Option.map, Option.bind, loc_set, own_set, par_set, l2, l4, l5, pick_pl0, m1, fMod_int hw, fMod_int hw2, ha']) (by rw [loc_set]; rfl) rfl (by simp only [↓reduceIte, loc_set]) (.inr l5) rfl (by simp [pl]) (by simp [pl])
  rw [show (pl a ns i).set 2 (.int (i + 1)) = pl a ns (i + 1) from rfl] at s1
  rw [show (pl a ns (i + 1)).set 0 (.int a') = pl a' ns (i + 1) from rfl] at s2
  refine runP_of (ps := ((ps₀.set "pool" (.lst (pl a ns (i + 1)))).set "pool" (.lst (pl a' ns (i + 1)))).freeze) rfl (seq_next (ps₁ := (argsP "pool" ["many"] (pl a ns i) [.int many]).set "script" (.lst (ns.map PV.int))) ?_ (seq_next (ps₁ := ps₀) ?_ (seq_next s1 (seq_next s2 (seq_ret (ret_of (ps₁ := ((ps₀.set "pool" (.lst (pl a ns (i + 1)))).set "pool" (.lst (pl a' ns (i + 1)))).freeze) ?_)))))) (by simp only [↓reduceIte, loc_set, loc_freeze]) l5
  · simp only [List.zip, List.zipWith, List.lookup_cons, pK, pSubN, pAssign, pPut, Option.isSome_some, reduceCtorEq, String.reduceEq, beq_self_eq_true, or_self, Option.some.injEq, ↓reduceIte, Option.map, Option.bind, loc_argsP, own_argsP, par_argsP, pick_pl1]
  · unfold pAssign
    rw [hc]
    rw [hps₀]
    simp only [pPut, reduceCtorEq, String.reduceEq, or_self, Option.some.injEq, ↓reduceIte, Option.map, own_set, par_set, own_argsP, par_argsP]
  · have h13 : (13 : Int) ≠ 0 := by decide
    simp only [pK, pVar, pSubN, pBin, Option.isSome_some, reduceCtorEq, String.reduceEq, or_self, Option.some.injEq, ↓reduceIte, Option.map, Option.bind, loc_set, par_set, loc_freeze, own_freeze, par_freeze, l3, l5, pick_pl0, fDiv_int h13, fMod_int hmn]
/-- a draw in an expression -/
theorem draw_call {ns : List Int} (hns : ns.length ≤ 64) {a i many : Int} (ha : InR a) (hm : 0 < many) {ps : PS} (h : ps.loc "pool" = some (.lst (pl a ns i))) (ho : ps.own = some "pool" ∨ ps.par = some "pool") :
    ∃ r a' i', pCallP "pool" sp_law_draw (pCons (pK (.int many)) pNil) ps = some (.int r, ps.set "pool" (.lst (pl a' ns i'))) ∧ 0 ≤ r ∧ r < many ∧ InR a' := by
  obtain ⟨r, a', i', e1, e2, e3, e4⟩ := draw_run hns (i := i) ha hm
  exact ⟨r, a', i', pCallP_of h ho rfl h ho e1, e2, e3, e4⟩
end NN
end

section
open PySem PySem.W PyProof.Rows PySem.Calls PySem.Spec PySem.Builtin.Int
set_option Elab.async false
set_option autoImplicit false
set_option maxRecDepth 10000
set_option linter.unusedSimpArgs false
set_option linter.unusedVariables false

namespace NN
theorem pAppend_pv {x : String} {p : PE PV} {ps ps₁ : PS} {q : List Rat} {c : Rat} (h0 : ps.loc x = some (pv q)) (ho : ps.own = some x) (h : p ps = some (rv c, ps₁)) (h1 : ps₁.loc x = some (pv q)) (ho1 : ps₁.own = some x) (hl : q.length ≤ 2 ^ 20) :
    pAppend x p ps = some (.next, ps₁.set x (pv (q ++ [c]))) := by
  unfold pAppend
  simp only [h0, pv, ho, true_or, if_true, h, h1, ho1, List.length_map, true_and]
  rw [if_pos hl, List.map_append]
  rfl
theorem pPop_pv {x : String} {ps : PS} {q : List Rat} (h0 : ps.loc x = some (pv q)) (ho : ps.own = some x) (hq : q ≠ []) (hl : q.length ≤ 2 ^ 20) : pPop x ps = some (.next, ps.set x (pv q.dropLast)) := by
  have := List.length_pos_iff.mpr hq
  unfold pPop
  simp only [h0, pv, ho, true_or, List.length_map, true_and]
  rw [if_pos ⟨hl, this⟩, ← List.map_dropLast]
noncomputable def pol_e : PE PV := (pCall sp_rat (pCons (pBin fSub (pCallP "pool" sp_law_draw (pCons (pK (.int 9)) pNil)) (pK (.int 4))) (pCons (pSub (pFr (pDisp (pCons (pK (.int 1)) (pCons (pK (.int 1)) (pCons (pK (.int 1)) (pCons (pK (.int 2)) (pCons (pK (.int 3)) pNil))))))) (pCallP "pool" sp_law_draw (pCons (pK (.int 5)) pNil))) pNil)))
theorem pol_term {ns : List Int} (hns : ns.length ≤ 64) {a i : Int} (ha : InR a) {ps : PS} (h : ps.loc "pool" = some (.lst (pl a ns i))) (ho : ps.par = some "pool") :
    ∃ c X a' i', pol_e ps = some (rv c, (ps.set "pool" X).set "pool" (.lst (pl a' ns i'))) ∧ Sz 2 c ∧ InR a' := by
  obtain ⟨r, a₁, i₁, e1, r1, r2, ha1⟩ := draw_call hns (many := 9) ha (by decide) h (.inr ho)
  obtain ⟨t, a₂, i₂, e2, t1, t2, ha2⟩ := draw_call hns (many := 5) (ps := ps.set "pool" (.lst (pl a₁ ns i₁))) (a := a₁) (i := i₁) ha1 (by decide) (by simp only [↓reduceIte, loc_set]) (.inr ho)
  obtain ⟨k, hk, k1, k2⟩ : ∃ k : Int, pick (.lst [.int 1, .int 1, .int 1, .int 2, .int 3]) t = some (.int k) ∧ 1 ≤ k ∧ k ≤ 3 := by
    obtain rfl | rfl | rfl | rfl | rfl : t = 0 ∨ t = 1 ∨ t = 2 ∨ t = 3 ∨ t = 4 := by omega
    · exact ⟨1, rfl, by decide, by decide⟩
    · exact ⟨1, rfl, by decide, by decide⟩
    · exact ⟨1, rfl, by decide, by decide⟩
    · exact ⟨2, rfl, by decide, by decide⟩
    · exact ⟨3, rfl, by decide, by decide⟩
  have hk0 : k ≠ 0 := by omega
  refine ⟨Rat.divInt (r - 4) k, .lst (pl a₁ ns i₁), a₂, i₂, ?_, sz_divInt hk0 (by omega) (by omega), ha2⟩
  have hd : pFr (pDisp (pCons (pK (.int 1)) (pCons (pK (.int 1)) (pCons (pK (.int 1)) (pCons (pK (.int 2)) (pCons (pK (.int 3)) pNil)))))) (ps.set "pool" (.lst (pl a₁ ns i₁))) = some (.lst [.int 1, .int 1, .int 1, .int 2, .int 3], ps.set "pool" (.lst (pl a₁ ns i₁))) := rfl
  have c1 : pBin fSub (pCallP "pool" sp_law_draw (pCons (pK (.int 9)) pNil)) (pK (.int 4)) ps = some (.int (r - 4), ps.set "pool" (.lst (pl a₁ ns i₁))) := by
    unfold pBin; rw [e1]; rfl
  have c2 : pSub (pFr (pDisp (pCons (pK (.int 1)) (pCons (pK (.int 1)) (pCons (pK (.int 1)) (pCons (pK (.int 2)) (pCons (pK (.int 3)) pNil))))))) (pCallP "pool" sp_law_draw (pCons (pK (.int 5)) pNil)) (ps.set "pool" (.lst (pl a₁ ns i₁))) = some (.int k, (ps.set "pool" (.lst (pl a₁ ns i₁))).set "pool" (.lst (pl a₂ ns i₂))) := by
    unfold pSub pBin; rw [hd]; simp only [e2, fPick, hk]; rfl
  unfold pol_e pCall
  simp only [pCons, c1, c2, pNil, rat_run _ _ hk0]
  rfl
theorem pol_turn {ns : List Int} (hns : ns.length ≤ 64) {a i : Int} (ha : InR a) {ps : PS} {q : List Rat} (hq : q.length ≤ 1) (zq : SzL 2 q) (h : ps.loc "pool" = some (.lst (pl a ns i))) (ho : ps.par = some "pool") (h1 : ps.own = some "found") (h2 : ps.loc "found" = some (pv q)) :
    ∃ ps' c a' i', pSeq (pAppend "found" pol_e) pEnd ps = some (.next, ps') ∧ InR a' ∧ Sz 2 c ∧ ps'.par = some "pool" ∧ ps'.own = some "found" ∧ ps'.loc "pool" = some (.lst (pl a' ns i')) ∧ ps'.loc "found" = some (pv (q ++ [c])) := by
  obtain ⟨c, X, a', i', e1, e2, e3⟩ := pol_term hns ha h ho
  have e4 := pAppend_pv (x := "found") (p := pol_e) h2 h1 e1 (by simp only [String.reduceEq, ↓reduceIte, loc_set, h2]) h1 (by omega)
  exact ⟨_, c, a', i', seq_next e4 rfl, e3, e2, ho, h1, by simp only [String.reduceEq, ↓reduceIte, loc_set], by simp only [↓reduceIte, loc_set]⟩
noncomputable def pop_t : PE Bool := (pAnd (pCmpN fNe "found" (pFr (pDisp pNil))) (pAnd (pCmp fEq (pSub (pSubN "found" (pUn fNeg (pK (.int 1)))) (pK (.int 0))) (pK (.int 0))) (pBool true)))
noncomputable def pop_b : PSt := (pSeq (pPop "found")
    pEnd)
theorem pop_loop {ns : List Int} {a i : Int} : ∀ (n : Nat) (q : List Rat) (ps : PS), q.length = n → n ≤ 100 → SzL 2 q → ps.own = some "found" → ps.par = some "pool" → ps.loc "pool" = some (.lst (pl a ns i)) → ps.loc "found" = some (pv q) →
    ∃ ps' p, pWh pop_t pop_b ps = some (.next, ps') ∧ Tr p ∧ p.length ≤ q.length ∧ SzL 2 p ∧ ps'.par = some "pool" ∧ ps'.loc "pool" = some (.lst (pl a ns i)) ∧ ps'.loc "found" = some (pv p) := by
  intro n
  induction n with
  | zero =>
    intro q ps hq _ zq h1 h2 h3 h4
    obtain rfl := List.length_eq_zero_iff.mp hq
    refine ⟨ps, [], pWh_stop (ps' := ps) ?_, tr_nil, Nat.le_refl _, zq, h2, h3, h4⟩
    simp only [pop_t, List.length_nil, pCmp, pCmpN, pK, pSubN, pSub, pBin, fPick, pUn, pNil, pFr, pDisp, pAnd, pBool, fNeg, Option.isSome_some, ↓reduceIte, Nat.reduceLeDiff, Option.map, Option.bind, h4, ← pv_nil, fNe_pv]
    rfl
  | succ n ih =>
    intro q ps hq hn zq h1 h2 h3 h4
    have q0 : q ≠ [] := by intro h; rw [h] at hq; simp at hq
    have e1 := pick_last (p := q) (k := -1) n (by omega) rfl hq
    by_cases h0 : cf q n = 0
    · obtain ⟨ps', p, a1, a2, a3, a4⟩ := ih q.dropLast (ps.set "found" (pv q.dropLast)) (by simp; omega) (by omega) (szl_dropLast zq) h1 h2 (by simp only [String.reduceEq, ↓reduceIte, loc_set, h3]) (by simp only [↓reduceIte, loc_set])
      refine ⟨ps', p, pWh_turn (ps₁ := ps) (ps₂ := ps.set "found" (pv q.dropLast)) ?_ (seq_next (pPop_pv h4 h1 q0 (by omega)) rfl) a1, a2, Nat.le_trans a3 (by simp), a4⟩
      simp only [pop_t, List.length_nil, pCmp, pCmpN, pK, pSubN, pSub, pBin, fPick, pUn, pNil, pFr, pDisp, pAnd, pBool, fNeg, Option.isSome_some, ↓reduceIte, Nat.reduceLeDiff, Option.map, Option.bind, h4, ← pv_nil, fNe_pv, decide_eq_false q0, Bool.not_false, Int.reduceNeg, e1, pick_rv0, fEq_int, (num_zero_iff _).mpr h0, decide_true]
    · refine ⟨ps, q, pWh_stop (ps' := ps) ?_, fun k hk => (by
        have hkn : k = n := by omega
        rw [hkn]; exact h0), Nat.le_refl _, zq, h2, h3, h4⟩
      have : decide ((cf q n).num = 0) = false := decide_eq_false (by rw [num_zero_iff]; exact h0)
      simp only [pop_t, List.length_nil, pCmp, pCmpN, pK, pSubN, pSub, pBin, fPick, pUn, pNil, pFr, pDisp, pAnd, fNeg, Option.isSome_some, ↓reduceIte, Nat.reduceLeDiff, Option.map, Option.bind, h4, ← pv_nil, fNe_pv, decide_eq_false q0, Bool.not_false, Int.reduceNeg, e1, pick_rv0, fEq_int, this]
theorem poly_run {ns : List Int} (hns : ns.length ≤ 64) {a i : Int} (ha : InR a) :
    ∃ p a' i', sp_law_poly (pl a ns i) [.int 1] = some (pv p, pl a' ns i') ∧ Tr p ∧ p.length ≤ 2 ∧ SzL 2 p ∧ InR a' := by
  obtain ⟨ps₀, hps₀⟩ : ∃ ps₀ : PS, ps₀ = { (argsP "pool" ["degree"] (pl a ns i) [.int 1]).set "found" (.lst []) with own := some "found" } := ⟨_, rfl⟩
  have k1 : ps₀.loc "pool" = some (.lst (pl a ns i)) := by rw [hps₀]; simp only [List.zip, List.zipWith, List.lookup_cons, String.reduceEq, beq_self_eq_true, ↓reduceIte, loc_set, loc_argsP]
  have k2 : ps₀.loc "found" = some (pv []) := by rw [hps₀]; simp only [Option.some.injEq, ↓reduceIte, loc_set]; rfl
  have k3 : ps₀.loc "degree" = some (.int 1) := by rw [hps₀]; simp only [List.zip, List.zipWith, List.lookup_cons, String.reduceEq, String.reduceBEq, beq_self_eq_true, ↓reduceIte, loc_set, loc_argsP]
  have k4 : ps₀.own = some "found" := by rw [hps₀]
  have k5 : ps₀.par = some "pool" := by rw [hps₀]; rfl
  obtain ⟨ps₁, c₁, a₁, i₁, b1, b2, b3, b4, b5, b6, b7⟩ := pol_turn hns (i := i) (ps := ps₀.set "turn" (.int 0)) (q := []) ha (by simp) (szl_nil _) (by simp only [String.reduceEq, ↓reduceIte, loc_set, k1]) k5 k4 (by simp only [String.reduceEq, ↓reduceIte, loc_set, k2])
  obtain ⟨ps₂, c₂, a₂, i₂, d1, d2, d3, d4, d5, d6, d7⟩ := pol_turn hns (i := i₁) (ps := ps₁.set "turn" (.int 1)) (q := [] ++ [c₁]) b2 (by simp) (szl_cons b3 (szl_nil _)) (by simp only [String.reduceEq, ↓reduceIte, loc_set, b6]) b4 b5 (by simp only [String.reduceEq, List.nil_append, ↓reduceIte, loc_set, b7])
  obtain ⟨ps₃, p, f1, f2, f3, f4, f5, f6, f7⟩ := pop_loop 2 ([] ++ [c₁] ++ [c₂]) ps₂ rfl (by omega) (szl_cons b3 (szl_cons d3 (szl_nil _))) d5 d4 d6 d7
  refine ⟨p, a₂, i₂, runP_of (ps := ps₃.freeze) rfl (seq_next (ps₁ := ps₀) ?_ (seq_next (ps₁ := ps₂) ?_ (seq_next f1 (seq_ret (ret_of (ps₁ := ps₃.freeze) ?_))))) f6 f5, f2, f3, f4, d2⟩
  · unfold pAssignO
    rw [hps₀]
    rfl
  · have hr : pRg (pBin fAdd (pVar "degree") (pK (.int 1))) ps₀ = some ([.int 0, .int 1], ps₀) := by
      rw [pRg_n (k := 2) (ps' := ps₀) 2 (by simp only [pK, pVar, pBin, fAdd, String.reduceEq, or_self, Option.some.injEq, ↓reduceIte, Option.map, k3, k4, k5]; rfl) rfl (by omega)]
      rfl
    show pFor "turn" _ (pSeq (pAppend "found" pol_e) pEnd) ps₀ = _
    unfold pFor
    rw [hr]
    simp only [pTurns]
    rw [show pPut "turn" ps₀ (.int 0) = some (ps₀.set "turn" (.int 0)) by simp only [pPut, String.reduceEq, or_self, Option.some.injEq, ↓reduceIte, k4, k5]]
    simp only [Option.bind_some, b1]
    rw [show pPut "turn" ps₁ (.int 1) = some (ps₁.set "turn" (.int 1)) by simp only [pPut, String.reduceEq, or_self, Option.some.injEq, ↓reduceIte, b4, b5]]
    simp only [Option.bind_some, d1]
  · simp only [pVar, reduceCtorEq, String.reduceEq, or_self, Option.some.injEq, ↓reduceIte, Option.map, loc_freeze, own_freeze, par_freeze, f5, f7]

/-! the product -/
theorem grown_term {u s t : Nat} {h o c : Rat} (zh : Sz u h) (zo : Sz s o) (zc : Sz t c) (hb : u + s + t ≤ 2 ^ 26) :
    ∃ x1 x2 x3 x4 x5 x6, fMul (.int h.num) (.int o.den) = some (.int x1) ∧ fMul (.int x1) (.int c.den) = some (.int x2) ∧ fMul (.int o.num) (.int c.num) = some (.int x3) ∧ fMul (.int x3) (.int h.den) = some (.int x4) ∧ fMul (.int h.den) (.int o.den) = some (.int x5) ∧ fMul (.int x5) (.int c.den) = some (.int x6) ∧ sp_rat [.int (x2 + x4), .int x6] = some (rv (h + o * c)) := by
  have a1 := fMul_ok zh.1 (show (o.den : Int).natAbs ≤ _ from zo.2) (by omega)
  have b1 : (h.num * (o.den : Int)).natAbs ≤ 2 ^ (u + s) := by rw [Int.natAbs_mul]; exact pow_mul_le zh.1 zo.2
  have a2 := fMul_ok b1 (show (c.den : Int).natAbs ≤ _ from zc.2) (by omega)
  have a3 := fMul_ok zo.1 zc.1 (by omega)
  have b3 : (o.num * c.num).natAbs ≤ 2 ^ (s + t) := by rw [Int.natAbs_mul]; exact pow_mul_le zo.1 zc.1
  have a4 := fMul_ok b3 (show (h.den : Int).natAbs ≤ _ from zh.2) (by omega)
  have a5 := fMul_ok (show (h.den : Int).natAbs ≤ _ from zh.2) (show (o.den : Int).natAbs ≤ _ from zo.2) (by omega)
  have b5 : ((h.den : Int) * (o.den : Int)).natAbs ≤ 2 ^ (u + s) := by rw [Int.natAbs_mul]; exact pow_mul_le zh.2 zo.2
  have a6 := fMul_ok b5 (show (c.den : Int).natAbs ≤ _ from zc.2) (by omega)
  refine ⟨_, _, _, _, _, _, a1, a2, a3, a4, a5, a6, ?_⟩
  have n1 : (h.den : Int) ≠ 0 := by have := h.den_nz; omega
  have n2 : (o.den : Int) ≠ 0 := by have := o.den_nz; omega
  have n3 : (c.den : Int) ≠ 0 := by have := c.den_nz; omega
  have n4 : (h.den : Int) * o.den ≠ 0 := Int.mul_ne_zero n1 n2
  have n5 : (h.den : Int) * o.den * c.den ≠ 0 := Int.mul_ne_zero n4 n3
  have n6 : (o.den : Int) * c.den ≠ 0 := Int.mul_ne_zero n2 n3
  rw [rat_run _ _ n5]
  congr 2
  rw [mul_eq_divInt o c]
  conv => rhs; rw [← Rat.num_divInt_den h]
  rw [Rat.divInt_add_divInt _ _ n1 n6]
  congr 1
  · rw [Int.mul_assoc h.num]
  · rw [Int.mul_assoc]
noncomputable def gr_b : PSt := (pSeq (pAssign "here" (pSubN "found" (pBin fAdd (pVar "at") (pVar "spot"))))
    (pSeq (pSetItem "found" (pBin fAdd (pVar "at") (pVar "spot")) (pCall sp_rat (pCons (pBin fAdd (pBin fMul (pBin fMul (pSubN "here" (pK (.int 0))) (pSubN "one" (pK (.int 1)))) (pSubN "other" (pK (.int 1)))) (pBin fMul (pBin fMul (pSubN "one" (pK (.int 0))) (pSubN "other" (pK (.int 0)))) (pSubN "here" (pK (.int 1))))) (pCons (pBin fMul (pBin fMul (pSubN "here" (pK (.int 1))) (pSubN "one" (pK (.int 1)))) (pSubN "other" (pK (.int 1)))) pNil))))
    pEnd))
inductive GrI (b : List Rat) (l : Rat) (i u z : Nat) (bs : List Rat) (j : Nat) (F : List Rat) (ps : PS) : Prop
  | mk (ps' : PS) (F' : List Rat) (h0 : pTurnsE "spot" "other" gr_b j (bs.map rv) ps = some (.next, ps')) (h1 : F'.length = F.length) (h2 : (∀ x, ev F' x = ev F x + x ^ (i + j) * (l * ev bs x))) (h3 : (∀ k, Sz (u + z) (cf F' k))) (h4 : ps'.own = some "found") (h5 : ps'.par = none) (h6 : ps'.loc "found" = some (pv F')) (h7 : ps'.loc "q" = some (pv b)) : GrI b l i u z bs j F ps
theorem gr_inner {b : List Rat} {s t : Nat} (l : Rat) (sl : Sz s l) (i : Nat) (u : Nat) (hu : u + s + t ≤ 2 ^ 26) : ∀ (bs : List Rat) (j : Nat) (F : List Rat) (ps : PS), SzL t bs → i + j + bs.length ≤ F.length → F.length ≤ 2 ^ 20 → (∀ k, Sz (u + (s + t + 1)) (cf F k)) → (∀ k, i + j ≤ k → Sz u (cf F k)) →
    ps.own = some "found" → ps.par = none → ps.loc "found" = some (pv F) → ps.loc "at" = some (.int i) → ps.loc "one" = some (rv l) → ps.loc "q" = some (pv b) →
    GrI b l i u (s + t + 1) bs j F ps := by
  intro bs
  induction bs with
  | nil =>
    intro j F ps _ _ _ h1 _ h3 h4 h5 h6 h7 h8
    exact ⟨ps, F, rfl, rfl, fun x => by simp only [ev]; grind, h1, h3, h4, h5, h8⟩
  | cons c bs ih =>
    intro j F ps sb hl hF h1 h2 h3 h4 h5 h6 h7 h8
    have hn : i + j < F.length := by simp only [List.length_cons] at hl; omega
    obtain ⟨x1, x2, x3, x4, x5, x6, m1, m2, m3, m4, m5, m6, m7⟩ := grown_term (h2 (i + j) (Nat.le_refl _)) sl sb.head hu
    have e3 := pick_pv (p := F) (k := (i : Int) + (j : Int)) (i + j) hF (by omega) hn
    have sn : Sz (u + (s + t + 1)) (cf F (i + j) + l * c) := (h2 (i + j) (Nat.le_refl _)).add (sl.mul sb.head)
    have hc : ∀ k, cf (F.set (i + j) (cf F (i + j) + l * c)) k = if k = i + j then cf F (i + j) + l * c else cf F k := fun k => cf_set F (i + j) _ k hn
    obtain ⟨ps₁, hps₁⟩ : ∃ ps₁ : PS, ps₁ = (((ps.set "spot" (.int j)).set "other" (rv c)).set "here" (rv (cf F (i + j)))) := ⟨_, rfl⟩
    have q1 : ps₁.loc "found" = some (pv F) := by rw [hps₁]; simp only [String.reduceEq, ↓reduceIte, loc_set, h5]
    have q2 : ps₁.loc "at" = some (.int i) := by rw [hps₁]; simp only [String.reduceEq, ↓reduceIte, loc_set, h6]
    have q3 : ps₁.loc "one" = some (rv l) := by rw [hps₁]; simp only [String.reduceEq, ↓reduceIte, loc_set, h7]
    have q4 : ps₁.loc "q" = some (pv b) := by rw [hps₁]; simp only [String.reduceEq, ↓reduceIte, loc_set, h8]
    have q5 : ps₁.loc "here" = some (rv (cf F (i + j))) := by rw [hps₁]; simp only [↓reduceIte, loc_set]
    have q6 : ps₁.loc "other" = some (rv c) := by rw [hps₁]; simp only [String.reduceEq, ↓reduceIte, loc_set]
    have q7 : ps₁.loc "spot" = some (.int j) := by rw [hps₁]; simp only [String.reduceEq, ↓reduceIte, loc_set]
    have q8 : ps₁.own = some "found" := by rw [hps₁]; exact h3
    have q9 : ps₁.par = none := by rw [hps₁]; exact h4
    obtain ⟨ps', F', a1, a2, a3, a4, a5, a6, a7, a8⟩ := ih (j + 1) (F.set (i + j) (cf F (i + j) + l * c)) (ps₁.set "found" (pv (F.set (i + j) (cf F (i + j) + l * c)))) sb.tail (by simp only [List.length_cons, List.length_set] at *; omega) (by simpa using hF)
      (fun k => by
        rw [hc]; split
        · exact sn
        · exact h1 k)
      (fun k hk => by
        rw [hc, if_neg (by omega)]; exact h2 k (by omega)) q8 q9 (by simp only [↓reduceIte, loc_set]) (by simp only [String.reduceEq, ↓reduceIte, loc_set, q2]) (by simp only [String.reduceEq, ↓reduceIte, loc_set, q3]) (by simp only [String.reduceEq, ↓reduceIte, loc_set, q4])
    refine ⟨ps', F', ?_, by rw [a2]; simp, fun x => ?_, a4, a5, a6, a7, a8⟩
    · simp only [List.map_cons, pTurnsE]
      rw [show pPuts ["spot", "other"] [PV.int j, rv c] ps = some ((ps.set "spot" (.int j)).set "other" (rv c)) by simp only [pPut, pPuts, reduceCtorEq, String.reduceEq, or_self, Option.some.injEq, ↓reduceIte, Option.bind, own_set, par_set, h3, h4]]
      simp only [Option.bind_some]
      have hset := pSetItem_pv (x := "found") (q := pBin fAdd (pVar "at") (pVar "spot")) (p := (pCall sp_rat (pCons (pBin fAdd (pBin fMul (pBin fMul (pSubN "here" (pK (.int 0))) (pSubN "one" (pK (.int 1)))) (pSubN "other" (pK (.int 1)))) (pBin fMul (pBin fMul (pSubN "one" (pK (.int 0))) (pSubN "other" (pK (.int 0)))) (pSubN "here" (pK (.int 1))))) (pCons (pBin fMul (pBin fMul (pSubN "here" (pK (.int 1))) (pSubN "one" (pK (.int 1)))) (pSubN "other" (pK (.int 1)))) pNil)))) (ps := ps₁) (ps₂ := ps₁) (i + j) (k := (i : Int) + (j : Int)) (F := F) (c := cf F (i + j) + l * c) (ps₁ := ps₁) (by simp only [pK, pSubN, pBin, pCons, pNil, pCall, fAdd, Option.isSome_some, ↓reduceIte, Option.map, Option.bind, q3, q5, q6, pick_rv0, pick_rv1, m1, m2, m3, m4, m5, m6, m7]) q1 (by simp only [pVar, pBin, fAdd, reduceCtorEq, String.reduceEq, or_self, Option.some.injEq, ↓reduceIte, Option.map, q2, q7, q8, q9]) q1 q8 (by omega) hn hF
      rw [show gr_b ((ps.set "spot" (.int j)).set "other" (rv c)) = some (.next, ps₁.set "found" (pv (F.set (i + j) (cf F (i + j) + l * c)))) from seq_next (ps₁ := ps₁) (by rw [hps₁]; simp only [pVar, pSubN, pBin, pAssign, pPut, fAdd, Option.isSome_some, reduceCtorEq, String.reduceEq, or_self, Option.some.injEq, ↓reduceIte, Option.map, Option.bind, loc_set, own_set, par_set, h3, h4, h5, h6, e3]) (seq_next hset rfl)]
      exact a1
    · rw [a3, ev_set F _ _ _ hn]
      simp only [ev]
      rw [show i + (j + 1) = i + j + 1 by omega, Rat.pow_succ]
      grind
inductive GrO (b : List Rat) (z : Nat) (as : List Rat) (i : Nat) (F : List Rat) (ps : PS) : Prop
  | mk (ps' : PS) (F' : List Rat) (h0 : pTurnsE "at" "one" (pSeq (pForE "spot" "other" (pVar "q") gr_b)
    pEnd) i (as.map rv) ps = some (.next, ps')) (h1 : F'.length = F.length) (h2 : (∀ x, ev F' x = ev F x + x ^ i * (ev as x * ev b x))) (h3 : SzL z F') (h4 : ps'.own = some "found") (h5 : ps'.par = none) (h6 : ps'.loc "found" = some (pv F')) : GrO b z as i F ps
theorem gr_outer {b : List Rat} {s t : Nat} (sb : SzL t b) (hb : b.length ≤ 2 ^ 18) : ∀ (as : List Rat) (i : Nat) (F : List Rat) (ps : PS), SzL s as → i + as.length + b.length ≤ F.length + 1 → F.length ≤ 2 ^ 20 → SzL (i * (s + t + 1)) F → (i + as.length) * (s + t + 1) ≤ 2 ^ 26 →
    ps.own = some "found" → ps.par = none → ps.loc "found" = some (pv F) → ps.loc "q" = some (pv b) →
    GrO b ((i + as.length) * (s + t + 1)) as i F ps := by
  intro as
  induction as with
  | nil =>
    intro i F ps _ _ _ h1 _ h3 h4 h5 h6
    exact ⟨ps, F, rfl, rfl, fun x => by simp only [ev]; grind, h1, h3, h4, h5⟩
  | cons c as ih =>
    intro i F ps sa hl hF h1 h2 h3 h4 h5 h6
    have hmul : (i + 1 + as.length) * (s + t + 1) = i * (s + t + 1) + (s + t + 1) + as.length * (s + t + 1) := by
      rw [Nat.add_mul, Nat.add_mul, Nat.one_mul]
    have e0 : i + (c :: as).length = i + 1 + as.length := by simp only [List.length_cons]; omega
    rw [e0] at h2 hl ⊢
    have em : (i + 1) * (s + t + 1) = i * (s + t + 1) + (s + t + 1) := by rw [Nat.add_mul, Nat.one_mul]
    obtain ⟨ps₁, F₁, a1, a2, a3, a4, a5, a6, a7, a8⟩ := gr_inner (b := b) (s := s) (t := t) c sa.head i (i * (s + t + 1)) (by omega) b 0 F ((ps.set "at" (.int i)).set "one" (rv c)) sb (by omega) hF (fun k => (h1 k).mono (by omega)) (fun k _ => h1 k) h3 h4 (by simp only [String.reduceEq, ↓reduceIte, loc_set, h5]) (by simp only [String.reduceEq, ↓reduceIte, loc_set]) (by simp only [↓reduceIte, loc_set]) (by simp only [String.reduceEq, ↓reduceIte, loc_set, h6])
    obtain ⟨ps', F', b1, b2, b3, b4, b5, b6, b7⟩ := ih (i + 1) F₁ ps₁ sa.tail (by omega) (by omega) (by rw [em]; exact a4) h2 a5 a6 a7 a8
    refine ⟨ps', F', ?_, by rw [b2, a2], fun x => ?_, b4, b5, b6, b7⟩
    · simp only [List.map_cons, pTurnsE]
      rw [show pPuts ["at", "one"] [PV.int i, rv c] ps = some ((ps.set "at" (.int i)).set "one" (rv c)) by simp only [pPut, pPuts, reduceCtorEq, String.reduceEq, or_self, Option.some.injEq, ↓reduceIte, Option.bind, own_set, par_set, h3, h4]]
      simp only [Option.bind_some]
      rw [seq_next (ps₁ := ps₁) (r := some (.next, ps₁)) ?_ rfl]
      · exact b1
      · unfold pForE
        rw [show pVar "q" ((ps.set "at" (.int i)).set "one" (rv c)) = some (pv b, (ps.set "at" (.int i)).set "one" (rv c)) by simp only [pVar, reduceCtorEq, String.reduceEq, or_self, Option.some.injEq, ↓reduceIte, Option.map, loc_set, own_set, par_set, h3, h4, h6]]
        simp only [pv, List.length_map]
        rw [if_pos (by omega)]
        exact a1
    · rw [b3, a3, Rat.pow_succ]
      simp only [ev, Nat.add_zero]
      grind
theorem grown_run {s t : Nat} {a b : List Rat} (ha : a.length ≤ 2 ^ 18) (hb : b.length ≤ 2 ^ 18) (sa : SzL s a) (sb : SzL t b) (h : a.length * (s + t + 1) ≤ 2 ^ 26) (h1 : b ≠ []) :
    sp_law_grown [pv a, pv b] = some (pv (pmul0 a b)) ∧ SzL (a.length * (s + t + 1)) (pmul0 a b) := by
  have p1 := List.length_pos_iff.mpr h1
  by_cases h0 : a = []
  · subst h0
    have hm : pmul0 [] b = [] := if_pos (.inl rfl)
    rw [hm]
    refine ⟨run_of rfl (seq_next (ps₁ := { (args ["p", "q"] [pv [], pv b]).set "found" (.lst []) with own := some "found" }) ?_ (seq_next (ps₁ := { (args ["p", "q"] [pv [], pv b]).set "found" (.lst []) with own := some "found" }) ?_ (seq_ret (ret_of (ps₁ := ({ (args ["p", "q"] [pv [], pv b]).set "found" (.lst []) with own := some "found" } : PS).freeze) ?_)))), szl_nil _⟩
    · unfold pAssignO
      have e : pAnd (pCmpN fNe "p" (pFr (pDisp pNil))) (pAnd (pCmpN fNe "q" (pFr (pDisp pNil))) (pBool true)) (args ["p", "q"] [pv [], pv b]) = some (false, args ["p", "q"] [pv [], pv b]) := by
        simp only [List.zip, List.zipWith, List.lookup_cons, List.length_nil, pCmpN, pNil, pFr, pDisp, pAnd, Option.isSome_some, beq_self_eq_true, ↓reduceIte, Nat.reduceLeDiff, Option.map, Option.bind, loc_args, ← pv_nil, fNe_pv, decide_true, Bool.not_true]
      simp only [pIf, e]
      rfl
    · unfold pForE
      simp only [List.zip, List.zipWith, List.lookup_cons, List.length_nil, pVar, reduceCtorEq, String.reduceEq, beq_self_eq_true, or_self, Option.some.injEq, ↓reduceIte, Option.map, loc_set, par_set, loc_args, par_args, pv, List.map_nil, pTurnsE]
      rfl
    · simp only [pVar, reduceCtorEq, or_self, Option.some.injEq, ↓reduceIte, Option.map, loc_set, par_set, loc_freeze, own_freeze, par_freeze, par_args]
      rfl
  · have p0 := List.length_pos_iff.mpr h0
    have hlen := len_pmul a b h0 h1
    have hm : pmul0 a b = pmul a b := if_neg (by rw [not_or]; exact ⟨h0, h1⟩)
    rw [hm]
    obtain ⟨ps', F', e1, e2, e3, e4, e5, e6, e7⟩ := gr_outer (s := s) sb hb a 0 (List.replicate (a.length + b.length - 1) 0) ({ (args ["p", "q"] [pv a, pv b]).set "found" (pv (List.replicate (a.length + b.length - 1) 0)) with own := some "found" }) sa (by simp; omega) (by simp; omega)
      (fun i => by
        by_cases hi : i < a.length + b.length - 1
        · have := cf_raise_lt (a.length + b.length - 1) [] i hi
          rw [List.append_nil] at this
          rw [this]; exact sz0 _
        · rw [cf_ge _ _ (by simpa using hi)]; exact sz0 _) (by rw [Nat.zero_add]; exact h) rfl rfl rfl rfl
    have hF : F' = pmul a b := by
      refine list_ext _ _ (by rw [e2]; simp; omega) (cf_of_lg (Lg.of fun k => ?_))
      have := ev_raise (a.length + b.length - 1) [] (k : Rat)
      rw [List.append_nil] at this
      rw [e3, ev_pmul, this]
      simp only [ev, Rat.pow_zero]
      grind
    subst hF
    rw [Nat.zero_add] at e4
    refine ⟨?_, e4⟩
    have la := fLen_pv (p := a) (by omega)
    have lb := fLen_pv (p := b) (by omega)
    refine run_of rfl (seq_next (ps₁ := { (args ["p", "q"] [pv a, pv b]).set "found" (pv (List.replicate (a.length + b.length - 1) 0)) with own := some "found" }) ?_ (seq_next (ps₁ := ps') ?_ (seq_ret (ret_of (ps₁ := ps'.freeze) ?_))))
    · unfold pAssignO
      have e : pAnd (pCmpN fNe "p" (pFr (pDisp pNil))) (pAnd (pCmpN fNe "q" (pFr (pDisp pNil))) (pBool true)) (args ["p", "q"] [pv a, pv b]) = some (true, args ["p", "q"] [pv a, pv b]) := by
        simp only [List.zip, List.zipWith, List.lookup_cons, List.length_nil, pCmpN, pNil, pFr, pDisp, pAnd, pBool, Option.isSome_some, String.reduceBEq, beq_self_eq_true, ↓reduceIte, Nat.reduceLeDiff, Option.map, Option.bind, loc_args, ← pv_nil, fNe_pv, decide_eq_false h0, decide_eq_false h1, Bool.not_false]
      simp only [pIf, e]
      rw [pLC_map (fun k : Nat => PV.int (k : Int)) (fun _ => rv 0) (List.range (a.length + b.length - 1)) (pRg_n (a.length + b.length - 1) (ps' := args ["p", "q"] [pv a, pv b]) (k := (a.length : Int) + b.length - 1) (by simp only [List.zip, List.zipWith, List.lookup_cons, pK, pBin, pUnN, fAdd, fSub, String.reduceBEq, beq_self_eq_true, Option.map, Option.bind, loc_args, la, lb]) (by omega) (by omega)) (by simp; omega) rfl rfl (fun k _ => by simp only [List.length_cons, List.length_nil, pK, pTup, pCons, pNil, Option.some.injEq, ↓reduceIte, Nat.reduceAdd, Nat.reduceLeDiff, Nat.zero_add, Option.map, rv0]; rfl)]
      have : (List.range (a.length + b.length - 1)).map (fun _ => rv 0) = (List.replicate (a.length + b.length - 1) 0).map rv := by
        rw [List.map_replicate]
        exact List.ext_getElem (by simp) (by simp)
      rw [this]
      rfl
    · show pForE "at" "one" (pVar "p") (pSeq (pForE "spot" "other" (pVar "q") gr_b) pEnd) _ = _
      unfold pForE
      rw [show pVar "p" ({ (args ["p", "q"] [pv a, pv b]).set "found" (pv (List.replicate (a.length + b.length - 1) 0)) with own := some "found" }) = some (pv a, { (args ["p", "q"] [pv a, pv b]).set "found" (pv (List.replicate (a.length + b.length - 1) 0)) with own := some "found" }) by simp only [List.zip, List.zipWith, List.lookup_cons, pVar, reduceCtorEq, String.reduceEq, beq_self_eq_true, or_self, Option.some.injEq, ↓reduceIte, Option.map, loc_set, par_set, loc_args, par_args]]
      simp only [pv, List.length_map]
      rw [if_pos (by omega)]
      exact e1
    · simp only [pVar, reduceCtorEq, or_self, ↓reduceIte, Option.map, loc_freeze, own_freeze, par_freeze, e6, e7]
end NN
end

section
open PySem PySem.W PyProof.Rows PySem.Calls PySem.Spec PySem.Builtin.Int
set_option Elab.async false
set_option autoImplicit false
set_option maxRecDepth 10000
set_option linter.unusedSimpArgs false
set_option linter.unusedVariables false

namespace NN
theorem fPow_ok {a : Int} {t j : Nat} (ha : a.natAbs ≤ 2 ^ t) (ht : t ≤ 1000000) (hj : j ≤ 10) : fPow (.int a) (.int j) = some (.int (a ^ j)) := by
  have h1 := intBits_le ha
  have h2 : intBits a * j ≤ (t + 1) * 10 := Nat.mul_le_mul h1 hj
  have h3 : intTooBig (((intBits a : Nat) : Int) * (j : Int)) = false := by
    unfold intTooBig bitsLine
    rw [decide_eq_false_iff_not]
    have : ((intBits a : Nat) : Int) * (j : Int) = ((intBits a * j : Nat) : Int) := by rw [Int.natCast_mul]
    omega
  unfold fPow
  simp only [h3]
  rw [if_neg (by simp), Int.toNat_natCast]
theorem pow_abs {a : Int} {t : Nat} (ha : a.natAbs ≤ 2 ^ t) : ∀ j : Nat, (a ^ j).natAbs ≤ 2 ^ (t * j)
  | 0 => by simp
  | j + 1 => by
    rw [Int.pow_succ, Int.natAbs_mul, Nat.mul_succ]
    exact pow_mul_le (pow_abs ha j) ha
theorem rcast_ne {a : Int} (h : a ≠ 0) : (a : Rat) ≠ 0 := fun e => h (Rat.intCast_eq_zero_iff.mp e)
theorem rcast_pow (a : Int) : ∀ j : Nat, ((a ^ j : Int) : Rat) = (a : Rat) ^ j := fun j => Rat.intCast_pow a j
theorem num_den (q : Rat) : q = (q.num : Rat) / ((q.den : Int) : Rat) := by
  rw [← Rat.divInt_eq_div, Rat.num_divInt_den]
theorem rpow_ne {b : Rat} (hb : b ≠ 0) : ∀ j : Nat, b ^ j ≠ 0
  | 0 => by rw [Rat.pow_zero]; decide
  | j + 1 => by
    rw [Rat.pow_succ]
    intro h
    rcases Rat.mul_eq_zero.mp h with h | h
    · exact rpow_ne hb j h
    · exact hb h
theorem rdiv_pow (a b : Rat) (hb : b ≠ 0) : ∀ j : Nat, (a / b) ^ j = a ^ j / b ^ j
  | 0 => by simp only [Rat.pow_zero]; decide +kernel
  | j + 1 => by
    have := rpow_ne hb j
    simp only [Rat.pow_succ, rdiv_pow a b hb j]
    grind
theorem mul_natAbs {a b : Int} {s t : Nat} (ha : a.natAbs ≤ 2 ^ s) (hb : b.natAbs ≤ 2 ^ t) : (a * b).natAbs ≤ 2 ^ (s + t) := by
  rw [Int.natAbs_mul]; exact pow_mul_le ha hb
theorem add_natAbs {a b : Int} {s : Nat} (ha : a.natAbs ≤ 2 ^ s) (hb : b.natAbs ≤ 2 ^ s) : (a + b).natAbs ≤ 2 ^ (s + 1) := by
  have := Int.natAbs_add_le a b
  rw [Nat.pow_succ]; omega
theorem natAbs_mono {a : Int} {s t : Nat} (ha : a.natAbs ≤ 2 ^ s) (h : s ≤ t) : a.natAbs ≤ 2 ^ t := Nat.le_trans ha (Nat.pow_le_pow_right (by omega) h)
noncomputable def val_b : PSt := (pSeq (pUnpR ["above", "below"] (pTup (pCons (pBin fMul (pSubN "r" (pK (.int 0))) (pBin fPow (pSubN "x" (pK (.int 0))) (pVar "at"))) (pCons (pBin fMul (pSubN "r" (pK (.int 1))) (pBin fPow (pSubN "x" (pK (.int 1))) (pVar "at"))) pNil))))
    (pSeq (pUnpR ["top", "bottom"] (pTup (pCons (pBin fAdd (pBin fMul (pVar "top") (pVar "below")) (pBin fMul (pVar "above") (pVar "bottom"))) (pCons (pBin fMul (pVar "bottom") (pVar "below")) pNil))))
    pEnd))
inductive VaL (ξ : Rat) (z : Nat) (as : List Rat) (j : Nat) (T B : Int) (ps : PS) : Prop
  | mk (ps' : PS) (T' B' : Int) (h0 : pTurnsE "at" "r" val_b j (as.map rv) ps = some (.next, ps')) (h1 : B' ≠ 0) (h2 : (T' : Rat) / (B' : Rat) = (T : Rat) / (B : Rat) + ξ ^ j * ev as ξ) (h3 : T'.natAbs ≤ 2 ^ z) (h4 : B'.natAbs ≤ 2 ^ z) (h5 : ps'.own = none) (h6 : ps'.par = none) (h7 : ps'.loc "top" = some (.int T')) (h8 : ps'.loc "bottom" = some (.int B')) : VaL ξ z as j T B ps
theorem val_loop {S t : Nat} {ξ : Rat} (zx : Sz t ξ) (ht : t ≤ 1000) (hS : S ≤ 1000) : ∀ (as : List Rat) (j : Nat) (T B : Int) (u : Nat) (ps : PS), SzL S as → j + as.length ≤ 3 → u + as.length * (S + 2 * t + 1) ≤ 100000 → B ≠ 0 → T.natAbs ≤ 2 ^ u → B.natAbs ≤ 2 ^ u →
    ps.own = none → ps.par = none → ps.loc "top" = some (.int T) → ps.loc "bottom" = some (.int B) → ps.loc "x" = some (rv ξ) →
    VaL ξ (u + as.length * (S + 2 * t + 1)) as j T B ps := by
  intro as
  induction as with
  | nil =>
    intro j T B u ps _ _ _ h0 hT hB h1 h2 h3 h4 h5
    exact ⟨ps, T, B, rfl, h0, by simp only [ev]; grind, natAbs_mono hT (by omega), natAbs_mono hB (by omega), h1, h2, h3, h4⟩
  | cons c as ih =>
    intro j T B u ps za hj hu h0 hT hB h1 h2 h3 h4 h5
    have em : u + (c :: as).length * (S + 2 * t + 1) = (u + (S + 2 * t) + 1) + as.length * (S + 2 * t + 1) := by
      simp only [List.length_cons, Nat.add_mul, Nat.one_mul]; omega
    have hj2 : j ≤ 2 := by simp only [List.length_cons] at hj; omega
    have htj : t * j ≤ 2 * t := by rw [Nat.mul_comm 2 t]; exact Nat.mul_le_mul_left t hj2
    rw [em] at hu ⊢
    have zc := za.head
    have p1 := fPow_ok (j := j) zx.1 (by omega) (by omega)
    have p2 := fPow_ok (j := j) (a := (ξ.den : Int)) (t := t) zx.2 (by omega) (by omega)
    have b1 := natAbs_mono (pow_abs zx.1 j) htj
    have b2 := natAbs_mono (pow_abs (a := (ξ.den : Int)) (t := t) zx.2 j) htj
    have m1 := fMul_ok zc.1 b1 (by omega)
    have m2 := fMul_ok (a := (c.den : Int)) (s := S) zc.2 b2 (by omega)
    have s1 := mul_natAbs zc.1 b1
    have s2 := mul_natAbs (a := (c.den : Int)) (s := S) zc.2 b2
    obtain ⟨A, hA⟩ : ∃ A : Int, A = c.num * ξ.num ^ j := ⟨_, rfl⟩
    obtain ⟨D, hD⟩ : ∃ D : Int, D = (c.den : Int) * (ξ.den : Int) ^ j := ⟨_, rfl⟩
    rw [← hA] at m1 s1
    rw [← hD] at m2 s2
    have m3 := fMul_ok hT s2 (by omega)
    have m4 := fMul_ok s1 hB (by omega)
    have m5 := fMul_ok hB s2 (by omega)
    have s3 := add_natAbs (mul_natAbs hT s2) (natAbs_mono (mul_natAbs s1 hB) (show (S + 2 * t) + u ≤ u + (S + 2 * t) by omega))
    have s5 := natAbs_mono (mul_natAbs hB s2) (show u + (S + 2 * t) ≤ u + (S + 2 * t) + 1 by omega)
    have cd : (c.den : Int) ≠ 0 := by have := c.den_nz; omega
    have xd : (ξ.den : Int) ≠ 0 := by have := ξ.den_nz; omega
    have xdp : (ξ.den : Int) ^ j ≠ 0 := Int.pow_ne_zero xd
    have D0 : D ≠ 0 := by rw [hD]; exact Int.mul_ne_zero cd xdp
    have hq : (A : Rat) / (D : Rat) = c * ξ ^ j := by
      rw [hA, hD, Rat.intCast_mul, Rat.intCast_mul, rcast_pow, rcast_pow]
      have e1 := num_den c
      have e2 : ξ ^ j = (ξ.num : Rat) ^ j / ((ξ.den : Int) : Rat) ^ j := by
        conv => lhs; rw [num_den ξ]
        exact rdiv_pow _ _ (rcast_ne xd) j
      have n1 := rcast_ne cd
      have n2 : ((ξ.den : Int) : Rat) ^ j ≠ 0 := by rw [← rcast_pow]; exact rcast_ne xdp
      rw [e2]
      conv => rhs; rw [e1]
      grind
    obtain ⟨ps', T', B', a1, a2, a3, a4, a5, a6, a7, a8, a9⟩ := ih (j + 1) (T * D + A * B) (B * D) (u + (S + 2 * t) + 1) ((((((ps.set "at" (.int j)).set "r" (rv c)).set "below" (.int D)).set "above" (.int A)).set "bottom" (.int (B * D))).set "top" (.int (T * D + A * B))) za.tail (by simp only [List.length_cons] at hj; omega) hu (Int.mul_ne_zero h0 D0) s3 s5 h1 h2 (by simp only [↓reduceIte, loc_set]) (by simp only [String.reduceEq, ↓reduceIte, loc_set]) (by simp only [String.reduceEq, ↓reduceIte, loc_set, h5])
    refine ⟨ps', T', B', ?_, a2, ?_, a4, a5, a6, a7, a8, a9⟩
    · simp only [List.map_cons, pTurnsE]
      rw [show pPuts ["at", "r"] [PV.int j, rv c] ps = some ((ps.set "at" (.int j)).set "r" (rv c)) by simp only [pPut, pPuts, reduceCtorEq, or_self, ↓reduceIte, Option.bind, own_set, par_set, h1, h2]]
      simp only [Option.bind_some]
      rw [show val_b ((ps.set "at" (.int j)).set "r" (rv c)) = some (.next, ((((((ps.set "at" (.int j)).set "r" (rv c)).set "below" (.int D)).set "above" (.int A)).set "bottom" (.int (B * D))).set "top" (.int (T * D + A * B)))) from seq_next (ps₁ := ((((ps.set "at" (.int j)).set "r" (rv c)).set "below" (.int D)).set "above" (.int A))) (by simp only [List.length_cons, List.length_nil, pK, pVar, pSubN, pBin, pTup, pCons, pNil, pPut, pUnpR, pPuts, Option.isSome_some, reduceCtorEq, String.reduceEq, or_self, List.reverse_cons, List.reverse_nil, List.nil_append, List.cons_append, ↓reduceIte, Nat.reduceAdd, Nat.reduceLeDiff, Nat.zero_add, Option.map, Option.bind, loc_set, own_set, par_set, h1, h2, h5, pick_rv0, pick_rv1, p1, p2, m1, m2]) (by simp only [List.length_cons, List.length_nil, pSeq, pEnd, pVar, pBin, pTup, pCons, pNil, pPut, pUnpR, pPuts, fAdd, reduceCtorEq, String.reduceEq, or_self, List.reverse_cons, List.reverse_nil, List.nil_append, List.cons_append, ↓reduceIte, Nat.reduceAdd, Nat.reduceLeDiff, Nat.zero_add, Option.map, Option.bind, loc_set, own_set, par_set, h1, h2, h3, h4, m3, m4, m5])]
      exact a1
    · rw [a3]
      have n1 := rcast_ne h0
      have n2 := rcast_ne D0
      simp only [Rat.intCast_add, Rat.intCast_mul, ev, Rat.pow_succ]
      have : ((T : Rat) * D + A * B) / (B * D) = (T : Rat) / B + (A : Rat) / D := by grind
      rw [this, hq]; grind
theorem value_run {S t : Nat} {p : List Rat} {ξ : Rat} (hp : p.length ≤ 3) (zp : SzL S p) (zx : Sz t ξ) (ht : t ≤ 1000) (hS : S ≤ 1000) :
    ∃ T B : Int, sp_law_value [pv p, rv ξ] = some (.tup [.int T, .int B]) ∧ B ≠ 0 ∧ (T : Rat) / (B : Rat) = ev p ξ ∧ T.natAbs ≤ 2 ^ (3 * (S + 2 * t + 1)) ∧ B.natAbs ≤ 2 ^ (3 * (S + 2 * t + 1)) := by
  have hm : p.length * (S + 2 * t + 1) ≤ 3 * (S + 2 * t + 1) := Nat.mul_le_mul_right _ hp
  obtain ⟨ps', T, B, e1, e2, e3, e4, e5, e6, e7, e8, e9⟩ := val_loop zx ht hS p 0 0 1 0 (((args ["p", "x"] [pv p, rv ξ]).set "top" (.int 0)).set "bottom" (.int 1)) zp (by omega) (by omega) (by decide) (by decide) (by decide) rfl rfl (by simp only [String.reduceEq, ↓reduceIte, loc_set]) (by simp only [↓reduceIte, loc_set]) (by simp only [List.zip, List.zipWith, List.lookup_cons, String.reduceEq, String.reduceBEq, beq_self_eq_true, ↓reduceIte, loc_set, loc_args])
  refine ⟨T, B, run_of rfl (seq_next (ps₁ := ((args ["p", "x"] [pv p, rv ξ]).set "top" (.int 0)).set "bottom" (.int 1)) ?_ (seq_next (ps₁ := ps') ?_ (seq_ret (ret_of (ps₁ := ps'.freeze) ?_)))), e2, ?_, natAbs_mono e4 (by omega), natAbs_mono e5 (by omega)⟩
  · simp only [List.length_cons, List.length_nil, pK, pTup, pCons, pNil, pPut, pUnp, pPuts, reduceCtorEq, or_self, ↓reduceIte, Nat.reduceAdd, Nat.reduceLeDiff, Nat.zero_add, Option.map, Option.bind, own_set, par_set, own_args, par_args]
  · show pForE "at" "r" (pVar "p") val_b _ = _
    unfold pForE
    rw [show pVar "p" (((args ["p", "x"] [pv p, rv ξ]).set "top" (.int 0)).set "bottom" (.int 1)) = some (pv p, (((args ["p", "x"] [pv p, rv ξ]).set "top" (.int 0)).set "bottom" (.int 1))) by simp only [List.zip, List.zipWith, List.lookup_cons, pVar, reduceCtorEq, String.reduceEq, beq_self_eq_true, or_self, ↓reduceIte, Option.map, loc_set, own_set, par_set, loc_args, own_args, par_args]]
    simp only [pv, List.length_map]
    rw [if_pos (by omega)]
    exact e1
  · simp only [List.length_cons, List.length_nil, pVar, pTup, pCons, pNil, reduceCtorEq, or_self, ↓reduceIte, Nat.reduceAdd, Nat.reduceLeDiff, Nat.zero_add, Option.map, loc_freeze, own_freeze, par_freeze, e7, e8, e9]
  · rw [e3, Rat.pow_zero]
    have : ((0 : Int) : Rat) / ((1 : Int) : Rat) = 0 := by decide +kernel
    rw [this]; grind
theorem div_zero_iff {T B : Int} (h : B ≠ 0) : (T : Rat) / (B : Rat) = 0 ↔ T = 0 := by
  have := rcast_ne h
  constructor
  · intro e
    have : (T : Rat) = 0 := by
      have h2 := Rat.div_mul_cancel (a := (T : Rat)) this
      rw [e] at h2; grind
    exact Rat.intCast_eq_zero_iff.mp this
  · rintro rfl
    rw [Rat.intCast_zero]; grind
theorem at_run {S t : Nat} {U L : List Rat} {ξ : Rat} (hU : U.length ≤ 3) (hL : L.length ≤ 3) (zU : SzL S U) (zL : SzL S L) (zx : Sz t ξ) (ht : t ≤ 1000) (hS : S ≤ 1000) :
    (ev L ξ = 0 ∧ sp_law_at [.tup [pv U, pv L], rv ξ] = some .none) ∨
    (ev L ξ ≠ 0 ∧ ∃ A B : Int, sp_law_at [.tup [pv U, pv L], rv ξ] = some (.tup [.int A, .int B]) ∧ B ≠ 0 ∧ (A : Rat) / (B : Rat) = ev U ξ / ev L ξ ∧ A.natAbs ≤ 2 ^ (6 * (S + 2 * t + 1)) ∧ B.natAbs ≤ 2 ^ (6 * (S + 2 * t + 1))) := by
  obtain ⟨T1, B1, a1, a2, a3, a4, a5⟩ := value_run hU zU zx ht hS
  obtain ⟨T2, B2, b1, b2, b3, b4, b5⟩ := value_run hL zL zx ht hS
  have q0 : ∀ u v : PV, pick (.tup [u, v]) 0 = some u := fun _ _ => rfl
  have q1 : ∀ u v : PV, pick (.tup [u, v]) 1 = some v := fun _ _ => rfl
  have s1 : pUnpR ["one", "other"] (pTup (pCons (pCall sp_law_value (pCons (pSubN "pair" (pK (.int 0))) (pCons (pVar "x") pNil))) (pCons (pCall sp_law_value (pCons (pSubN "pair" (pK (.int 1))) (pCons (pVar "x") pNil))) pNil))) (args ["pair", "x"] [.tup [pv U, pv L], rv ξ]) = some (.next, ((args ["pair", "x"] [.tup [pv U, pv L], rv ξ]).set "other" (.tup [.int T2, .int B2])).set "one" (.tup [.int T1, .int B1])) := by
    simp only [List.zip, List.zipWith, List.lookup_cons, List.length_cons, List.length_nil, pK, pVar, pSubN, pTup, pCons, pNil, pCall, pPut, pUnpR, pPuts, Option.isSome_some, reduceCtorEq, String.reduceBEq, beq_self_eq_true, or_self, List.reverse_cons, List.reverse_nil, List.nil_append, List.cons_append, ↓reduceIte, Nat.reduceAdd, Nat.reduceLeDiff, Nat.zero_add, Option.map, Option.bind, own_set, par_set, loc_args, own_args, par_args, q0, q1, a1, b1]
  by_cases h0 : T2 = 0
  · refine .inl ⟨by rw [← b3, div_zero_iff b2]; exact h0, run_of rfl (seq_next s1 (seq_ret (ret_of (ps₁ := (((args ["pair", "x"] [.tup [pv U, pv L], rv ξ]).set "other" (.tup [.int T2, .int B2])).set "one" (.tup [.int T1, .int B1])).freeze) ?_)))⟩
    simp only [pIf, pCmp, pK, pSubN, Option.isSome_some, String.reduceEq, ↓reduceIte, Option.map, Option.bind, loc_set, loc_freeze, q0, fEq_int, decide_eq_true h0]
  · have m1 := fMul_ok a4 b5 (by omega)
    have m2 := fMul_ok a5 b4 (by omega)
    have n1 := rcast_ne a2
    have n2 := rcast_ne b2
    have n3 := rcast_ne h0
    have hS6 : 3 * (S + 2 * t + 1) + 3 * (S + 2 * t + 1) = 6 * (S + 2 * t + 1) := by omega
    refine .inr ⟨by rw [← b3]; intro h; exact h0 ((div_zero_iff b2).mp h), T1 * B2, B1 * T2, run_of rfl (seq_next s1 (seq_ret (ret_of (ps₁ := (((args ["pair", "x"] [.tup [pv U, pv L], rv ξ]).set "other" (.tup [.int T2, .int B2])).set "one" (.tup [.int T1, .int B1])).freeze) ?_))), Int.mul_ne_zero a2 h0, ?_, by rw [← hS6]; exact mul_natAbs a4 b5, by rw [← hS6]; exact mul_natAbs a5 b4⟩
    · simp only [List.length_cons, List.length_nil, pIf, pCmp, pK, pSubN, pBin, pTup, pCons, pNil, Option.isSome_some, String.reduceEq, ↓reduceIte, Nat.reduceAdd, Nat.reduceLeDiff, Nat.zero_add, Option.map, Option.bind, loc_set, loc_freeze, q0, q1, fEq_int, decide_eq_false h0, m1, m2]
    · rw [← a3, ← b3, Rat.intCast_mul, Rat.intCast_mul]
      grind
theorem same_run {a b c d : Int} {s t : Nat} (ha : a.natAbs ≤ 2 ^ s) (hb : b.natAbs ≤ 2 ^ s) (hc : c.natAbs ≤ 2 ^ t) (hd : d.natAbs ≤ 2 ^ t) (h : s + t ≤ 2 ^ 26) : sp_law_same [.tup [.int a, .int b], .tup [.int c, .int d]] = some (.bool (decide (a * d = c * b))) := by
  have m1 := fMul_ok ha hd h
  have m2 := fMul_ok hc hb (by omega)
  have q0 : ∀ u v : PV, pick (.tup [u, v]) 0 = some u := fun _ _ => rfl
  have q1 : ∀ u v : PV, pick (.tup [u, v]) 1 = some v := fun _ _ => rfl
  refine run_of rfl (seq_ret (ret_of (ps₁ := (args ["one", "other"] [.tup [.int a, .int b], .tup [.int c, .int d]]).freeze) ?_))
  simp only [List.zip, List.zipWith, List.lookup_cons, pCmp, pB, pK, pSubN, pBin, Option.isSome_some, String.reduceBEq, beq_self_eq_true, ↓reduceIte, Option.map, Option.bind, loc_freeze, loc_args, q0, q1, m1, m2, fEq_int]
theorem is_value_run {T B : List Rat} {l s t v M : Nat} {ξ : Rat} {c d : Int} (f : Fr l s T B) (zx : Sz t ξ) (hl : l ≤ 2 ^ 16) (hM : l * (s + t + 1) = M) (h : M + M + v ≤ 2 ^ 26) (hc : c.natAbs ≤ 2 ^ v) (hd : d.natAbs ≤ 2 ^ v) (d0 : d ≠ 0) (hB : ev B ξ ≠ 0) (e : ev T ξ / ev B ξ = (c : Rat) / (d : Rat)) :
    sp_law_is_value [fv T B, rv ξ, .tup [.int c, .int d]] = some (.bool true) := by
  obtain ⟨e1, e2⟩ := fat_run f zx hl hM (by omega)
  rw [if_neg hB] at e1
  have z := e2 hB
  have e3 := same_run (a := (ev T ξ / ev B ξ).num) (b := ((ev T ξ / ev B ξ).den : Int)) z.1 z.2 hc hd h
  have hq : decide ((ev T ξ / ev B ξ).num * d = c * ((ev T ξ / ev B ξ).den : Int)) = true := by
    rw [decide_eq_true_iff, e]
    have h1 := num_den ((c : Rat) / (d : Rat))
    have n1 := rcast_ne d0
    have n2 : ((((c : Rat) / (d : Rat)).den : Int) : Rat) ≠ 0 := rcast_ne (by have := ((c : Rat) / (d : Rat)).den_nz; omega)
    apply Rat.intCast_inj.mp
    rw [Rat.intCast_mul, Rat.intCast_mul]
    grind
  rw [hq] at e3
  refine run_of rfl (seq_next (ps₁ := (args ["f", "x", "due"] [fv T B, rv ξ, .tup [.int c, .int d]]).set "told" (rv (ev T ξ / ev B ξ))) ?_ (seq_ret (ret_of (ps₁ := ((args ["f", "x", "due"] [fv T B, rv ξ, .tup [.int c, .int d]]).set "told" (rv (ev T ξ / ev B ξ))).freeze) ?_)))
  · simp only [List.zip, List.zipWith, List.lookup_cons, pVar, pCons, pNil, pCall, pAssign, pPut, reduceCtorEq, String.reduceBEq, beq_self_eq_true, or_self, ↓reduceIte, Option.map, loc_args, own_args, par_args, e1]
  · rw [← rv_rt] at e3
    simp only [List.zip, List.zipWith, List.lookup_cons, pCmpN, pB, pK, pVar, pCons, pNil, pCall, pAnd2, Option.isSome_some, reduceCtorEq, String.reduceEq, String.reduceBEq, beq_self_eq_true, or_self, ↓reduceIte, Option.map, Option.bind, loc_set, par_set, loc_freeze, own_freeze, par_freeze, loc_args, par_args, fIsNot, rv_rt] at *
    simp only [e3]
theorem R1eq : PV.tup [.int 1, .int 1] = rv 1 := rfl
theorem is_made_run {T B : List Rat} (low : Low T B) (hT : T.length ≤ 2 ^ 20) (hB : B.length ≤ 2 ^ 20) : sp_law_is_made [fv T B] = some (.bool true) := by
  obtain ⟨n, hn, hlead⟩ := low.mon
  have e1 := pick_last (p := B) (k := -1) n hB rfl hn
  rw [hlead] at e1
  by_cases h0 : T = []
  · subst h0
    have := low.zero
    subst this
    refine run_of rfl (seq_next (ps₁ := args ["f"] [fv [] [1]]) ?_ (seq_ret (ret_of (ps₁ := (args ["f"] [fv [] [1]]).freeze) ?_)))
    · simp only [List.zip, List.zipWith, List.lookup_cons, List.length_cons, List.length_nil, pEnd, pStIf, pCmp, pK, pSubN, pSub, pBin, fPick, pUn, pTup, pCons, pNil, pFr, pDisp, pAnd, pOr, pBool, fNeg, Option.isSome_some, beq_self_eq_true, ↓reduceIte, Nat.reduceAdd, Nat.reduceLeDiff, Nat.zero_add, Option.map, Option.bind, loc_args, pick_fv0, pick_fv1, ← pv_nil, fEq_pv, fNe_pv, Int.reduceNeg, e1, R1eq, fNe_rv, decide_true, Bool.not_true, decide_false, List.cons_ne_nil]
    · simp only [List.zip, List.zipWith, List.lookup_cons, List.length_cons, List.length_nil, pCmp, pB, pK, pSubN, pTup, pCons, pNil, pFr, pDisp, pOr2, Option.isSome_some, beq_self_eq_true, ↓reduceIte, Nat.reduceAdd, Nat.reduceLeDiff, Nat.zero_add, Option.map, Option.bind, loc_freeze, loc_args, pick_fv0, pick_fv1, ← pv_nil, fEq_pv, fNe_pv, decide_true, Bool.not_true, R1eq, show PV.lst [rv 1] = pv [1] from rfl]
  · have hl := List.length_pos_iff.mpr h0
    have h1 := low.tT (T.length - 1) (by omega)
    have e2 := pick_last (p := T) (k := -1) (T.length - 1) hT rfl (by omega)
    have h2 : decide ((cf T (T.length - 1)).num = 0) = false := decide_eq_false (by rw [num_zero_iff]; exact h1)
    refine run_of rfl (seq_next (ps₁ := args ["f"] [fv T B]) ?_ (seq_ret (ret_of (ps₁ := (args ["f"] [fv T B]).freeze) ?_)))
    · simp only [List.zip, List.zipWith, List.lookup_cons, List.length_cons, List.length_nil, pEnd, pStIf, pCmp, pK, pSubN, pSub, pBin, fPick, pUn, pTup, pCons, pNil, pFr, pDisp, pAnd, pOr, pBool, fNeg, Option.isSome_some, beq_self_eq_true, ↓reduceIte, Nat.reduceAdd, Nat.reduceLeDiff, Nat.zero_add, Option.map, Option.bind, loc_args, pick_fv0, pick_fv1, ← pv_nil, fEq_pv, fNe_pv, Int.reduceNeg, e1, e2, R1eq, fNe_rv, fEq_int, pick_rv0, decide_true, decide_eq_false low.ne, decide_eq_false h0, Bool.not_true, Bool.not_false, h2]
    · simp only [List.zip, List.zipWith, List.lookup_cons, List.length_nil, pCmp, pB, pK, pSubN, pNil, pFr, pDisp, pOr2, Option.isSome_some, beq_self_eq_true, ↓reduceIte, Nat.reduceLeDiff, Option.map, Option.bind, loc_freeze, loc_args, pick_fv0, ← pv_nil, fNe_pv, decide_eq_false h0, Bool.not_false]
end NN
end

section
open PySem PySem.W PyProof.Rows PySem.Calls PySem.Spec PySem.Builtin.Int
set_option Elab.async false
set_option autoImplicit false
set_option maxRecDepth 10000
set_option linter.unusedSimpArgs false
set_option linter.unusedVariables false

namespace NN
theorem poly_call {ns : List Int} (hns : ns.length ≤ 64) {a i : Int} (ha : InR a) {ps : PS} (h : ps.loc "pool" = some (.lst (pl a ns i))) (ho : ps.own = some "pool" ∨ ps.par = some "pool") :
    ∃ p a' i', pCallP "pool" sp_law_poly (pCons (pK (.int 1)) pNil) ps = some (pv p, ps.set "pool" (.lst (pl a' ns i'))) ∧ Tr p ∧ p.length ≤ 2 ∧ SzL 2 p ∧ InR a' := by
  obtain ⟨p, a', i', e1, e2⟩ := poly_run hns (i := i) ha
  exact ⟨p, a', i', pCallP_of h ho rfl h ho e1, e2⟩
theorem q32 : PV.tup [.int 3, .int 2] = rv (Rat.divInt 3 2) := rfl
/-- a list that is fit to be shared -/
structure Nz (p : List Rat) : Prop where
  t : Tr p
  n : p ≠ []
  l : p.length ≤ 2
  z : SzL 2 p
noncomputable def sh_e : PE PV := (pIf (pCmp fGt (pCallP "pool" sp_law_draw (pCons (pK (.int 3)) pNil)) (pK (.int 0))) (pFr (pDisp (pCons (pCall sp_rat (pCons (pBin fSub (pCallP "pool" sp_law_draw (pCons (pK (.int 5)) pNil)) (pK (.int 2))) (pCons (pK (.int 1)) pNil))) (pCons (pTup (pCons (pK (.int 1)) (pCons (pK (.int 1)) pNil))) pNil)))) (pFr (pDisp (pCons (pTup (pCons (pK (.int 3)) (pCons (pK (.int 2)) pNil))) pNil))))
theorem shared_run {ns : List Int} (hns : ns.length ≤ 64) {a i : Int} (ha : InR a) {ps : PS} (h : ps.loc "pool" = some (.lst (pl a ns i))) (ho : ps.par = some "pool") :
    ∃ sh ps' a' i', sh_e ps = some (pv sh, ps') ∧ Nz sh ∧ InR a' ∧ ps'.own = ps.own ∧ ps'.par = some "pool" ∧ ps'.loc "pool" = some (.lst (pl a' ns i')) ∧ ps'.loc "upper" = ps.loc "upper" ∧ ps'.loc "lower" = ps.loc "lower" := by
  obtain ⟨r, a₁, i₁, e1, r1, r2, ha1⟩ := draw_call hns (many := 3) ha (by decide) h (.inr ho)
  by_cases h0 : r > 0
  · obtain ⟨t, a₂, i₂, e2, t1, t2, ha2⟩ := draw_call hns (many := 5) (ps := ps.set "pool" (.lst (pl a₁ ns i₁))) (a := a₁) (i := i₁) ha1 (by decide) (by simp only [↓reduceIte, loc_set]) (.inr ho)
    have hz : (1 : Int) ≠ 0 := by decide
    refine ⟨[Rat.divInt (t - 2) 1, 1], ((ps.set "pool" (.lst (pl a₁ ns i₁))).set "pool" (.lst (pl a₂ ns i₂))), a₂, i₂, ?_, ⟨?_, by simp, by simp, szl_cons (sz_divInt hz (by omega) (by decide)) (szl_cons (sz1 2) (szl_nil _))⟩, ha2, rfl, ho, by simp only [↓reduceIte, loc_set], by simp only [String.reduceEq, ↓reduceIte, loc_set], by simp only [String.reduceEq, ↓reduceIte, loc_set]⟩
    · have c1 : pCmp fGt (pCallP "pool" sp_law_draw (pCons (pK (.int 3)) pNil)) (pK (.int 0)) ps = some (true, ps.set "pool" (.lst (pl a₁ ns i₁))) := by
        unfold pCmp; rw [e1]; simp only [pK, Option.map, fGt_int, decide_eq_true h0]
      have c2 : pBin fSub (pCallP "pool" sp_law_draw (pCons (pK (.int 5)) pNil)) (pK (.int 2)) (ps.set "pool" (.lst (pl a₁ ns i₁))) = some (.int (t - 2), (ps.set "pool" (.lst (pl a₁ ns i₁))).set "pool" (.lst (pl a₂ ns i₂))) := by
        unfold pBin; rw [e2]; rfl
      unfold sh_e pIf
      rw [c1]
      simp only [pFr, pDisp, pCons, pCall, c2, pK, pNil, rat_run _ _ hz, pTup]
      rfl
    · intro k hk
      have : k = 1 := by simpa using hk.symm
      subst this
      exact (by decide : (1 : Rat) ≠ 0)
  · refine ⟨[Rat.divInt 3 2], ps.set "pool" (.lst (pl a₁ ns i₁)), a₁, i₁, ?_, ⟨tr_one (by decide +kernel), by simp, by simp, szl_cons (sz_divInt (by decide) (by decide) (by decide)) (szl_nil _)⟩, ha1, rfl, ho, by simp only [↓reduceIte, loc_set], by simp only [String.reduceEq, ↓reduceIte, loc_set], by simp only [String.reduceEq, ↓reduceIte, loc_set]⟩
    have c1 : pCmp fGt (pCallP "pool" sp_law_draw (pCons (pK (.int 3)) pNil)) (pK (.int 0)) ps = some (false, ps.set "pool" (.lst (pl a₁ ns i₁))) := by
      unfold pCmp; rw [e1]; simp only [pK, Option.map, fGt_int, decide_eq_false h0]
    unfold sh_e pIf
    rw [c1]
    simp only [pFr, pDisp, pCons, pK, pNil, pTup]
    rfl
theorem nz_one : Nz [1] := ⟨tr_one (by decide), by simp, by simp, szl_one _⟩
theorem pair_run {ns : List Int} (hns : ns.length ≤ 64) {a i : Int} (ha : InR a) :
    ∃ up lo sh a' i', sp_law_pair (pl a ns i) [] = some (.tup [pv (pmul0 up sh), pv (pmul0 lo sh)], pl a' ns i') ∧ Tr up ∧ up.length ≤ 2 ∧ SzL 2 up ∧ Nz lo ∧ Nz sh ∧ SzL 10 (pmul0 up sh) ∧ SzL 10 (pmul0 lo sh) ∧ InR a' := by
  obtain ⟨up, a₁, i₁, b1, b2, b3, b4, ha1⟩ := poly_call hns (a := a) (i := i) (ps := argsP "pool" [] (pl a ns i) []) ha (by simp only [List.zip, List.zipWith, List.lookup_cons, beq_self_eq_true, loc_argsP]) (.inr rfl)
  obtain ⟨lo', a₂, i₂, c1, c2, c3, c4, ha2⟩ := poly_call hns (a := a₁) (i := i₁) (ps := (argsP "pool" [] (pl a ns i) []).set "pool" (.lst (pl a₁ ns i₁))) ha1 (by simp only [↓reduceIte, loc_set]) (.inr rfl)
  obtain ⟨lo, hlo, nlo⟩ : ∃ lo, lo = (if lo' = [] then [1] else lo') ∧ Nz lo := by
    by_cases h : lo' = []
    · exact ⟨[1], by rw [if_pos h], nz_one⟩
    · exact ⟨lo', by rw [if_neg h], ⟨c2, h, c3, c4⟩⟩
  obtain ⟨ps₁, hps₁⟩ : ∃ ps₁ : PS, ps₁ = ((((argsP "pool" [] (pl a ns i) []).set "pool" (.lst (pl a₁ ns i₁))).set "pool" (.lst (pl a₂ ns i₂))).set "lower" (pv lo')).set "upper" (pv up) := ⟨_, rfl⟩
  have k1 : ps₁.loc "pool" = some (.lst (pl a₂ ns i₂)) := by rw [hps₁]; simp only [String.reduceEq, ↓reduceIte, loc_set]
  have k2 : ps₁.loc "lower" = some (pv lo') := by rw [hps₁]; simp only [String.reduceEq, ↓reduceIte, loc_set]
  have k3 : ps₁.loc "upper" = some (pv up) := by rw [hps₁]; simp only [↓reduceIte, loc_set]
  have k4 : ps₁.own = none := by rw [hps₁]; rfl
  have k5 : ps₁.par = some "pool" := by rw [hps₁]; rfl
  obtain ⟨sh, ps₂, a₃, i₃, d1, d2, d3, d4, d5, d6, d7, d8⟩ := shared_run hns (a := a₂) (i := i₂) (ps := ps₁.set "lower" (pv lo)) ha2 (by simp only [String.reduceEq, ↓reduceIte, loc_set, k1]) k5
  obtain ⟨g1, g2⟩ := grown_run (a := up) (b := sh) (by omega) (by have := d2.l; omega) b4 d2.z (by omega) d2.n
  obtain ⟨g3, g4⟩ := grown_run (a := lo) (b := sh) (by have := nlo.l; omega) (by have := d2.l; omega) nlo.z d2.z (by have := nlo.l; omega) d2.n
  refine ⟨up, lo, sh, a₃, i₃, runP_of (ps := (ps₂.set "shared" (pv sh)).freeze) rfl (seq_next (ps₁ := ps₁) ?_ (seq_next (ps₁ := ps₁.set "lower" (pv lo)) ?_ (seq_next (ps₁ := ps₂.set "shared" (pv sh)) ?_ (seq_ret (ret_of (ps₁ := (ps₂.set "shared" (pv sh)).freeze) ?_))))) (by simp only [String.reduceEq, ↓reduceIte, loc_set, loc_freeze, d6]) d5, b2, b3, b4, nlo, d2, g2.mono (by omega), g4.mono (by have := nlo.l; omega), d3⟩
  · unfold pUnpR
    simp only [pTup, pCons, b1, c1, pNil]
    rw [hps₁]
    simp only [List.length_cons, List.length_nil, pPut, pPuts, reduceCtorEq, String.reduceEq, or_self, Option.some.injEq, List.reverse_cons, List.reverse_nil, List.nil_append, List.cons_append, ↓reduceIte, Nat.reduceAdd, Nat.reduceLeDiff, Nat.zero_add, Option.map, Option.bind, own_set, par_set, own_argsP, par_argsP]
  · by_cases h : lo' = []
    · rw [if_pos h] at hlo
      subst hlo
      simp only [List.length_cons, List.length_nil, pIf, pCmpN, pK, pTup, pCons, pNil, pFr, pDisp, pAssign, pPut, Option.isSome_some, reduceCtorEq, String.reduceEq, or_self, Option.some.injEq, ↓reduceIte, Nat.reduceAdd, Nat.reduceLeDiff, Nat.zero_add, Option.map, Option.bind, k2, k4, k5, ← pv_nil, fNe_pv, decide_eq_true h, Bool.not_true]
      rfl
    · rw [if_neg h] at hlo
      subst hlo
      simp only [List.length_nil, pIf, pCmpN, pVar, pNil, pFr, pDisp, pAssign, pPut, Option.isSome_some, reduceCtorEq, String.reduceEq, or_self, Option.some.injEq, ↓reduceIte, Nat.reduceLeDiff, Option.map, Option.bind, k2, k4, k5, ← pv_nil, fNe_pv, decide_eq_false h, Bool.not_false]
  · show pAssign "shared" sh_e _ = _
    unfold pAssign
    rw [d1]
    have d4' : ps₂.own = none := by rw [d4]; exact k4
    simp only [pPut, reduceCtorEq, String.reduceEq, or_self, Option.some.injEq, ↓reduceIte, Option.map, d4', d5]
  · have d7' : ps₂.loc "upper" = some (pv up) := by rw [d7]; simp only [String.reduceEq, ↓reduceIte, loc_set, k3]
    have d8' : ps₂.loc "lower" = some (pv lo) := by rw [d8]; simp only [↓reduceIte, loc_set]
    simp only [List.length_cons, List.length_nil, pVar, pTup, pCons, pNil, pCall, reduceCtorEq, String.reduceEq, or_self, Option.some.injEq, ↓reduceIte, Nat.reduceAdd, Nat.reduceLeDiff, Nat.zero_add, Option.map, loc_set, par_set, loc_freeze, own_freeze, par_freeze, d5, d7', d8', g1, g3]
/-- the terms drawn are small -/
theorem small_fr {T B up lo : List Rat} (h : Low T B) (tu : Tr up) (lu : up.length ≤ 2) (zu : SzL 2 up) (nl : Nz lo) (e : ∀ x, ev T x * ev lo x = ev up x * ev B x) : Fr 2 4 T B := by
  obtain ⟨W, tW, W0, e1, e2⟩ := h.part e nl.t nl.n
  have hp := prod_len nl.t h.tB tW h.ne W0 e1
  have hlen := len_pmul B W h.ne W0
  rw [← hp] at hlen
  have hll := nl.l
  have hBp := List.length_pos_iff.mpr h.ne
  have hWp := List.length_pos_iff.mpr W0
  obtain ⟨n, hn, hlead⟩ := h.mon
  obtain ⟨m, hm⟩ : ∃ m, W.length = m + 1 := ⟨W.length - 1, by omega⟩
  have hl1 := lead_pmul B W n m hn hm
  rw [← hp, hlead, Rat.one_mul] at hl1
  have hw0 := tW m hm
  have zw : Sz 2 (cf W m) := by rw [← hl1]; exact nl.z _
  by_cases hm0 : m = 0
  · subst hm0
    obtain ⟨w, rfl⟩ := List.length_eq_one_iff.mp hm
    have hw : w ≠ 0 := hw0
    have zw' : Sz 2 w := zw
    have hwi := inv_ne hw
    have hww : w * w⁻¹ = 1 := Rat.mul_inv_cancel w hw
    have eB : B = pscale w⁻¹ lo := eq_of_lg h.tB (tr_pscale nl.t hwi) (Lg.of fun k => by rw [ev_pscale, e1]; simp only [ev]; grind)
    have eT : T = pscale w⁻¹ up := eq_of_lg h.tT (tr_pscale tu hwi) (Lg.of fun k => by rw [ev_pscale, e2]; simp only [ev]; grind)
    have zs : ∀ p, SzL 2 p → SzL 4 (pscale w⁻¹ p) := fun p hp i => by
      rw [cf_pscale]; exact (zw'.inv.mul (hp i)).mono (by omega)
    exact ⟨h.tT, h.tB, h.ne, by rw [eT, len_pscale]; exact lu, by rw [eB, len_pscale]; exact hll, by rw [eT]; exact zs _ zu, by rw [eB]; exact zs _ nl.z⟩
  · have hB1 : B.length = 1 := by omega
    have hn0 : n = 0 := by omega
    subst hn0
    obtain ⟨b, rfl⟩ := List.length_eq_one_iff.mp hB1
    have : b = 1 := hlead
    subst this
    by_cases hT0 : T = []
    · subst hT0
      exact fr_F0.mono (by omega) (by omega)
    · have hTp := List.length_pos_iff.mpr hT0
      have hq := prod_len tu h.tT tW hT0 W0 e2
      have hl2 := len_pmul T W hT0 W0
      rw [← hq] at hl2
      have hT1 : T.length = 1 := by omega
      obtain ⟨t, rfl⟩ := List.length_eq_one_iff.mp hT1
      have hl3 := lead_pmul [t] W 0 m rfl hm
      rw [← hq, cf_zero] at hl3
      have ht : t = cf up (0 + m) / cf W m := by rw [hl3]; grind
      have zt : Sz 4 t := by rw [ht]; exact ((zu _).div zw).mono (by omega)
      exact ⟨h.tT, h.tB, h.ne, by simp, by simp, szl_cons zt (szl_nil _), szl_one _⟩
/-- a drawn term -/
theorem made_run {up lo sh : List Rat} (tu : Tr up) (lu : up.length ≤ 2) (zu : SzL 2 up) (nl : Nz lo) (ns : Nz sh) (z1 : SzL 10 (pmul0 up sh)) (z2 : SzL 10 (pmul0 lo sh)) :
    ∃ T B, sp_fmake [pv (pmul0 up sh), pv (pmul0 lo sh)] = some (fv T B) ∧ Low T B ∧ Fr 2 4 T B ∧ ∀ x, ev T x * ev lo x = ev up x * ev B x := by
  have k1 := len_pmul0 up sh
  have k2 := len_pmul0 lo sh
  have k3 := ns.l
  have k4 := nl.l
  obtain ⟨T, B, e1, e2, e3, e4, e5, e6, e7⟩ := fmake_run (l := 3) (s := 10) (by omega) (tr_pmul0 tu ns.t) (tr_pmul0 nl.t ns.t) (pmul0_ne nl.n ns.n) (by omega) (by omega) z1 z2 (by decide +kernel)
  have e : ∀ x, ev T x * ev lo x = ev up x * ev B x := fun x => IsP.eq (φ := fun x => ev T x * ev lo x) (ψ := fun x => ev up x * ev B x) ((IsP.ev T).mul (IsP.ev lo)) ((IsP.ev up).mul (IsP.ev B)) ((ns.t.big ns.n).mp fun k hk => by
    have h := e3 (k : Rat)
    rw [ev_pmul0, ev_pmul0] at h
    have h3 : (ev T (k : Rat) * ev lo (k : Rat) - ev up (k : Rat) * ev B (k : Rat)) * ev sh (k : Rat) = 0 := by grind
    rcases Rat.mul_eq_zero.mp h3 with h3 | h3
    · show ev T (k : Rat) * ev lo (k : Rat) = ev up (k : Rat) * ev B (k : Rat)
      grind
    · exact absurd h3 hk) x
  exact ⟨T, B, e1, e2, small_fr e2 tu lu zu nl e, e⟩
end NN
end

section
open PySem PySem.W PyProof.Rows PySem.Calls PySem.Spec PySem.Builtin.Int
set_option Elab.async false
set_option autoImplicit false
set_option maxRecDepth 10000
set_option linter.unusedSimpArgs false
set_option linter.unusedVariables false

namespace NN
theorem Low.val {T B : List Rat} (h : Low T B) {x u l : Rat} (e : ev T x * l = u * ev B x) (hl : l ≠ 0) : ev B x ≠ 0 ∧ ev T x / ev B x = u / l := by
  have hb : ev B x ≠ 0 := by
    intro hb
    have ht := h.low hb
    rw [hb, Rat.mul_zero] at e
    rcases Rat.mul_eq_zero.mp e with e | e
    · exact ht e
    · exact hl e
  refine ⟨hb, ?_⟩
  grind
theorem q_add {a0 a1 b0 b1 : Int} (h1 : a1 ≠ 0) (h2 : b1 ≠ 0) : ((a0 * b1 + b0 * a1 : Int) : Rat) / ((a1 * b1 : Int) : Rat) = (a0 : Rat) / a1 + (b0 : Rat) / b1 := by
  have n1 := rcast_ne h1
  have n2 := rcast_ne h2
  rw [Rat.intCast_add, Rat.intCast_mul, Rat.intCast_mul, Rat.intCast_mul]; grind
theorem q_mul {a0 a1 b0 b1 : Int} (h1 : a1 ≠ 0) (h2 : b1 ≠ 0) : ((a0 * b0 : Int) : Rat) / ((a1 * b1 : Int) : Rat) = (a0 : Rat) / a1 * ((b0 : Rat) / b1) := by
  have n1 := rcast_ne h1
  have n2 := rcast_ne h2
  rw [Rat.intCast_mul, Rat.intCast_mul]; grind
theorem q_div {a0 a1 b0 b1 : Int} (h1 : a1 ≠ 0) (h2 : b1 ≠ 0) (h3 : b0 ≠ 0) : ((a0 * b1 : Int) : Rat) / ((a1 * b0 : Int) : Rat) = (a0 : Rat) / a1 / ((b0 : Rat) / b1) := by
  have n1 := rcast_ne h1
  have n2 := rcast_ne h2
  have n3 := rcast_ne h3
  rw [Rat.intCast_mul, Rat.intCast_mul]; grind
theorem q_pow {a0 a1 : Int} (h1 : a1 ≠ 0) (k : Nat) : ((a0 ^ k : Int) : Rat) / ((a1 ^ k : Int) : Rat) = ((a0 : Rat) / a1) ^ k := by
  rw [rcast_pow, rcast_pow, rdiv_pow _ _ (rcast_ne h1)]
theorem r23 : PV.tup [.int 2, .int 3] = rv (Rat.divInt 2 3) := rfl

/-- the law's terms -/
structure Facts (up lo up' lo' Tf Bf Tg Bg Tt Bt Tp Bp : List Rat) : Prop where
  lf : Low Tf Bf
  ff : Fr 2 4 Tf Bf
  ef : ∀ x, ev Tf x * ev lo x = ev up x * ev Bf x
  lg : Low Tg Bg
  fg : Fr 2 4 Tg Bg
  eg : ∀ x, ev Tg x * ev lo' x = ev up' x * ev Bg x
  lt : Low Tt Bt
  ft : Fr 3 3878 Tt Bt
  et : ∀ x, ev Tt x * (ev Bf x * ev Bg x) = (ev Tf x * ev Bg x + ev Tg x * ev Bf x) * ev Bt x
  lp : Low Tp Bp
  fp : Fr 3 3878 Tp Bp
  ep : ∀ x, ev Tp x * (ev Bf x * ev Bg x) = (ev Tf x * ev Tg x) * ev Bp x
/-- a state within the loop -/
structure Bd (Tf Bf Tg Bg Tt Bt Tp Bp : List Rat) (n : Int) (ξ : Rat) (A0 A1 B0 B1 : Int) (ps : PS) : Prop where
  own : ps.own = some "pool"
  par : ps.par = none
  f : ps.loc "f" = some (fv Tf Bf)
  g : ps.loc "g" = some (fv Tg Bg)
  t : ps.loc "total" = some (fv Tt Bt)
  p : ps.loc "product" = some (fv Tp Bp)
  n : ps.loc "n" = some (.int n)
  x : ps.loc "x" = some (rv ξ)
  a : ps.loc "a" = some (.tup [.int A0, .int A1])
  b : ps.loc "b" = some (.tup [.int B0, .int B1])
theorem pAnd_t {p q : PE Bool} {ps ps₁ : PS} (h : p ps = some (true, ps₁)) : pAnd p q ps = q ps₁ := by unfold pAnd; rw [h]
theorem pAnd_f {p q : PE Bool} {ps ps₁ : PS} (h : p ps = some (false, ps₁)) : pAnd p q ps = some (false, ps₁) := by unfold pAnd; rw [h]
theorem pOr_t {p q : PE Bool} {ps ps₁ : PS} (h : p ps = some (true, ps₁)) : pOr p q ps = some (true, ps₁) := by unfold pOr; rw [h]
theorem pOr_f {p q : PE Bool} {ps ps₁ : PS} (h : p ps = some (false, ps₁)) : pOr p q ps = q ps₁ := by unfold pOr; rw [h]
theorem pStIf_t {t : PE Bool} {p q : PSt} {ps ps₁ : PS} (h : t ps = some (true, ps₁)) : pStIf t p q ps = p ps₁ := by unfold pStIf; rw [h]
theorem pStIf_f {t : PE Bool} {p q : PSt} {ps ps₁ : PS} (h : t ps = some (false, ps₁)) : pStIf t p q ps = q ps₁ := by unfold pStIf; rw [h]
theorem pk0 (u v : PV) : pick (.tup [u, v]) 0 = some u := rfl
theorem pk1 (u v : PV) : pick (.tup [u, v]) 1 = some v := rfl
section
variable {up lo up' lo' Tf Bf Tg Bg Tt Bt Tp Bp : List Rat} {n : Int} {ξ : Rat} {A0 A1 B0 B1 : Int} {ps : PS}
/-- what the points tell -/
structure Pt (Tf Bf Tg Bg : List Rat) (ξ : Rat) (A0 A1 B0 B1 : Int) : Prop where
  zx : Sz 5 ξ
  a1 : A1 ≠ 0
  b1 : B1 ≠ 0
  za0 : A0.natAbs ≤ 2 ^ 126
  za1 : A1.natAbs ≤ 2 ^ 126
  zb0 : B0.natAbs ≤ 2 ^ 126
  zb1 : B1.natAbs ≤ 2 ^ 126
  bf : ev Bf ξ ≠ 0
  bg : ev Bg ξ ≠ 0
  va : ev Tf ξ / ev Bf ξ = (A0 : Rat) / A1
  vb : ev Tg ξ / ev Bg ξ = (B0 : Rat) / B1
theorem seg_total (F : Facts up lo up' lo' Tf Bf Tg Bg Tt Bt Tp Bp) (D : Bd Tf Bf Tg Bg Tt Bt Tp Bp n ξ A0 A1 B0 B1 ps) (P : Pt Tf Bf Tg Bg ξ A0 A1 B0 B1) :
    (pStIf (pOr (pNot (pT (pCall sp_law_is_value (pCons (pVar "total") (pCons (pVar "x") (pCons (pTup (pCons (pBin fAdd (pBin fMul (pSubN "a" (pK (.int 0))) (pSubN "b" (pK (.int 1)))) (pBin fMul (pSubN "b" (pK (.int 0))) (pSubN "a" (pK (.int 1))))) (pCons (pBin fMul (pSubN "a" (pK (.int 1))) (pSubN "b" (pK (.int 1)))) pNil))) pNil)))))) (pOr (pNot (pT (pCall sp_law_is_value (pCons (pVar "f") (pCons (pVar "x") (pCons (pVar "a") pNil)))))) (pBool false))) (pSeq (pRet (pK (.bool false)))
    pEnd) pEnd) ps = some (.next, ps) := by
  have m1 := fMul_ok P.za0 P.zb1 (by omega)
  have m2 := fMul_ok P.zb0 P.za1 (by omega)
  have m3 := fMul_ok P.za1 P.zb1 (by omega)
  obtain ⟨h1, h2⟩ := F.lt.val (F.et ξ) (fun h => by rcases Rat.mul_eq_zero.mp h with h | h; exact P.bf h; exact P.bg h)
  have hv := is_value_run (v := 253) (M := 11652) (c := A0 * B1 + B0 * A1) (d := A1 * B1) F.ft P.zx (by omega) (by omega) (by omega) (add_natAbs (mul_natAbs P.za0 P.zb1) (mul_natAbs P.zb0 P.za1)) (natAbs_mono (mul_natAbs P.za1 P.zb1) (by omega)) (Int.mul_ne_zero P.a1 P.b1) h1 (by
    rw [h2, q_add P.a1 P.b1, ← P.va, ← P.vb]
    have := P.bf; have := P.bg
    grind)
  have hv2 := is_value_run (v := 126) (M := 20) (c := A0) (d := A1) F.ff P.zx (by omega) (by omega) (by omega) P.za0 P.za1 P.a1 P.bf P.va
  simp only [List.length_cons, List.length_nil, pEnd, pStIf, pT, pK, pVar, pSubN, pBin, pTup, pCons, pNil, pCall, pOr, pNot, pBool, fAdd, Option.isSome_some, reduceCtorEq, String.reduceEq, or_self, Option.some.injEq, ↓reduceIte, Nat.reduceAdd, Nat.reduceLeDiff, Nat.zero_add, Option.map, Option.bind, D.own, D.par, D.f, D.t, D.x, D.a, D.b, pk0, pk1, m1, m2, m3, hv, hv2, Bool.not_true]
theorem seg_prod (F : Facts up lo up' lo' Tf Bf Tg Bg Tt Bt Tp Bp) (D : Bd Tf Bf Tg Bg Tt Bt Tp Bp n ξ A0 A1 B0 B1 ps) (P : Pt Tf Bf Tg Bg ξ A0 A1 B0 B1) :
    (pStIf (pOr (pNot (pT (pCall sp_law_is_value (pCons (pVar "product") (pCons (pVar "x") (pCons (pTup (pCons (pBin fMul (pSubN "a" (pK (.int 0))) (pSubN "b" (pK (.int 0)))) (pCons (pBin fMul (pSubN "a" (pK (.int 1))) (pSubN "b" (pK (.int 1)))) pNil))) pNil)))))) (pOr (pNot (pT (pCall sp_law_is_value (pCons (pCall sp_fscale (pCons (pVar "f") (pCons (pTup (pCons (pK (.int 2)) (pCons (pK (.int 3)) pNil))) pNil))) (pCons (pVar "x") (pCons (pTup (pCons (pBin fMul (pK (.int 2)) (pSubN "a" (pK (.int 0)))) (pCons (pBin fMul (pK (.int 3)) (pSubN "a" (pK (.int 1)))) pNil))) pNil)))))) (pBool false))) (pSeq (pRet (pK (.bool false)))
    pEnd) pEnd) ps = some (.next, ps) := by
  have m1 := fMul_ok P.za0 P.zb0 (by omega)
  have m3 := fMul_ok P.za1 P.zb1 (by omega)
  have m4 := fMul_ok (a := 2) (s := 2) (by decide) P.za0 (by omega)
  have m5 := fMul_ok (a := 3) (s := 2) (by decide) P.za1 (by omega)
  obtain ⟨h1, h2⟩ := F.lp.val (F.ep ξ) (fun h => by rcases Rat.mul_eq_zero.mp h with h | h; exact P.bf h; exact P.bg h)
  have hv := is_value_run (v := 253) (M := 11652) (c := A0 * B0) (d := A1 * B1) F.fp P.zx (by omega) (by omega) (by omega) (natAbs_mono (mul_natAbs P.za0 P.zb0) (by omega)) (natAbs_mono (mul_natAbs P.za1 P.zb1) (by omega)) (Int.mul_ne_zero P.a1 P.b1) h1 (by
    rw [h2, q_mul P.a1 P.b1, ← P.va, ← P.vb]
    have := P.bf; have := P.bg
    grind)
  have z23 : Sz 2 (Rat.divInt 2 3) := sz_divInt (by decide) (by decide) (by decide)
  have n23 : Rat.divInt 2 3 ≠ 0 := by decide +kernel
  have i1 := F.ff.lT; have i2 := F.ff.lB
  have hs := fscale_run (T := Tf) (B := Bf) (by omega) (by omega) F.ff.zT z23 (by omega) n23
  have fr : Fr 2 6 (pscale (Rat.divInt 2 3) Tf) Bf := ⟨tr_pscale F.ff.tT n23, F.ff.tB, F.ff.B0, by rw [len_pscale]; exact i1, i2, fun i => by rw [cf_pscale]; exact (z23.mul (F.ff.zT i)).mono (by omega), F.ff.zB.mono (by omega)⟩
  have three : (3 : Int) * A1 ≠ 0 := Int.mul_ne_zero (by decide) P.a1
  have hv2 := is_value_run (v := 253) (M := 24) (c := 2 * A0) (d := 3 * A1) fr P.zx (by omega) (by omega) (by omega) (natAbs_mono (mul_natAbs (a := 2) (s := 2) (by decide) P.za0) (by omega)) (natAbs_mono (mul_natAbs (a := 3) (s := 2) (by decide) P.za1) (by omega)) three P.bf (by
    rw [q_mul (by decide) P.a1, ev_pscale, ← P.va, Rat.divInt_eq_div]
    have := P.bf
    grind)
  simp only [List.length_cons, List.length_nil, pEnd, pStIf, pT, pK, pVar, pSubN, pBin, pTup, pCons, pNil, pCall, pOr, pNot, pBool, Option.isSome_some, reduceCtorEq, String.reduceEq, or_self, Option.some.injEq, ↓reduceIte, Nat.reduceAdd, Nat.reduceLeDiff, Nat.zero_add, Option.map, Option.bind, D.own, D.par, D.f, D.p, D.x, D.a, D.b, pk0, pk1, m1, m3, m4, m5, hv, r23, hs, hv2, Bool.not_true]
theorem seg_div (F : Facts up lo up' lo' Tf Bf Tg Bg Tt Bt Tp Bp) (D : Bd Tf Bf Tg Bg Tt Bt Tp Bp n ξ A0 A1 B0 B1 ps) (P : Pt Tf Bf Tg Bg ξ A0 A1 B0 B1) :
    (pStIf (pAnd (pCmpN fNe "g" (pK (.tup [.lst [], .lst [rt 1 1]]))) (pAnd (pCmp fNe (pSubN "b" (pK (.int 0))) (pK (.int 0))) (pAnd (pNot (pT (pCall sp_law_is_value (pCons (pCall sp_fdiv (pCons (pVar "f") (pCons (pVar "g") pNil))) (pCons (pVar "x") (pCons (pTup (pCons (pBin fMul (pSubN "a" (pK (.int 0))) (pSubN "b" (pK (.int 1)))) (pCons (pBin fMul (pSubN "a" (pK (.int 1))) (pSubN "b" (pK (.int 0)))) pNil))) pNil)))))) (pBool true)))) (pSeq (pRet (pK (.bool false)))
    pEnd) pEnd) ps = some (.next, ps) := by
  by_cases hg : Tg = [] ∧ Bg = [1]
  · simp only [pEnd, pStIf, pCmpN, pK, pAnd, Option.isSome_some, ↓reduceIte, Option.map, Option.bind, F0eq, D.g, fNe_fv, decide_eq_true hg, Bool.not_true]
  · by_cases hb : B0 = 0
    · simp only [pEnd, pStIf, pCmp, pCmpN, pK, pSubN, pAnd, Option.isSome_some, ↓reduceIte, Option.map, Option.bind, F0eq, D.g, D.b, pk0, fNe_fv, decide_eq_false hg, Bool.not_false, fNe_int, decide_eq_true hb, Bool.not_true]
    · have m1 := fMul_ok P.za0 P.zb1 (by omega)
      have m2 := fMul_ok P.za1 P.zb0 (by omega)
      have nb := rcast_ne hb
      have nb1 := rcast_ne P.b1
      have tg : ev Tg ξ ≠ 0 := by
        intro h
        have := P.vb
        rw [h] at this
        have h2 : (B0 : Rat) / B1 = 0 := by rw [← this]; grind
        exact hb ((div_zero_iff P.b1).mp h2)
      have Tg0 : Tg ≠ [] := by intro h; rw [h] at tg; exact tg rfl
      obtain ⟨T, B, e1, e2, e3, e4⟩ := fdiv_run (l := 3) (n := 2) (M := 18) F.ff F.fg Tg0 (by omega) (by omega) (by omega) (by omega) (by decide +kernel)
      obtain ⟨h1, h2⟩ := e2.val (e4 ξ) (fun h => by rcases Rat.mul_eq_zero.mp h with h | h; exact P.bf h; exact tg h)
      have hv := is_value_run (v := 253) (M := 3 * (FS 3 18 + 5 + 1)) (c := A0 * B1) (d := A1 * B0) e3 P.zx (by omega) rfl (by decide +kernel) (natAbs_mono (mul_natAbs P.za0 P.zb1) (by omega)) (natAbs_mono (mul_natAbs P.za1 P.zb0) (by omega)) (Int.mul_ne_zero P.a1 hb) h1 (by
        rw [h2, q_div P.a1 P.b1 hb, ← P.va, ← P.vb]
        have := P.bf; have := P.bg
        grind)
      simp only [List.length_cons, List.length_nil, pEnd, pStIf, pCmp, pCmpN, pT, pK, pVar, pSubN, pBin, pTup, pCons, pNil, pCall, pAnd, pNot, Option.isSome_some, reduceCtorEq, String.reduceEq, or_self, Option.some.injEq, ↓reduceIte, Nat.reduceAdd, Nat.reduceLeDiff, Nat.zero_add, Option.map, Option.bind, F0eq, D.own, D.par, D.f, D.g, D.x, D.a, D.b, pk0, pk1, fNe_fv, decide_eq_false hg, Bool.not_false, fNe_int, decide_eq_false hb, m1, m2, e1, hv, Bool.not_true]
noncomputable def due_e : PE PV := (pIf (pCmpN fGe "n" (pK (.int 0))) (pTup (pCons (pBin fPow (pSubN "a" (pK (.int 0))) (pVar "n")) (pCons (pBin fPow (pSubN "a" (pK (.int 1))) (pVar "n")) pNil))) (pTup (pCons (pBin fPow (pSubN "a" (pK (.int 1))) (pUn fNeg (pVar "n"))) (pCons (pBin fPow (pSubN "a" (pK (.int 0))) (pUn fNeg (pVar "n"))) pNil))))
theorem seg_pow (hn : n.natAbs ≤ 2) (F : Facts up lo up' lo' Tf Bf Tg Bg Tt Bt Tp Bp) (D : Bd Tf Bf Tg Bg Tt Bt Tp Bp n ξ A0 A1 B0 B1 ps) (P : Pt Tf Bf Tg Bg ξ A0 A1 B0 B1) :
    ∃ ps', (pStIf (pAnd (pOr (pCmpN fGe "n" (pK (.int 0))) (pOr (pCmpN fNe "f" (pK (.tup [.lst [], .lst [rt 1 1]]))) (pBool false))) (pAnd (pCmp fNe (pSubN "a" (pK (.int 0))) (pK (.int 0))) (pBool true))) (pSeq (pAssign "due" due_e)
    (pSeq (pStIf (pNot (pT (pCall sp_law_is_value (pCons (pCall sp_fpower (pCons (pVar "f") (pCons (pVar "n") pNil))) (pCons (pVar "x") (pCons (pVar "due") pNil)))))) (pSeq (pRet (pK (.bool false)))
    pEnd) pEnd)
    pEnd)) pEnd) ps = some (.next, ps') ∧ (ps' = ps ∨ ∃ d, ps' = ps.set "due" d) := by
  obtain ⟨c, hc⟩ : ∃ c, pOr (pCmpN fGe "n" (pK (.int 0))) (pOr (pCmpN fNe "f" (pK (.tup [.lst [], .lst [rt 1 1]]))) (pBool false)) ps = some (c, ps) := by
    by_cases h1 : n ≥ 0
    · exact ⟨true, by simp only [pCmpN, pK, pOr, Option.isSome_some, ↓reduceIte, Option.map, Option.bind, D.n, fGe_int, decide_eq_true h1]⟩
    · by_cases h2 : Tf = [] ∧ Bf = [1]
      · exact ⟨false, by simp only [pCmpN, pK, pOr, pBool, Option.isSome_some, ↓reduceIte, Option.map, Option.bind, F0eq, D.n, D.f, fGe_int, decide_eq_false h1, fNe_fv, decide_eq_true h2, Bool.not_true]⟩
      · exact ⟨true, by simp only [pCmpN, pK, pOr, Option.isSome_some, ↓reduceIte, Option.map, Option.bind, F0eq, D.n, D.f, fGe_int, decide_eq_false h1, fNe_fv, decide_eq_false h2, Bool.not_false]⟩
  have hA : pAnd (pCmp fNe (pSubN "a" (pK (.int 0))) (pK (.int 0))) (pBool true) ps = some (!decide (A0 = 0), ps) := by
    by_cases h : A0 = 0
    · simp only [pCmp, pK, pSubN, pAnd, Option.isSome_some, ↓reduceIte, Option.map, Option.bind, D.a, pk0, fNe_int, decide_eq_true h, Bool.not_true]
    · simp only [pCmp, pK, pSubN, pAnd, pBool, Option.isSome_some, ↓reduceIte, Option.map, Option.bind, D.a, pk0, fNe_int, decide_eq_false h, Bool.not_false]
  cases c with
  | false =>
    exact ⟨ps, pStIf_f (pAnd_f hc), .inl rfl⟩
  | true =>
    by_cases h0 : A0 = 0
    · rw [decide_eq_true h0] at hA
      exact ⟨ps, pStIf_f ((pAnd_t hc).trans hA), .inl rfl⟩
    · rw [decide_eq_false h0] at hA
      have tf : ev Tf ξ ≠ 0 := by
        intro h
        have := P.va
        rw [h] at this
        have h2 : (A0 : Rat) / A1 = 0 := by rw [← this]; grind
        exact h0 ((div_zero_iff P.a1).mp h2)
      have Tf0 : Tf ≠ [] := by intro h; rw [h] at tf; exact tf rfl
      obtain ⟨T, B, e1, e2, e3, e4, e5⟩ := fpower_run (n := n) F.ff hn (fun _ => Tf0)
      have hA0 : (A0 : Rat) ≠ 0 := rcast_ne h0
      have hA1 : (A1 : Rat) ≠ 0 := rcast_ne P.a1
      have hk : 126 * n.natAbs ≤ 253 := by omega
      obtain ⟨C, D', hdue, hvv⟩ : ∃ C D' : Int, due_e ps = some (.tup [.int C, .int D'], ps) ∧ sp_law_is_value [fv T B, rv ξ, .tup [.int C, .int D']] = some (.bool true) := by
        by_cases hs : n ≥ 0
        · obtain ⟨h1, h2⟩ := e2.val (e4 hs ξ) (rpow_ne P.bf _)
          have p1 := fPow_ok (j := n.natAbs) P.za0 (by omega) (by omega)
          have p2 := fPow_ok (j := n.natAbs) P.za1 (by omega) (by omega)
          have hnn : ((n.natAbs : Nat) : Int) = n := by omega
          rw [hnn] at p1 p2
          refine ⟨A0 ^ n.natAbs, A1 ^ n.natAbs, ?_, is_value_run (v := 253) (M := 4500018) e3 P.zx (by omega) (by omega) (by omega) (natAbs_mono (pow_abs P.za0 _) hk) (natAbs_mono (pow_abs P.za1 _) hk) (Int.pow_ne_zero P.a1) h1 (by rw [h2, q_pow P.a1, ← P.va, rdiv_pow _ _ P.bf])⟩
          simp only [due_e, List.length_cons, List.length_nil, pIf, pCmpN, pK, pVar, pSubN, pBin, pTup, pCons, pNil, Option.isSome_some, reduceCtorEq, String.reduceEq, or_self, Option.some.injEq, ↓reduceIte, Nat.reduceAdd, Nat.reduceLeDiff, Nat.zero_add, Option.map, Option.bind, D.own, D.par, D.a, D.n, pk0, pk1, fGe_int, decide_eq_true hs, p1, p2]
        · have hs' : n < 0 := by omega
          obtain ⟨h1, h2⟩ := e2.val (e5 hs' ξ) (rpow_ne tf _)
          have p1 := fPow_ok (j := n.natAbs) P.za1 (by omega) (by omega)
          have p2 := fPow_ok (j := n.natAbs) P.za0 (by omega) (by omega)
          have hnn : ((n.natAbs : Nat) : Int) = -n := by omega
          rw [hnn] at p1 p2
          have hinv : (A1 : Rat) / A0 = ev Bf ξ / ev Tf ξ := by
            have h3 := P.va
            have := P.bf
            grind
          refine ⟨A1 ^ n.natAbs, A0 ^ n.natAbs, ?_, is_value_run (v := 253) (M := 4500018) e3 P.zx (by omega) (by omega) (by omega) (natAbs_mono (pow_abs P.za1 _) hk) (natAbs_mono (pow_abs P.za0 _) hk) (Int.pow_ne_zero h0) h1 (by rw [h2, q_pow h0, hinv, rdiv_pow _ _ tf])⟩
          simp only [due_e, List.length_cons, List.length_nil, pIf, pCmpN, pK, pVar, pSubN, pBin, pUn, pTup, pCons, pNil, fNeg, Option.isSome_some, reduceCtorEq, String.reduceEq, or_self, Option.some.injEq, ↓reduceIte, Nat.reduceAdd, Nat.reduceLeDiff, Nat.zero_add, Option.map, Option.bind, D.own, D.par, D.a, D.n, pk0, pk1, fGe_int, decide_eq_false hs, p1, p2]
      refine ⟨ps.set "due" (.tup [.int C, .int D']), ?_, .inr ⟨_, rfl⟩⟩
      rw [pStIf_t ((pAnd_t hc).trans hA)]
      refine seq_next (ps₁ := ps.set "due" (.tup [.int C, .int D'])) ?_ (seq_next (ps₁ := ps.set "due" (.tup [.int C, .int D'])) ?_ rfl)
      · unfold pAssign
        rw [hdue]
        simp only [pPut, reduceCtorEq, String.reduceEq, or_self, Option.some.injEq, ↓reduceIte, Option.map, D.own, D.par]
      · simp only [pEnd, pStIf, pT, pVar, pCons, pNil, pCall, pNot, reduceCtorEq, String.reduceEq, or_self, Option.some.injEq, ↓reduceIte, Option.map, loc_set, own_set, par_set, D.own, D.par, D.f, D.n, D.x, e1, hvv, Bool.not_true]
end
end NN
end

section
open PySem PySem.W PyProof.Rows PySem.Calls PySem.Spec PySem.Builtin.Int
set_option Elab.async false
set_option autoImplicit false
set_option maxRecDepth 10000
set_option linter.unusedSimpArgs false
set_option linter.unusedVariables false

namespace NN
theorem seq_go {p q : PSt} {ps ps₁ : PS} (h : p ps = some (.next, ps₁)) : pSeq p q ps = q ps₁ := by unfold pSeq; rw [h]
theorem pLC_nil {x : String} {t : PE Bool} {p : PE PV} {it : PE (List PV)} {ps ps' : PS} {ds rs : List PV} (h : it ps = some (ds, ps')) (hl : ds.length ≤ 2 ^ 20) (hp : pComp x [] t p ps' ds = some rs) : pLC x [] t p it ps = some (rs, ps') := by
  unfold pLC; rw [h]; simp only [hp]; rw [if_pos ⟨hl, fun y m => by cases m⟩]; rfl
theorem pComp_none {x : String} {t : PE Bool} {p : PE PV} {ps : PS} : ∀ (ds : List PV), (∀ d ∈ ds, (t (cps x [] ps d)).map Prod.fst = some false) → pComp x [] t p ps ds = some []
  | [], _ => rfl
  | d :: ds, h => by
    obtain ⟨⟨b, q⟩, hq, hb⟩ := Option.map_eq_some_iff.mp (h d List.mem_cons_self)
    simp only at hb
    subst hb
    simp only [pComp, hq]
    exact pComp_none ds fun e he => h e (List.mem_cons_of_mem _ he)
theorem rv_int (k : Int) : PV.tup [.int k, .int 1] = rv (k : Rat) := by
  unfold rv rt; rw [Rat.num_intCast, Rat.den_intCast]; rfl
/-- the law's state -/
structure LSt (ns : List Int) (P1 P2 F G To Le Pr : PV) (n : Int) (ps : PS) : Prop where
  own : ps.own = some "pool"
  par : ps.par = none
  pool : ∃ a i, InR a ∧ ps.loc "pool" = some (.lst (pl a ns i))
  pairs : ps.loc "pairs" = some (.lst [P1, P2])
  f : ps.loc "f" = some F
  g : ps.loc "g" = some G
  t : ps.loc "total" = some To
  l : ps.loc "less" = some Le
  p : ps.loc "product" = some Pr
  n : ps.loc "n" = some (.int n)
  refused : ps.loc "refused" = none
section
variable {ns : List Int} {P1 P2 F G To Le Pr : PV} {n : Int} {ps : PS}
theorem LSt.set {y : String} {d : PV} (h : LSt ns P1 P2 F G To Le Pr n ps) (hy : y ∉ ["pool", "pairs", "f", "g", "total", "less", "product", "n", "refused"]) : LSt ns P1 P2 F G To Le Pr n (ps.set y d) := by
  have hz : ∀ z, z ∈ ["pool", "pairs", "f", "g", "total", "less", "product", "n", "refused"] → (ps.set y d).loc z = ps.loc z := fun z hm => by
    rw [loc_set, if_neg]; rintro rfl; exact hy hm
  obtain ⟨a, i, h1, h2⟩ := h.pool
  exact ⟨h.own, h.par, ⟨a, i, h1, by rw [hz _ (by simp)]; exact h2⟩, by rw [hz _ (by simp)]; exact h.pairs, by rw [hz _ (by simp)]; exact h.f, by rw [hz _ (by simp)]; exact h.g, by rw [hz _ (by simp)]; exact h.t, by rw [hz _ (by simp)]; exact h.l, by rw [hz _ (by simp)]; exact h.p, by rw [hz _ (by simp)]; exact h.n, by rw [hz _ (by simp)]; exact h.refused⟩
theorem LSt.setPool {a i : Int} (h : LSt ns P1 P2 F G To Le Pr n ps) (ha : InR a) : LSt ns P1 P2 F G To Le Pr n (ps.set "pool" (.lst (pl a ns i))) := by
  have hz : ∀ z, z ≠ "pool" → (ps.set "pool" (.lst (pl a ns i))).loc z = ps.loc z := fun z hm => by
    rw [loc_set, if_neg hm]
  exact ⟨h.own, h.par, ⟨a, i, ha, by rw [loc_set, if_pos rfl]⟩, by rw [hz _ (by simp)]; exact h.pairs, by rw [hz _ (by simp)]; exact h.f, by rw [hz _ (by simp)]; exact h.g, by rw [hz _ (by simp)]; exact h.t, by rw [hz _ (by simp)]; exact h.l, by rw [hz _ (by simp)]; exact h.p, by rw [hz _ (by simp)]; exact h.n, by rw [hz _ (by simp)]; exact h.refused⟩
/-- a draw in the law -/
theorem LSt.draw (h : LSt ns P1 P2 F G To Le Pr n ps) (hns : ns.length ≤ 64) {many : Int} (hm : 0 < many) :
    ∃ r ps', pCallP "pool" sp_law_draw (pCons (pK (.int many)) pNil) ps = some (.int r, ps') ∧ 0 ≤ r ∧ r < many ∧ LSt ns P1 P2 F G To Le Pr n ps' ∧ (∀ z, z ≠ "pool" → ps'.loc z = ps.loc z) := by
  obtain ⟨a, i, h1, h2⟩ := h.pool
  obtain ⟨r, a', i', e1, e2, e3, e4⟩ := draw_call hns h1 hm h2 (.inl h.own)
  exact ⟨r, _, e1, e2, e3, h.setPool e4, fun z hz => by rw [loc_set, if_neg hz]⟩
end
theorem bin_l {f : PV → PV → Option PV} {p : PE PV} {ps ps₁ : PS} {x c d : PV} (h : p ps = some (x, ps₁)) (hf : f x c = some d) : pBin f p (pK c) ps = some (d, ps₁) := by
  unfold pBin; rw [h]; simp only [pK, hf]; rfl
theorem bin_r {f : PV → PV → Option PV} {p : PE PV} {ps ps₁ : PS} {x c d : PV} (h : p ps = some (x, ps₁)) (hf : f c x = some d) : pBin f (pK c) p ps = some (d, ps₁) := by
  unfold pBin; simp only [pK]; rw [h]; simp only [hf]; rfl
section
variable {ns : List Int} {P1 P2 Le : PV} {n : Int} {ps : PS} {up lo sh up' lo' sh' Tf Bf Tg Bg Tt Bt Tp Bp : List Rat}
noncomputable def turn_b : PSt := (pSeq (pAssign "x" (pCall sp_rat (pCons (pBin fSub (pCallP "pool" sp_law_draw (pCons (pK (.int 40)) pNil)) (pK (.int 20))) (pCons (pBin fAdd (pK (.int 1)) (pCallP "pool" sp_law_draw (pCons (pK (.int 3)) pNil))) pNil))))
    (pSeq (pUnpR ["a", "b"] (pTup (pCons (pCall sp_law_at (pCons (pSubN "pairs" (pK (.int 0))) (pCons (pVar "x") pNil))) (pCons (pCall sp_law_at (pCons (pSubN "pairs" (pK (.int 1))) (pCons (pVar "x") pNil))) pNil))))
    (pSeq (pStIf (pOr (pCmpN fIs "a" (pK .none)) (pOr (pCmpN fIs "b" (pK .none)) (pBool false))) (pSeq pCont
    pEnd) pEnd)
    (pSeq (pStIf (pOr (pNot (pT (pCall sp_law_is_value (pCons (pVar "total") (pCons (pVar "x") (pCons (pTup (pCons (pBin fAdd (pBin fMul (pSubN "a" (pK (.int 0))) (pSubN "b" (pK (.int 1)))) (pBin fMul (pSubN "b" (pK (.int 0))) (pSubN "a" (pK (.int 1))))) (pCons (pBin fMul (pSubN "a" (pK (.int 1))) (pSubN "b" (pK (.int 1)))) pNil))) pNil)))))) (pOr (pNot (pT (pCall sp_law_is_value (pCons (pVar "f") (pCons (pVar "x") (pCons (pVar "a") pNil)))))) (pBool false))) (pSeq (pRet (pK (.bool false)))
    pEnd) pEnd)
    (pSeq (pStIf (pOr (pNot (pT (pCall sp_law_is_value (pCons (pVar "product") (pCons (pVar "x") (pCons (pTup (pCons (pBin fMul (pSubN "a" (pK (.int 0))) (pSubN "b" (pK (.int 0)))) (pCons (pBin fMul (pSubN "a" (pK (.int 1))) (pSubN "b" (pK (.int 1)))) pNil))) pNil)))))) (pOr (pNot (pT (pCall sp_law_is_value (pCons (pCall sp_fscale (pCons (pVar "f") (pCons (pTup (pCons (pK (.int 2)) (pCons (pK (.int 3)) pNil))) pNil))) (pCons (pVar "x") (pCons (pTup (pCons (pBin fMul (pK (.int 2)) (pSubN "a" (pK (.int 0)))) (pCons (pBin fMul (pK (.int 3)) (pSubN "a" (pK (.int 1)))) pNil))) pNil)))))) (pBool false))) (pSeq (pRet (pK (.bool false)))
    pEnd) pEnd)
    (pSeq (pStIf (pAnd (pCmpN fNe "g" (pK (.tup [.lst [], .lst [rt 1 1]]))) (pAnd (pCmp fNe (pSubN "b" (pK (.int 0))) (pK (.int 0))) (pAnd (pNot (pT (pCall sp_law_is_value (pCons (pCall sp_fdiv (pCons (pVar "f") (pCons (pVar "g") pNil))) (pCons (pVar "x") (pCons (pTup (pCons (pBin fMul (pSubN "a" (pK (.int 0))) (pSubN "b" (pK (.int 1)))) (pCons (pBin fMul (pSubN "a" (pK (.int 1))) (pSubN "b" (pK (.int 0)))) pNil))) pNil)))))) (pBool true)))) (pSeq (pRet (pK (.bool false)))
    pEnd) pEnd)
    (pSeq (pStIf (pAnd (pOr (pCmpN fGe "n" (pK (.int 0))) (pOr (pCmpN fNe "f" (pK (.tup [.lst [], .lst [rt 1 1]]))) (pBool false))) (pAnd (pCmp fNe (pSubN "a" (pK (.int 0))) (pK (.int 0))) (pBool true))) (pSeq (pAssign "due" due_e)
    (pSeq (pStIf (pNot (pT (pCall sp_law_is_value (pCons (pCall sp_fpower (pCons (pVar "f") (pCons (pVar "n") pNil))) (pCons (pVar "x") (pCons (pVar "due") pNil)))))) (pSeq (pRet (pK (.bool false)))
    pEnd) pEnd)
    pEnd)) pEnd)
    pEnd)))))))
theorem turn_run (hns : ns.length ≤ 64) (hn : n.natAbs ≤ 2) (hP1 : P1 = .tup [pv (pmul0 up sh), pv (pmul0 lo sh)]) (hP2 : P2 = .tup [pv (pmul0 up' sh'), pv (pmul0 lo' sh')]) (Fa : Facts up lo up' lo' Tf Bf Tg Bg Tt Bt Tp Bp)
    (l1 : (pmul0 up sh).length ≤ 3) (l2 : (pmul0 lo sh).length ≤ 3) (l3 : (pmul0 up' sh').length ≤ 3) (l4 : (pmul0 lo' sh').length ≤ 3) (z1 : SzL 10 (pmul0 up sh)) (z2 : SzL 10 (pmul0 lo sh)) (z3 : SzL 10 (pmul0 up' sh')) (z4 : SzL 10 (pmul0 lo' sh'))
    (h : LSt ns P1 P2 (fv Tf Bf) (fv Tg Bg) (fv Tt Bt) Le (fv Tp Bp) n ps) :
    ∃ fl ps', turn_b ps = some (fl, ps') ∧ (fl = .next ∨ fl = .cont) ∧ LSt ns P1 P2 (fv Tf Bf) (fv Tg Bg) (fv Tt Bt) Le (fv Tp Bp) n ps' := by
  obtain ⟨r, ps₁, d1, r1, r2, h1, _⟩ := h.draw hns (many := 40) (by decide)
  obtain ⟨t, ps₂, d2, t1, t2, h2, _⟩ := h1.draw hns (many := 3) (by decide)
  have c1 : pBin fSub (pCallP "pool" sp_law_draw (pCons (pK (.int 40)) pNil)) (pK (.int 20)) ps = some (.int (r - 20), ps₁) := bin_l d1 rfl
  have c2 : pBin fAdd (pK (.int 1)) (pCallP "pool" sp_law_draw (pCons (pK (.int 3)) pNil)) ps₁ = some (.int (1 + t), ps₂) := bin_r d2 rfl
  have ht0 : (1 + t) ≠ 0 := by omega
  obtain ⟨ξ, hξ⟩ : ∃ ξ, ξ = Rat.divInt (r - 20) (1 + t) := ⟨_, rfl⟩
  have zx : Sz 5 ξ := by rw [hξ]; exact sz_divInt ht0 (by omega) (by omega)
  have s1 : pAssign "x" (pCall sp_rat (pCons (pBin fSub (pCallP "pool" sp_law_draw (pCons (pK (.int 40)) pNil)) (pK (.int 20))) (pCons (pBin fAdd (pK (.int 1)) (pCallP "pool" sp_law_draw (pCons (pK (.int 3)) pNil))) pNil))) ps = some (.next, ps₂.set "x" (rv ξ)) := by
    unfold pAssign pCall
    simp only [pCons, c1, c2, pNil, rat_run _ _ ht0, ← hξ]
    simp only [pPut, reduceCtorEq, String.reduceEq, or_self, Option.some.injEq, ↓reduceIte, Option.map, h2.own, h2.par]
  have h3 := h2.set (y := "x") (d := rv ξ) (by simp)
  have hx3 : (ps₂.set "x" (rv ξ)).loc "x" = some (rv ξ) := by rw [loc_set, if_pos rfl]
  generalize ps₂.set "x" (rv ξ) = ps₃ at s1 h3 hx3
  have pk2 : pick (.lst [P1, P2]) 0 = some P1 := rfl
  have pk3 : pick (.lst [P1, P2]) 1 = some P2 := rfl
  -- the two values
  have two : ∀ a b : PV, sp_law_at [P1, rv ξ] = some a → sp_law_at [P2, rv ξ] = some b → pUnpR ["a", "b"] (pTup (pCons (pCall sp_law_at (pCons (pSubN "pairs" (pK (.int 0))) (pCons (pVar "x") pNil))) (pCons (pCall sp_law_at (pCons (pSubN "pairs" (pK (.int 1))) (pCons (pVar "x") pNil))) pNil))) ps₃ = some (.next, (ps₃.set "b" b).set "a" a) := fun a b ha hb => by
    simp only [List.length_cons, List.length_nil, pK, pVar, pSubN, pTup, pCons, pNil, pCall, pPut, pUnpR, pPuts, Option.isSome_some, reduceCtorEq, String.reduceEq, or_self, Option.some.injEq, List.reverse_cons, List.reverse_nil, List.nil_append, List.cons_append, ↓reduceIte, Nat.reduceAdd, Nat.reduceLeDiff, Nat.zero_add, Option.map, Option.bind, own_set, par_set, h3.own, h3.par, h3.pairs, hx3, pk2, pk3, ha, hb]
  have hL4 : ∀ a b : PV, LSt ns P1 P2 (fv Tf Bf) (fv Tg Bg) (fv Tt Bt) Le (fv Tp Bp) n ((ps₃.set "b" b).set "a" a) := fun a b => (h3.set (by simp)).set (by simp)
  have aa := at_run l1 l2 z1 z2 zx (by omega) (by omega)
  have bb := at_run l3 l4 z3 z4 zx (by omega) (by omega)
  rw [← hP1] at aa
  rw [← hP2] at bb
  rcases aa with ⟨_, a1⟩ | ⟨la0, A0, A1, a1, a2, a3, a4, a5⟩
  · -- no value of the first
    obtain ⟨b, hb⟩ : ∃ b, sp_law_at [P2, rv ξ] = some b := by
      rcases bb with ⟨_, b1⟩ | ⟨_, B0, B1, b1, _⟩
      · exact ⟨_, b1⟩
      · exact ⟨_, b1⟩
    refine ⟨.cont, _, (seq_go s1).trans ((seq_go (two _ _ a1 hb)).trans ?_), .inr rfl, hL4 .none b⟩
    have ht : pOr (pCmpN fIs "a" (pK .none)) (pOr (pCmpN fIs "b" (pK .none)) (pBool false)) ((ps₃.set "b" b).set "a" .none) = some (true, (ps₃.set "b" b).set "a" .none) := pOr_t (by simp only [pCmpN, pK, Option.isSome_some, ↓reduceIte, Option.map, Option.bind, loc_set, fIs])
    unfold pSeq
    rw [pStIf_t ht]
    rfl
  · rcases bb with ⟨_, b1⟩ | ⟨lb0, B0, B1, b1, b2, b3, b4, b5⟩
    · refine ⟨.cont, (ps₃.set "b" .none).set "a" (.tup [.int A0, .int A1]), (seq_go s1).trans ((seq_go (two _ _ a1 b1)).trans ?_), .inr rfl, hL4 _ _⟩
      have ht : pOr (pCmpN fIs "a" (pK .none)) (pOr (pCmpN fIs "b" (pK .none)) (pBool false)) ((ps₃.set "b" .none).set "a" (.tup [.int A0, .int A1])) = some (true, (ps₃.set "b" .none).set "a" (.tup [.int A0, .int A1])) := (pOr_f (ps₁ := ((ps₃.set "b" .none).set "a" (.tup [.int A0, .int A1]))) (by simp only [pCmpN, pK, Option.isSome_some, ↓reduceIte, Option.map, Option.bind, loc_set, fIs])).trans (pOr_t (ps₁ := ((ps₃.set "b" .none).set "a" (.tup [.int A0, .int A1]))) (by simp only [pCmpN, pK, Option.isSome_some, String.reduceEq, ↓reduceIte, Option.map, Option.bind, loc_set, fIs]))
      unfold pSeq
      rw [pStIf_t ht]
      rfl
    · have hL5 := hL4 (.tup [.int A0, .int A1]) (.tup [.int B0, .int B1])
      have ht : pOr (pCmpN fIs "a" (pK .none)) (pOr (pCmpN fIs "b" (pK .none)) (pBool false)) ((ps₃.set "b" (.tup [.int B0, .int B1])).set "a" (.tup [.int A0, .int A1])) = some (false, (ps₃.set "b" (.tup [.int B0, .int B1])).set "a" (.tup [.int A0, .int A1])) := (pOr_f (ps₁ := ((ps₃.set "b" (.tup [.int B0, .int B1])).set "a" (.tup [.int A0, .int A1]))) (by simp only [pCmpN, pK, Option.isSome_some, ↓reduceIte, Option.map, Option.bind, loc_set, fIs])).trans ((pOr_f (ps₁ := ((ps₃.set "b" (.tup [.int B0, .int B1])).set "a" (.tup [.int A0, .int A1]))) (by simp only [pCmpN, pK, Option.isSome_some, String.reduceEq, ↓reduceIte, Option.map, Option.bind, loc_set, fIs])).trans rfl)
      have D : Bd Tf Bf Tg Bg Tt Bt Tp Bp n ξ A0 A1 B0 B1 ((ps₃.set "b" (.tup [.int B0, .int B1])).set "a" (.tup [.int A0, .int A1])) := ⟨hL5.own, hL5.par, hL5.f, hL5.g, hL5.t, hL5.p, hL5.n, by simp only [String.reduceEq, ↓reduceIte, loc_set, hx3], by simp only [↓reduceIte, loc_set], by simp only [String.reduceEq, ↓reduceIte, loc_set]⟩
      have key : ∀ {u l s T B : List Rat} {X0 X1 : Int}, Low T B → (∀ x, ev T x * ev l x = ev u x * ev B x) → ev (pmul0 l s) ξ ≠ 0 → (X0 : Rat) / (X1 : Rat) = ev (pmul0 u s) ξ / ev (pmul0 l s) ξ → ev B ξ ≠ 0 ∧ ev T ξ / ev B ξ = (X0 : Rat) / X1 := by
        intro u l s T B X0 X1 low e hne hv
        rw [ev_pmul0] at hne hv
        rw [ev_pmul0] at hv
        have hl : ev l ξ ≠ 0 := fun h => hne (by rw [h]; grind)
        have hs : ev s ξ ≠ 0 := fun h => hne (by rw [h]; grind)
        obtain ⟨q1, q2⟩ := low.val (e ξ) hl
        refine ⟨q1, ?_⟩
        rw [q2, hv]; grind
      obtain ⟨p1, p2⟩ := key Fa.lf Fa.ef la0 a3
      obtain ⟨p3, p4⟩ := key Fa.lg Fa.eg lb0 b3
      have Pp : Pt Tf Bf Tg Bg ξ A0 A1 B0 B1 := ⟨zx, a2, b2, a4, a5, b4, b5, p1, p3, p2, p4⟩
      obtain ⟨ps₅, g1, g2⟩ := seg_pow hn Fa D Pp
      refine ⟨.next, ps₅, (seq_go s1).trans ((seq_go (two _ _ a1 b1)).trans ((seq_go ((pStIf_f ht).trans rfl)).trans ((seq_go (seg_total Fa D Pp)).trans ((seq_go (seg_prod Fa D Pp)).trans ((seq_go (seg_div Fa D Pp)).trans ((seq_go g1).trans rfl)))))), .inl rfl, ?_⟩
      rcases g2 with rfl | ⟨d, rfl⟩
      · exact hL5
      · exact hL5.set (by simp)
end
end NN
end

section
open PySem PySem.W PyProof.Rows PySem.Calls PySem.Spec PySem.Builtin.Int
set_option Elab.async false
set_option autoImplicit false
set_option maxRecDepth 10000
set_option linter.unusedSimpArgs false
set_option linter.unusedVariables false

namespace NN
noncomputable def lw1 : PSt := (pAssignC "script" (pLC "cell" [] (pBool true) (pUn fInt (pVar "cell")) (pLs (pBin fUpto (pVar "script") (pK (.int 24))))))
noncomputable def lw2 : PSt := (pAssignO "pool" (pDisp (pCons (pBin fMod (pUnN fSum "script") (pK (.int 2147483647))) (pCons (pVar "script") (pCons (pK (.int 0)) pNil)))))
noncomputable def lw3 : PSt := (pAssign "pairs" (pFr (pDisp (pCons (pCallP "pool" sp_law_pair pNil) (pCons (pCallP "pool" sp_law_pair pNil) pNil)))))
noncomputable def lw4 : PSt := (pUnpL ["f", "g"] (pFr (pLC "pair" [] (pBool true) (pCall sp_fmake (pCons (pSubN "pair" (pK (.int 0))) (pCons (pSubN "pair" (pK (.int 1))) pNil))) (pLs (pVar "pairs")))))
noncomputable def lw5 : PSt := (pUnp ["total", "less", "product", "n"] (pTup (pCons (pCall sp_fadd (pCons (pVar "f") (pCons (pVar "g") pNil))) (pCons (pCall sp_fsub (pCons (pVar "f") (pCons (pVar "g") pNil))) (pCons (pCall sp_fmul (pCons (pVar "f") (pCons (pVar "g") pNil))) (pCons (pBin fSub (pCallP "pool" sp_law_draw (pCons (pK (.int 5)) pNil)) (pK (.int 2))) pNil))))))
noncomputable def lw6 : PSt := (pStIf (pCmp fNe (pFr (pLC "one" [] (pNot (pT (pCall sp_law_is_made (pCons (pVar "one") pNil)))) (pK (.int 1)) (pTs (pTup (pCons (pVar "f") (pCons (pVar "g") (pCons (pVar "total") (pCons (pVar "less") (pCons (pVar "product") pNil))))))))) (pFr (pDisp pNil))) (pSeq (pRet (pK (.bool false)))
    pEnd) pEnd)
noncomputable def lw7 : PSt := (pStIf (pOr (pCmp fNe (pCall sp_fsub (pCons (pVar "f") (pCons (pVar "f") pNil))) (pK (.tup [.lst [], .lst [rt 1 1]]))) (pOr (pCmp fNe (pCall sp_fadd (pCons (pVar "f") (pCons (pCall sp_fneg (pCons (pVar "f") pNil)) pNil))) (pK (.tup [.lst [], .lst [rt 1 1]]))) (pOr (pCmp fNe (pCall sp_fadd (pCons (pVar "less") (pCons (pVar "g") pNil))) (pVar "f")) (pOr (pCmp fNe (pCall sp_fmul (pCons (pVar "f") (pCons (pK (.tup [.lst [rt 1 1], .lst [rt 1 1]])) pNil))) (pVar "f")) (pBool false))))) (pSeq (pRet (pK (.bool false)))
    pEnd) pEnd)
noncomputable def lw8 : PSt := (pUnp ["whole", "rest"] (pCall sp_fsplit (pCons (pVar "f") pNil)))
noncomputable def lw9 : PSt := (pStIf (pOr (pCmp fNe (pCall sp_fadd (pCons (pCall sp_fpoly (pCons (pVar "whole") pNil)) (pCons (pVar "rest") pNil))) (pVar "f")) (pOr (pAnd (pCmp fGe (pUn fLen (pSubN "rest" (pK (.int 0)))) (pUn fLen (pSubN "rest" (pK (.int 1))))) (pAnd (pCmpN fNe "rest" (pK (.tup [.lst [], .lst [rt 1 1]]))) (pBool true))) (pBool false))) (pSeq (pRet (pK (.bool false)))
    pEnd) pEnd)
noncomputable def lw10 : PSt := pFor "at" (pRg (pK (.int 2))) turn_b
noncomputable def lw11 : PSt := (pUnpR ["x", "line"] (pTup (pCons (pCall sp_rat (pCons (pBin fSub (pCallP "pool" sp_law_draw (pCons (pK (.int 40)) pNil)) (pK (.int 20))) (pCons (pK (.int 1)) pNil))) (pCons (pCall sp_fpoly (pCons (pFr (pDisp (pCons (pTup (pCons (pBin fSub (pCallP "pool" sp_law_draw (pCons (pK (.int 5)) pNil)) (pK (.int 2))) (pCons (pK (.int 1)) pNil))) (pCons (pTup (pCons (pBin fAdd (pK (.int 1)) (pCallP "pool" sp_law_draw (pCons (pK (.int 3)) pNil))) (pCons (pK (.int 1)) pNil))) pNil)))) pNil)) pNil))))
noncomputable def lw12 : PSt := (pAssign "inner" (pCall sp_fat (pCons (pVar "f") (pCons (pCall sp_fat (pCons (pVar "line") (pCons (pVar "x") pNil))) pNil))))
noncomputable def lw13 : PSt := (pStIf (pAnd (pCmpN fIsNot "inner" (pK .none)) (pAnd (pNot (pT (pCall sp_law_same (pCons (pVar "inner") (pCons (pCall sp_fat (pCons (pCall sp_fcompose (pCons (pVar "f") (pCons (pVar "line") pNil))) (pCons (pVar "x") pNil))) pNil))))) (pBool true))) (pSeq (pRet (pK (.bool false)))
    pEnd) pEnd)
noncomputable def lw14 : PSt := (pTry (pCons (pVar "f") (pCons (pCall sp_fsub (pCons (pVar "g") (pCons (pVar "g") pNil))) pNil)) cDiv (pB (pCmp fEq (pCall sp_fdiv (pCons (pK (.tup [.lst [rt 1 1], .lst [rt 1 1]])) (pCons (pCall sp_fmake (pCons (pFr (pDisp (pCons (pTup (pCons (pK (.int 2)) (pCons (pK (.int 1)) pNil))) (pCons (pTup (pCons (pK (.int 1)) (pCons (pK (.int 1)) pNil))) pNil)))) (pCons (pFr (pDisp (pCons (pTup (pCons (pK (.int 2)) (pCons (pK (.int 1)) pNil))) (pCons (pTup (pCons (pK (.int 1)) (pCons (pK (.int 1)) pNil))) pNil)))) pNil))) pNil))) (pK (.tup [.lst [rt 1 1], .lst [rt 1 1]])))))
noncomputable def lw15 : PSt := (pRet (pK (.bool false)))
theorem p_law_eq : p_law = pSeq lw1 (pSeq lw2 (pSeq lw3 (pSeq lw4 (pSeq lw5 (pSeq lw6 (pSeq lw7 (pSeq lw8 (pSeq lw9 (pSeq lw10 (pSeq lw11 (pSeq lw12 (pSeq lw13 (pSeq lw14 (pSeq lw15 pEnd)))))))))))))) := rfl

theorem intsOf_map : ∀ ns : List Int, intsOf (ns.map PV.int) = some ns
  | [] => rfl
  | n :: ns => by simp only [List.map_cons, intsOf, intsOf_map ns, Option.map_some]
theorem fSum_ints (ns : List Int) : fSum (.lst (ns.map PV.int)) = some (.int ns.sum) := by simp only [fSum, intsOf_map, Option.map_some]
theorem st1 {ns₀ : List Int} (h : ns₀.length ≤ 63) : lw1 (args ["script"] [.lst (ns₀.map PV.int)]) = some (.next, (args ["script"] [.lst (ns₀.map PV.int)]).set "script" (.lst ((ns₀.take 24).map PV.int))) := by
  have e1 : pLs (pBin fUpto (pVar "script") (pK (.int 24))) (args ["script"] [.lst (ns₀.map PV.int)]) = some ((ns₀.take 24).map PV.int, args ["script"] [.lst (ns₀.map PV.int)]) := by
    have : fUpto (.lst (ns₀.map PV.int)) (.int 24) = some (.lst ((ns₀.take 24).map PV.int)) := by
      simp only [fUpto, List.length_map]
      rw [if_pos (by omega), if_pos (by decide), List.map_take]
      rfl
    unfold pLs
    simp only [List.zip, List.zipWith, List.lookup_cons, pK, pVar, pBin, reduceCtorEq, beq_self_eq_true, or_self, ↓reduceIte, Option.map, loc_args, own_args, par_args, this, List.length_map, List.length_take]
    rw [if_pos (by omega)]
  unfold lw1 pAssignC
  rw [pLC_map (f := PV.int) (g := PV.int) (l := ns₀.take 24) e1 (by simp; omega) rfl rfl (fun a _ => by simp only [pVar, pUn, reduceCtorEq, or_self, ↓reduceIte, Option.map, loc_cps, own_cps, par_cps, fInt])]
  simp only [pPut, reduceCtorEq, or_self, ↓reduceIte, Option.map, own_args, par_args]
theorem st2 {ns : List Int} {ps : PS} (h1 : ps.own = none) (h2 : ps.par = none) (h3 : ps.loc "script" = some (.lst (ns.map PV.int))) : lw2 ps = some (.next, { ps.set "pool" (.lst (pl (ns.sum.fmod 2147483647) ns 0)) with own := some "pool" }) := by
  have hw : (2147483647 : Int) ≠ 0 := by decide
  unfold lw2 pAssignO
  simp only [List.length_cons, List.length_nil, pK, pVar, pBin, pUnN, pCons, pNil, pDisp, reduceCtorEq, or_self, ↓reduceIte, Nat.reduceAdd, Nat.reduceLeDiff, Nat.zero_add, Option.map, Option.bind, par_set, h1, h2, h3, fSum_ints, fMod_int hw]
  rfl
theorem pair_call {ns : List Int} (hns : ns.length ≤ 64) {a i : Int} (ha : InR a) {ps : PS} (h : ps.loc "pool" = some (.lst (pl a ns i))) (ho : ps.own = some "pool" ∨ ps.par = some "pool") :
    ∃ up lo sh a' i', pCallP "pool" sp_law_pair pNil ps = some (.tup [pv (pmul0 up sh), pv (pmul0 lo sh)], ps.set "pool" (.lst (pl a' ns i'))) ∧ Tr up ∧ up.length ≤ 2 ∧ SzL 2 up ∧ Nz lo ∧ Nz sh ∧ SzL 10 (pmul0 up sh) ∧ SzL 10 (pmul0 lo sh) ∧ InR a' := by
  obtain ⟨up, lo, sh, a', i', e1, e2⟩ := pair_run hns (i := i) ha
  exact ⟨up, lo, sh, a', i', pCallP_of h ho rfl h ho e1, e2⟩
structure Less (Tf Bf Tg Bg Tl Bl : List Rat) : Prop where
  ll : Low Tl Bl
  fl : Fr 3 3878 Tl Bl
  el : ∀ x, ev Tl x * (ev Bf x * ev Bg x) = (ev Tf x * ev Bg x - ev Tg x * ev Bf x) * ev Bl x
structure Sml (up sh : List Rat) : Prop where
  l : (pmul0 up sh).length ≤ 3
  z : SzL 10 (pmul0 up sh)
inductive LawA (ns₀ : List Int) : Prop
  | mk (ns : List Int) (up lo sh up' lo' sh' Tf Bf Tg Bg Tt Bt Tl Bl Tp Bp : List Rat) (n : Int) (ps : PS) (h0 : (∀ k, pSeq lw1 (pSeq lw2 (pSeq lw3 (pSeq lw4 (pSeq lw5 k)))) (args ["script"] [.lst (ns₀.map PV.int)]) = k ps)) (h1 : LSt ns (.tup [pv (pmul0 up sh), pv (pmul0 lo sh)]) (.tup [pv (pmul0 up' sh'), pv (pmul0 lo' sh')]) (fv Tf Bf) (fv Tg Bg) (fv Tt Bt) (fv Tl Bl) (fv Tp Bp) n ps) (h2 : Facts up lo up' lo' Tf Bf Tg Bg Tt Bt Tp Bp) (h3 : Less Tf Bf Tg Bg Tl Bl) (h4 : Sml up sh) (h5 : Sml lo sh) (h6 : Sml up' sh') (h7 : Sml lo' sh') (h8 : n.natAbs ≤ 2) (h9 : ns.length ≤ 64) : LawA ns₀
theorem law_A {ns₀ : List Int} (h : ns₀.length ≤ 63) : LawA ns₀ := by
  obtain ⟨ns, hns⟩ : ∃ ns, ns = ns₀.take 24 := ⟨_, rfl⟩
  have hnl : ns.length ≤ 64 := by rw [hns, List.length_take]; omega
  have s1 := st1 h
  rw [← hns] at s1
  obtain ⟨ps₁, e₁⟩ : ∃ ps₁, ps₁ = (args ["script"] [.lst (ns₀.map PV.int)]).set "script" (.lst (ns.map PV.int)) := ⟨_, rfl⟩
  have r1 : ps₁.loc "refused" = none := by rw [e₁]; simp only [List.zip, List.zipWith, List.lookup_cons, List.lookup_nil, String.reduceEq, String.reduceBEq, ↓reduceIte, loc_set, loc_args]
  rw [← e₁] at s1
  have s2 := st2 (ns := ns) (ps := ps₁) (by rw [e₁]; rfl) (by rw [e₁]; rfl) (by rw [e₁]; simp only [↓reduceIte, loc_set])
  obtain ⟨a₀, h₀⟩ : ∃ a₀, a₀ = ns.sum.fmod 2147483647 := ⟨_, rfl⟩
  have ha₀ : InR a₀ := by rw [h₀]; exact ⟨Int.fmod_nonneg_of_pos _ (by decide), Int.fmod_lt_of_pos _ (by decide)⟩
  rw [← h₀] at s2
  obtain ⟨ps₂, e₂⟩ : ∃ ps₂ : PS, ps₂ = { ps₁.set "pool" (.lst (pl a₀ ns 0)) with own := some "pool" } := ⟨_, rfl⟩
  have k1 : ps₂.loc "pool" = some (.lst (pl a₀ ns 0)) := by rw [e₂]; simp only [↓reduceIte, loc_set]
  have k2 : ps₂.own = some "pool" := by rw [e₂]
  have k3 : ps₂.par = none := by rw [e₂, e₁]; rfl
  have r2 : ps₂.loc "refused" = none := by rw [e₂]; simp only [String.reduceEq, ↓reduceIte, loc_set, r1]
  rw [← e₂] at s2
  clear e₂ e₁
  obtain ⟨up, lo, sh, a₁, i₁, b1, b2, b3, b4, b5, b6, b7, b8, ha₁⟩ := pair_call hnl ha₀ k1 (.inl k2)
  obtain ⟨up', lo', sh', a₂, i₂, c1, c2, c3, c4, c5, c6, c7, c8, ha₂⟩ := pair_call (ps := ps₂.set "pool" (.lst (pl a₁ ns i₁))) (i := i₁) hnl ha₁ (by simp only [↓reduceIte, loc_set]) (.inl k2)
  obtain ⟨P1, hP1⟩ : ∃ P1, P1 = PV.tup [pv (pmul0 up sh), pv (pmul0 lo sh)] := ⟨_, rfl⟩
  obtain ⟨P2, hP2⟩ : ∃ P2, P2 = PV.tup [pv (pmul0 up' sh'), pv (pmul0 lo' sh')] := ⟨_, rfl⟩
  rw [← hP1] at b1
  rw [← hP2] at c1
  have s3 : lw3 ps₂ = some (.next, ((ps₂.set "pool" (.lst (pl a₁ ns i₁))).set "pool" (.lst (pl a₂ ns i₂))).set "pairs" (.lst [P1, P2])) := by
    unfold lw3 pAssign
    simp only [pFr, pDisp, pCons, b1, c1, pNil]
    simp only [List.length_cons, List.length_nil, pPut, reduceCtorEq, String.reduceEq, or_self, Option.some.injEq, ↓reduceIte, Nat.reduceAdd, Nat.reduceLeDiff, Nat.zero_add, Option.map, own_set, par_set, k2, k3]
  have m1 : (((ps₂.set "pool" (.lst (pl a₁ ns i₁))).set "pool" (.lst (pl a₂ ns i₂))).set "pairs" (.lst [P1, P2])).loc "pool" = some (.lst (pl a₂ ns i₂)) := by simp only [String.reduceEq, ↓reduceIte, loc_set]
  have m2 : (((ps₂.set "pool" (.lst (pl a₁ ns i₁))).set "pool" (.lst (pl a₂ ns i₂))).set "pairs" (.lst [P1, P2])).loc "pairs" = some (.lst [P1, P2]) := by simp only [↓reduceIte, loc_set]
  have m3 : (((ps₂.set "pool" (.lst (pl a₁ ns i₁))).set "pool" (.lst (pl a₂ ns i₂))).set "pairs" (.lst [P1, P2])).own = some "pool" := k2
  have m4 : (((ps₂.set "pool" (.lst (pl a₁ ns i₁))).set "pool" (.lst (pl a₂ ns i₂))).set "pairs" (.lst [P1, P2])).par = none := k3
  have r3 : (((ps₂.set "pool" (.lst (pl a₁ ns i₁))).set "pool" (.lst (pl a₂ ns i₂))).set "pairs" (.lst [P1, P2])).loc "refused" = none := by simp only [String.reduceEq, ↓reduceIte, loc_set, r2]
  generalize ((ps₂.set "pool" (.lst (pl a₁ ns i₁))).set "pool" (.lst (pl a₂ ns i₂))).set "pairs" (.lst [P1, P2]) = ps₃ at s3 m1 m2 m3 m4 r3
  obtain ⟨Tf, Bf, f1, f2, f3, f4⟩ := made_run b2 b3 b4 b5 b6 b7 b8
  obtain ⟨Tg, Bg, g1, g2, g3, g4⟩ := made_run c2 c3 c4 c5 c6 c7 c8
  have s4 : lw4 ps₃ = some (.next, (ps₃.set "f" (fv Tf Bf)).set "g" (fv Tg Bg)) := by
    have hit : pLs (pVar "pairs") ps₃ = some ([P1, P2], ps₃) := by
      unfold pLs; simp only [List.length_cons, List.length_nil, pVar, reduceCtorEq, String.reduceEq, or_self, Option.some.injEq, ↓reduceIte, Nat.reduceAdd, Nat.zero_add, Option.map, m2, m3, m4]
      rw [if_pos (by decide)]
    have hc : pComp "pair" [] (pBool true) (pCall sp_fmake (pCons (pSubN "pair" (pK (.int 0))) (pCons (pSubN "pair" (pK (.int 1))) pNil))) ps₃ [P1, P2] = some [fv Tf Bf, fv Tg Bg] := by
      simp only [pComp, pK, pSubN, pCons, pNil, pCall, pBool, Option.isSome_some, ↓reduceIte, Option.map, Option.bind, loc_cps, hP1, hP2, pk0, pk1, f1, g1]
    unfold lw4 pUnpL
    simp only [pFr, pLC_nil hit (by simp) hc]
    simp only [pPut, pPuts, reduceCtorEq, String.reduceEq, or_self, Option.some.injEq, ↓reduceIte, Option.map, Option.bind, own_set, par_set, m3, m4]
  obtain ⟨Tt, Bt, t1, t2, t3, t4⟩ := fadd_run (l := 3) (n := 2) (M := 18) f3 g3 (by omega) (by omega) (by omega) (by omega) (by omega) (by decide +kernel)
  obtain ⟨Tl, Bl, l1, l2, l3, l4⟩ := fsub_run (l := 3) (n := 2) (M := 18) f3 g3 (by omega) (by omega) (by omega) (by omega) (by omega) (by decide +kernel)
  obtain ⟨Tp, Bp, p1, p2, p3, p4⟩ := fmul_run (l := 3) (n := 2) (M := 18) f3 g3 (by omega) (by omega) (by omega) (by omega) (by decide +kernel)
  obtain ⟨r, a₃, i₃, d1, q1, q2, ha₃⟩ := draw_call (ps := (ps₃.set "f" (fv Tf Bf)).set "g" (fv Tg Bg)) (many := 5) (i := i₂) hnl ha₂ (by decide) (by simp only [String.reduceEq, ↓reduceIte, loc_set, m1]) (.inl m3)
  have zz : FS 3 (2 * 18 + 1) = 3878 := by decide +kernel
  have zp : FS 3 18 ≤ 3878 := by decide +kernel
  rw [zz] at t3 l3
  have s5 : lw5 ((ps₃.set "f" (fv Tf Bf)).set "g" (fv Tg Bg)) = some (.next, ((((((ps₃.set "f" (fv Tf Bf)).set "g" (fv Tg Bg)).set "pool" (.lst (pl a₃ ns i₃))).set "total" (fv Tt Bt)).set "less" (fv Tl Bl)).set "product" (fv Tp Bp)).set "n" (.int (r - 2))) := by
    have c1 : pBin fSub (pCallP "pool" sp_law_draw (pCons (pK (.int 5)) pNil)) (pK (.int 2)) ((ps₃.set "f" (fv Tf Bf)).set "g" (fv Tg Bg)) = some (.int (r - 2), ((ps₃.set "f" (fv Tf Bf)).set "g" (fv Tg Bg)).set "pool" (.lst (pl a₃ ns i₃))) := bin_l d1 rfl
    have v1 : pVar "f" ((ps₃.set "f" (fv Tf Bf)).set "g" (fv Tg Bg)) = some (fv Tf Bf, (ps₃.set "f" (fv Tf Bf)).set "g" (fv Tg Bg)) := by simp only [pVar, reduceCtorEq, String.reduceEq, or_self, Option.some.injEq, ↓reduceIte, Option.map, loc_set, own_set, par_set, m3, m4]
    have v2 : pVar "g" ((ps₃.set "f" (fv Tf Bf)).set "g" (fv Tg Bg)) = some (fv Tg Bg, (ps₃.set "f" (fv Tf Bf)).set "g" (fv Tg Bg)) := by simp only [pVar, reduceCtorEq, String.reduceEq, or_self, Option.some.injEq, ↓reduceIte, Option.map, loc_set, own_set, par_set, m3, m4]
    unfold lw5 pUnp
    simp only [pTup, pCons, pCall, v1, v2, c1, pNil, t1, l1, p1, Option.map_some]
    simp only [List.length_cons, List.length_nil, pPut, pPuts, reduceCtorEq, String.reduceEq, or_self, Option.some.injEq, ↓reduceIte, Nat.reduceAdd, Nat.reduceLeDiff, Nat.zero_add, Option.map, Option.bind, own_set, par_set, m3, m4]
  refine ⟨ns, up, lo, sh, up', lo', sh', Tf, Bf, Tg, Bg, Tt, Bt, Tl, Bl, Tp, Bp, r - 2, _, fun k => (seq_go s1).trans ((seq_go s2).trans ((seq_go s3).trans ((seq_go s4).trans (seq_go s5)))), ?_, ⟨f2, f3, f4, g2, g3, g4, t2, t3, t4, p2, p3.mono (Nat.le_refl _) zp, p4⟩, ⟨l2, l3, l4⟩, ⟨?_, b7⟩, ⟨?_, b8⟩, ⟨?_, c7⟩, ⟨?_, c8⟩, by omega, hnl⟩
  · rw [← hP1, ← hP2]
    exact ⟨m3, m4, ⟨a₃, i₃, ha₃, by simp only [String.reduceEq, ↓reduceIte, loc_set]⟩, by simp only [String.reduceEq, ↓reduceIte, loc_set, m2], by simp only [String.reduceEq, ↓reduceIte, loc_set], by simp only [String.reduceEq, ↓reduceIte, loc_set], by simp only [String.reduceEq, ↓reduceIte, loc_set], by simp only [String.reduceEq, ↓reduceIte, loc_set], by simp only [String.reduceEq, ↓reduceIte, loc_set], by simp only [↓reduceIte, loc_set], by simp only [String.reduceEq, ↓reduceIte, loc_set, r3]⟩
  · have := len_pmul0 up sh; have := b6.l; omega
  · have := len_pmul0 lo sh; have := b6.l; have := b5.l; omega
  · have := len_pmul0 up' sh'; have := c6.l; omega
  · have := len_pmul0 lo' sh'; have := c6.l; have := c5.l; omega
end NN
end

section
open PySem PySem.W PyProof.Rows PySem.Calls PySem.Spec PySem.Builtin.Int
set_option Elab.async false
set_option autoImplicit false
set_option maxRecDepth 10000
set_option linter.unusedSimpArgs false
set_option linter.unusedVariables false

namespace NN
section
variable {ns : List Int} {P1 P2 Le To Pr : PV} {n : Int} {ps : PS} {up lo sh up' lo' sh' Tf Bf Tg Bg Tt Bt Tl Bl Tp Bp : List Rat}
theorem made_cps {T B : List Rat} {l s : Nat} (low : Low T B) (f : Fr l s T B) (hl : l ≤ 2 ^ 16) (ps : PS) : (pNot (pT (pCall sp_law_is_made (pCons (pVar "one") pNil))) (cps "one" [] ps (fv T B))).map Prod.fst = some false := by
  have i1 := f.lT; have i2 := f.lB
  have e := is_made_run low (by omega) (by omega)
  simp only [pT, pVar, pCons, pNil, pCall, pNot, reduceCtorEq, or_self, ↓reduceIte, Option.map, loc_cps, own_cps, par_cps, e, Bool.not_true]
theorem st6 (h : LSt ns P1 P2 (fv Tf Bf) (fv Tg Bg) (fv Tt Bt) (fv Tl Bl) (fv Tp Bp) n ps) (Fa : Facts up lo up' lo' Tf Bf Tg Bg Tt Bt Tp Bp) (Ls : Less Tf Bf Tg Bg Tl Bl) : lw6 ps = some (.next, ps) := by
  have hit : pTs (pTup (pCons (pVar "f") (pCons (pVar "g") (pCons (pVar "total") (pCons (pVar "less") (pCons (pVar "product") pNil)))))) ps = some ([fv Tf Bf, fv Tg Bg, fv Tt Bt, fv Tl Bl, fv Tp Bp], ps) := by
    unfold pTs; simp only [List.length_cons, List.length_nil, pVar, pTup, pCons, pNil, reduceCtorEq, String.reduceEq, or_self, Option.some.injEq, ↓reduceIte, Nat.reduceAdd, Nat.reduceLeDiff, Nat.zero_add, Option.map, h.own, h.par, h.f, h.g, h.t, h.l, h.p]
  have hc := pComp_none (x := "one") (t := pNot (pT (pCall sp_law_is_made (pCons (pVar "one") pNil)))) (p := pK (.int 1)) (ps := ps) [fv Tf Bf, fv Tg Bg, fv Tt Bt, fv Tl Bl, fv Tp Bp] (fun d hd => by
    simp only [List.mem_cons, List.not_mem_nil, or_false] at hd
    rcases hd with rfl | rfl | rfl | rfl | rfl
    · exact made_cps Fa.lf Fa.ff (by omega) ps
    · exact made_cps Fa.lg Fa.fg (by omega) ps
    · exact made_cps Fa.lt Fa.ft (by omega) ps
    · exact made_cps Ls.ll Ls.fl (by omega) ps
    · exact made_cps Fa.lp Fa.fp (by omega) ps)
  have ht : pCmp fNe (pFr (pLC "one" [] (pNot (pT (pCall sp_law_is_made (pCons (pVar "one") pNil)))) (pK (.int 1)) (pTs (pTup (pCons (pVar "f") (pCons (pVar "g") (pCons (pVar "total") (pCons (pVar "less") (pCons (pVar "product") pNil))))))))) (pFr (pDisp pNil)) ps = some (false, ps) := by
    unfold pCmp
    simp only [pFr, pLC_nil hit (by simp) hc]
    simp only [List.length_nil, pNil, pDisp, ↓reduceIte, Nat.reduceLeDiff, Option.map, ← pv_nil, fNe_pv, decide_true, Bool.not_true]
  exact pStIf_f ht
theorem ev_one (x : Rat) : ev [1] x = 1 := by simp only [ev]; grind
theorem is_F0 {T B Bf : List Rat} {u : Rat → Rat} (low : Low T B) (tb : Tr Bf) (b0 : Bf ≠ []) (e : ∀ x, ev T x * (ev Bf x * ev Bf x) = u x * ev B x) (hu : ∀ x, u x = 0) : T = [] ∧ B = [1] := by
  have hT : T = [] := eq_of_lg low.tT tr_nil ((tb.big b0).mp fun k hk => by
    have h := e (k : Rat)
    rw [hu] at h
    have h2 : ev T (k : Rat) * (ev Bf (k : Rat) * ev Bf (k : Rat)) = 0 := by grind
    rcases Rat.mul_eq_zero.mp h2 with h3 | h3
    · exact h3
    · rcases Rat.mul_eq_zero.mp h3 with h4 | h4
      · exact absurd h4 hk
      · exact absurd h4 hk)
  subst hT
  exact ⟨rfl, low.zero⟩
theorem st7 (h : LSt ns P1 P2 (fv Tf Bf) (fv Tg Bg) (fv Tt Bt) (fv Tl Bl) (fv Tp Bp) n ps) (Fa : Facts up lo up' lo' Tf Bf Tg Bg Tt Bt Tp Bp) (Ls : Less Tf Bf Tg Bg Tl Bl) : lw7 ps = some (.next, ps) := by
  obtain ⟨T1, B1, a1, a2, a3, a4⟩ := fsub_run (l := 3) (n := 2) (M := 18) Fa.ff Fa.ff (by omega) (by omega) (by omega) (by omega) (by omega) (by decide +kernel)
  obtain ⟨rfl, rfl⟩ := is_F0 a2 Fa.ff.tB Fa.ff.B0 a4 (fun x => by grind)
  have fn := Fa.ff.neg
  obtain ⟨T2, B2, b1, b2, b3, b4⟩ := fadd_run (l := 3) (n := 2) (M := 18) Fa.ff fn (by omega) (by omega) (by omega) (by omega) (by omega) (by decide +kernel)
  obtain ⟨rfl, rfl⟩ := is_F0 b2 Fa.ff.tB Fa.ff.B0 b4 (fun x => by rw [ev_pneg]; grind)
  have i1 := Fa.ff.lT; have i2 := Fa.ff.lB
  have en := fneg_run (T := Tf) (B := Bf) (by omega) (by omega)
  obtain ⟨T3, B3, c1, c2, c3, c4⟩ := fadd_run (l := 4) (n := 3) (M := 11649) Ls.fl Fa.fg (by omega) (by omega) (by omega) (by omega) (by omega) (by decide +kernel)
  obtain ⟨rfl, rfl⟩ := c2.uniq Fa.lf ((((Fa.ff.tB.big Fa.ff.B0).and (Fa.fg.tB.big Fa.fg.B0)).and (Ls.fl.tB.big Ls.fl.B0)).mp fun k hk => by
    obtain ⟨⟨h1, h2⟩, h3⟩ := hk
    have e1 := c4 (k : Rat)
    have e2 := Ls.el (k : Rat)
    generalize ev T3 (k : Rat) = t at *
    generalize ev B3 (k : Rat) = b at *
    generalize ev Tf (k : Rat) = tf at *
    generalize ev Bf (k : Rat) = bf at *
    generalize ev Tg (k : Rat) = tg at *
    generalize ev Bg (k : Rat) = bg at *
    generalize ev Tl (k : Rat) = tl at *
    generalize ev Bl (k : Rat) = bl at *
    have h4 : (t * bf - tf * b) * (bl * bg * bg) = 0 := by
      have : t * bf * (bl * bg * bg) = (tl * bf * bg) * b * bg + tg * bl * b * bf * bg := by grind
      have e3 : tl * bf * bg = (tf * bg - tg * bf) * bl := by grind
      rw [e3] at this
      grind
    rcases Rat.mul_eq_zero.mp h4 with h5 | h5
    · grind
    · rcases Rat.mul_eq_zero.mp h5 with h6 | h6
      · rcases Rat.mul_eq_zero.mp h6 with h7 | h7
        · exact absurd h7 h3
        · exact absurd h7 h2
      · exact absurd h6 h2)
  obtain ⟨T4, B4, d1, d2, d3, d4⟩ := fmul_run (l := 2) (n := 2) (M := 10) Fa.ff fr_F1 (by omega) (by omega) (by omega) (by omega) (by decide +kernel)
  obtain ⟨rfl, rfl⟩ := d2.uniq Fa.lf (Lg.of fun k => by
    have := d4 (k : Rat)
    rw [ev_one] at this
    grind)
  refine pStIf_f ?_
  simp only [pCmp, pK, pVar, pCons, pNil, pCall, pOr, pBool, reduceCtorEq, String.reduceEq, or_self, Option.some.injEq, ↓reduceIte, Option.map, F0eq, F1eq, h.own, h.par, h.f, h.g, h.l, a1, en, b1, c1, d1, fNe_fv, and_self, decide_true, Bool.not_true]
theorem st89 (h : LSt ns P1 P2 (fv Tf Bf) (fv Tg Bg) (fv Tt Bt) (fv Tl Bl) (fv Tp Bp) n ps) (Fa : Facts up lo up' lo' Tf Bf Tg Bg Tt Bt Tp Bp) : ∃ ps', lw8 ps = some (.next, ps') ∧ lw9 ps' = some (.next, ps') ∧ LSt ns P1 P2 (fv Tf Bf) (fv Tg Bg) (fv Tt Bt) (fv Tl Bl) (fv Tp Bp) n ps' := by
  have zS : stN 1 4 0 2 4 = 31 := by decide +kernel
  obtain ⟨w, r, R', e1, e2, e3, e4, e5, e6, e7, e8, e9⟩ := fsplit_run Fa.lf Fa.ff (by omega) (by rw [zS]; omega)
  rw [zS] at e6 e7
  have i2 := Fa.ff.lB
  have hBf := List.length_pos_iff.mpr Fa.ff.B0
  have t1 : Tr [1] := tr_one (by decide)
  have fw : Fr 2 31 w [1] := ⟨e2, t1, by simp, e4, by simp, e6, szl_one _⟩
  have fR : Fr 2 31 r R' := by
    rcases e8 with ⟨rfl, rfl⟩ | ⟨_, rfl⟩
    · exact fr_F0.mono (by omega) (by omega)
    · exact ⟨e3, Fa.ff.tB, Fa.ff.B0, by omega, i2, e7, Fa.ff.zB.mono (by omega)⟩
  obtain ⟨T, B, c1, c2, c3, c4⟩ := fadd_run (l := 3) (n := 2) (M := 126) fw fR (by omega) (by omega) (by omega) (by omega) (by omega) (by decide +kernel)
  obtain ⟨rfl, rfl⟩ := c2.uniq Fa.lf (Lg.of fun k => by
    have h1 := c4 (k : Rat)
    have h2 := e9 (k : Rat)
    rw [ev_one] at h1
    rcases e8 with ⟨rfl, rfl⟩ | ⟨_, rfl⟩
    · rw [ev_one] at h1
      have h3 : ev [] (k : Rat) = 0 := rfl
      rw [h3] at h1 h2
      rw [h2]; grind
    · rw [h2]; grind)
  have hp := fpoly_run (p := w) (by omega)
  have i3 := fR.lB
  have l1 := fLen_pv (p := r) (by omega)
  have l2 := fLen_pv (p := R') (by omega)
  have hlt : r.length < R'.length := by
    rcases e8 with ⟨rfl, rfl⟩ | ⟨_, rfl⟩
    · simp
    · exact e5
  have hge : decide ((r.length : Int) ≥ R'.length) = false := decide_eq_false (by omega)
  have hL : LSt ns P1 P2 (fv T B) (fv Tg Bg) (fv Tt Bt) (fv Tl Bl) (fv Tp Bp) n ((ps.set "whole" (pv w)).set "rest" (fv r R')) := (h.set (by simp)).set (by simp)
  refine ⟨(ps.set "whole" (pv w)).set "rest" (fv r R'), ?_, ?_, hL⟩
  · unfold lw8
    simp only [pVar, pCons, pNil, pCall, pPut, pUnp, pPuts, reduceCtorEq, String.reduceEq, or_self, Option.some.injEq, ↓reduceIte, Option.map, Option.bind, own_set, par_set, h.own, h.par, h.f, e1]
  · refine pStIf_f ?_
    have q1 : ((ps.set "whole" (pv w)).set "rest" (fv r R')).loc "whole" = some (pv w) := by simp only [String.reduceEq, ↓reduceIte, loc_set]
    have q2 : ((ps.set "whole" (pv w)).set "rest" (fv r R')).loc "rest" = some (fv r R') := by simp only [↓reduceIte, loc_set]
    generalize (ps.set "whole" (pv w)).set "rest" (fv r R') = ps' at *
    simp only [pCmp, pK, pVar, pSubN, pUn, pCons, pNil, pCall, pAnd, pOr, pBool, Option.isSome_some, reduceCtorEq, String.reduceEq, or_self, Option.some.injEq, ↓reduceIte, Option.map, Option.bind, hL.own, hL.par, hL.f, q1, q2, hp, c1, fNe_fv, and_self, decide_true, Bool.not_true, pick_fv0, pick_fv1, l1, l2, fGe_int, hge]
theorem st10 (hns : ns.length ≤ 64) (hn : n.natAbs ≤ 2) (Fa : Facts up lo up' lo' Tf Bf Tg Bg Tt Bt Tp Bp) (m1 : Sml up sh) (m2 : Sml lo sh) (m3 : Sml up' sh') (m4 : Sml lo' sh')
    (h : LSt ns (.tup [pv (pmul0 up sh), pv (pmul0 lo sh)]) (.tup [pv (pmul0 up' sh'), pv (pmul0 lo' sh')]) (fv Tf Bf) (fv Tg Bg) (fv Tt Bt) Le (fv Tp Bp) n ps) :
    ∃ ps', lw10 ps = some (.next, ps') ∧ LSt ns (.tup [pv (pmul0 up sh), pv (pmul0 lo sh)]) (.tup [pv (pmul0 up' sh'), pv (pmul0 lo' sh')]) (fv Tf Bf) (fv Tg Bg) (fv Tt Bt) Le (fv Tp Bp) n ps' := by
  have hr : pRg (pK (.int 2)) ps = some ([.int 0, .int 1], ps) := by
    rw [pRg_n (k := 2) (ps' := ps) 2 rfl rfl (by omega)]
    rfl
  obtain ⟨fl₁, ps₁, a1, a2, a3⟩ := turn_run hns hn rfl rfl Fa m1.l m2.l m3.l m4.l m1.z m2.z m3.z m4.z (h.set (y := "at") (d := .int 0) (by simp))
  obtain ⟨fl₂, ps₂, b1, b2, b3⟩ := turn_run hns hn rfl rfl Fa m1.l m2.l m3.l m4.l m1.z m2.z m3.z m4.z (a3.set (y := "at") (d := .int 1) (by simp))
  refine ⟨ps₂, ?_, b3⟩
  have p1 : pPut "at" ps (.int 0) = some (ps.set "at" (.int 0)) := by simp only [pPut, reduceCtorEq, String.reduceEq, or_self, Option.some.injEq, ↓reduceIte, h.own, h.par]
  have p2 : pPut "at" ps₁ (.int 1) = some (ps₁.set "at" (.int 1)) := by simp only [pPut, reduceCtorEq, String.reduceEq, or_self, Option.some.injEq, ↓reduceIte, a3.own, a3.par]
  unfold lw10 pFor
  rw [hr]
  simp only [pTurns, p1, Option.bind_some, a1]
  rcases a2 with rfl | rfl <;> rcases b2 with rfl | rfl <;> simp only [p2, Option.bind_some, b1]
/-- the composition -/
theorem st1113 (hns : ns.length ≤ 64) (h : LSt ns P1 P2 (fv Tf Bf) (fv Tg Bg) To Le Pr n ps) (low : Low Tf Bf) (f : Fr 2 4 Tf Bf) :
    ∃ ps', (∀ k, pSeq lw11 (pSeq lw12 (pSeq lw13 k)) ps = k ps') ∧ LSt ns P1 P2 (fv Tf Bf) (fv Tg Bg) To Le Pr n ps' := by
  obtain ⟨r, ps₁, d1, r1, r2, h1, _⟩ := h.draw hns (many := 40) (by decide)
  obtain ⟨t, ps₂, d2, t1, t2, h2, _⟩ := h1.draw hns (many := 5) (by decide)
  obtain ⟨u, ps₃, d3, u1, u2, h3, _⟩ := h2.draw hns (many := 3) (by decide)
  have hz : (1 : Int) ≠ 0 := by decide
  obtain ⟨ξ, hξ⟩ : ∃ ξ, ξ = Rat.divInt (r - 20) 1 := ⟨_, rfl⟩
  have zx : Sz 5 ξ := by rw [hξ]; exact sz_divInt hz (by omega) (by omega)
  have c1 : pBin fSub (pCallP "pool" sp_law_draw (pCons (pK (.int 40)) pNil)) (pK (.int 20)) ps = some (.int (r - 20), ps₁) := bin_l d1 rfl
  have c2 : pBin fSub (pCallP "pool" sp_law_draw (pCons (pK (.int 5)) pNil)) (pK (.int 2)) ps₁ = some (.int (t - 2), ps₂) := bin_l d2 rfl
  have c3 : pBin fAdd (pK (.int 1)) (pCallP "pool" sp_law_draw (pCons (pK (.int 3)) pNil)) ps₂ = some (.int (1 + u), ps₃) := bin_r d3 rfl
  obtain ⟨c, hc⟩ : ∃ c, c = ((t - 2 : Int) : Rat) := ⟨_, rfl⟩
  obtain ⟨d, hd⟩ : ∃ d, d = ((1 + u : Int) : Rat) := ⟨_, rfl⟩
  have d0 : d ≠ 0 := by rw [hd]; exact rcast_ne (by omega)
  have zi : ∀ k : Int, k.natAbs ≤ 2 ^ 2 → Sz 2 (k : Rat) := fun k hk => ⟨by rw [Rat.num_intCast]; exact hk, by rw [Rat.den_intCast]; omega⟩
  have zL : SzL 2 [c, d] := szl_cons (by rw [hc]; exact zi _ (by omega)) (szl_cons (by rw [hd]; exact zi _ (by omega)) (szl_nil _))
  have tL : Tr [c, d] := fun k hk => by
    have : k = 1 := by simpa using hk.symm
    subst this; exact d0
  have hp := fpoly_run (p := [c, d]) (by simp)
  have s1 : lw11 ps = some (.next, (ps₃.set "line" (fv [c, d] [1])).set "x" (rv ξ)) := by
    unfold lw11 pUnpR
    simp only [pTup, pCons, pCall, pFr, pDisp, c1, c2, c3, pK, pNil, rat_run _ _ hz, ← hξ, Option.map_some, List.length_cons, List.length_nil, Nat.reduceAdd, Nat.reduceLeDiff, if_true, rv_int, ← hc, ← hd]
    rw [show PV.lst [rv c, rv d] = pv [c, d] from rfl, hp]
    simp only [List.length_cons, List.length_nil, pPut, pPuts, reduceCtorEq, String.reduceEq, or_self, Option.some.injEq, List.reverse_cons, List.reverse_nil, List.nil_append, List.cons_append, ↓reduceIte, Nat.reduceAdd, Nat.reduceLeDiff, Nat.zero_add, Option.map, Option.bind, own_set, par_set, h3.own, h3.par]
  have h4 := (h3.set (y := "line") (d := fv [c, d] [1]) (by simp)).set (y := "x") (d := rv ξ) (by simp)
  have hx : ((ps₃.set "line" (fv [c, d] [1])).set "x" (rv ξ)).loc "x" = some (rv ξ) := by simp only [↓reduceIte, loc_set]
  have hl : ((ps₃.set "line" (fv [c, d] [1])).set "x" (rv ξ)).loc "line" = some (fv [c, d] [1]) := by simp only [String.reduceEq, ↓reduceIte, loc_set]
  generalize (ps₃.set "line" (fv [c, d] [1])).set "x" (rv ξ) = ps₄ at s1 h4 hx hl
  have fL : Fr 2 2 [c, d] [1] := ⟨tL, tr_one (by decide), by simp, by simp, by simp, zL, szl_one _⟩
  obtain ⟨y1, y2⟩ := fat_run (M := 16) fL zx (by omega) (by omega) (by omega)
  have o0 : ev [1] ξ ≠ 0 := by rw [ev_one]; decide
  rw [if_neg o0] at y1
  have zy := y2 o0
  obtain ⟨y, hy⟩ : ∃ y, y = ev [c, d] ξ / ev [1] ξ := ⟨_, rfl⟩
  have hyL : ev [c, d] ξ = y := by rw [hy, ev_one]; grind
  rw [← hy] at y1 zy
  obtain ⟨w1, w2⟩ := fat_run (M := 74) f zy (by omega) (by omega) (by omega)
  by_cases hb : ev Bf y = 0
  · rw [if_pos hb] at w1
    have s2 : lw12 ps₄ = some (.next, ps₄.set "inner" .none) := by
      unfold lw12
      simp only [pVar, pCons, pNil, pCall, pAssign, pPut, reduceCtorEq, String.reduceEq, or_self, Option.some.injEq, ↓reduceIte, Option.map, h4.own, h4.par, h4.f, hx, hl, y1, w1]
    have h5 := h4.set (y := "inner") (d := .none) (by simp)
    have hi : (ps₄.set "inner" .none).loc "inner" = some .none := by simp only [↓reduceIte, loc_set]
    generalize ps₄.set "inner" .none = ps₅ at s2 h5 hi
    refine ⟨ps₅, fun k => (seq_go s1).trans ((seq_go s2).trans (seq_go (pStIf_f (pAnd_f ?_)))), h5⟩
    simp only [pCmpN, pK, Option.isSome_some, ↓reduceIte, Option.map, Option.bind, hi, fIsNot]
  · rw [if_neg hb] at w1
    have zw := w2 hb
    have s2 : lw12 ps₄ = some (.next, ps₄.set "inner" (rv (ev Tf y / ev Bf y))) := by
      unfold lw12
      simp only [pVar, pCons, pNil, pCall, pAssign, pPut, reduceCtorEq, String.reduceEq, or_self, Option.some.injEq, ↓reduceIte, Option.map, h4.own, h4.par, h4.f, hx, hl, y1, w1]
    have h5 := h4.set (y := "inner") (d := rv (ev Tf y / ev Bf y)) (by simp)
    have hi : (ps₄.set "inner" (rv (ev Tf y / ev Bf y))).loc "inner" = some (rv (ev Tf y / ev Bf y)) := by simp only [↓reduceIte, loc_set]
    have hx5 : (ps₄.set "inner" (rv (ev Tf y / ev Bf y))).loc "x" = some (rv ξ) := by simp only [String.reduceEq, ↓reduceIte, loc_set, hx]
    have hl5 : (ps₄.set "inner" (rv (ev Tf y / ev Bf y))).loc "line" = some (fv [c, d] [1]) := by simp only [String.reduceEq, ↓reduceIte, loc_set, hl]
    generalize ps₄.set "inner" (rv (ev Tf y / ev Bf y)) = ps₅ at s2 h5 hi hx5 hl5
    obtain ⟨T', B', k1, k2, k3, k4⟩ := fcompose_run f tL (by simp) zL (fun V hV h0 => by
      subst h0
      obtain ⟨N, hN⟩ := f.tB.big f.B0
      apply hN N (Nat.le_refl _)
      have := hV (((N : Rat) - c) / d)
      rw [show ev [c, d] (((N : Rat) - c) / d) = (N : Rat) by simp only [ev]; grind] at this
      exact this.symm)
    have k5 := k4 ξ
    rw [hyL] at k5
    obtain ⟨v1, v2⟩ := k2.val k5 hb
    obtain ⟨x1, x2⟩ := fat_run (M := 300018) k3 zx (by omega) (by omega) (by omega)
    rw [if_neg v1, v2] at x1
    have sm := same_run (a := (ev Tf y / ev Bf y).num) (b := ((ev Tf y / ev Bf y).den : Int)) (c := (ev Tf y / ev Bf y).num) (d := ((ev Tf y / ev Bf y).den : Int)) zw.1 zw.2 zw.1 zw.2 (by omega)
    rw [decide_eq_true rfl, ← rv_rt] at sm
    refine ⟨ps₅, fun k => (seq_go s1).trans ((seq_go s2).trans (seq_go (pStIf_f ((pAnd_t (ps₁ := ps₅) ?_).trans (pAnd_f ?_))))), h5⟩
    · simp only [pCmpN, pK, Option.isSome_some, ↓reduceIte, Option.map, Option.bind, hi, fIsNot, rv_rt]
    · simp only [pT, pVar, pCons, pNil, pCall, pNot, reduceCtorEq, String.reduceEq, or_self, Option.some.injEq, ↓reduceIte, Option.map, h5.own, h5.par, h5.f, hi, hx5, hl5, k1, x1, sm, Bool.not_true]
theorem rv_two : PV.lst [.tup [.int 2, .int 1], .tup [.int 1, .int 1]] = pv [2, 1] := rfl
theorem self_run : ∀ ps : PS, pB (pCmp fEq (pCall sp_fdiv (pCons (pK (.tup [.lst [rt 1 1], .lst [rt 1 1]])) (pCons (pCall sp_fmake (pCons (pFr (pDisp (pCons (pTup (pCons (pK (.int 2)) (pCons (pK (.int 1)) pNil))) (pCons (pTup (pCons (pK (.int 1)) (pCons (pK (.int 1)) pNil))) pNil)))) (pCons (pFr (pDisp (pCons (pTup (pCons (pK (.int 2)) (pCons (pK (.int 1)) pNil))) (pCons (pTup (pCons (pK (.int 1)) (pCons (pK (.int 1)) pNil))) pNil)))) pNil))) pNil))) (pK (.tup [.lst [rt 1 1], .lst [rt 1 1]]))) ps = some (.bool true, ps) := fun ps => by
  have t2 : Tr [2, 1] := fun k hk => by
    have : k = 1 := by simpa using hk.symm
    subst this; exact (by decide : (1 : Rat) ≠ 0)
  have z2 : SzL 1 [2, 1] := szl_cons (by constructor <;> decide) (szl_one 1)
  obtain ⟨T, B, e1, e2, e3, _⟩ := fmake_run (l := 2) (s := 1) (top := [2, 1]) (bottom := [2, 1]) (by omega) t2 t2 (by simp) (by simp) (by simp) z2 z2 (by decide +kernel)
  obtain ⟨rfl, rfl⟩ := low_is e2 (low_one fr_F1.tT) t2 (by simp) e3 (Lg.of fun k => by rw [ev_one]; grind)
  obtain ⟨T, B, f1, f2, f3, f4⟩ := fdiv_run (l := 1) (n := 1) (M := 1) fr_F1 fr_F1 (by simp) (by omega) (by omega) (by omega) (by omega) (by decide +kernel)
  obtain ⟨rfl, rfl⟩ := f2.uniq (low_one fr_F1.tT) (Lg.of fun k => by
    have := f4 (k : Rat)
    rw [ev_one] at this ⊢
    grind)
  simp only [List.length_cons, List.length_nil, pCmp, pB, pK, pTup, pCons, pNil, pFr, pDisp, pCall, ↓reduceIte, Nat.reduceAdd, Nat.reduceLeDiff, Nat.zero_add, Option.map, F1eq, rv_two, e1, f1, fEq_fv, and_self, decide_true]
theorem st14 (h : LSt ns P1 P2 (fv Tf Bf) (fv Tg Bg) To Le Pr n ps) (f : Fr 2 4 Tf Bf) (g : Fr 2 4 Tg Bg) : ∃ ps', lw14 ps = some (.ret (.bool true), ps') := by
  obtain ⟨T1, B1, a1, a2, a3, a4⟩ := fsub_run (l := 3) (n := 2) (M := 18) g g (by omega) (by omega) (by omega) (by omega) (by omega) (by decide +kernel)
  obtain ⟨rfl, rfl⟩ := is_F0 a2 g.tB g.B0 a4 (fun x => by grind)
  have i1 := f.lT; have i2 := f.lB
  obtain ⟨m1, _⟩ := qmul_any (n := 2) (a := Tf) (b := [1]) (s := 4) (t := 0) i1 (by omega) (by simp) f.zT (szl_one 0) (by omega)
  have m2 := qmul_nil_r (a := Bf) (by omega)
  have hq : pCons (pVar "f") (pCons (pCall sp_fsub (pCons (pVar "g") (pCons (pVar "g") pNil))) pNil) ps.freeze = some ([fv Tf Bf, fv [] [1]], ps.freeze) := by
    simp only [pVar, pCons, pNil, pCall, reduceCtorEq, or_self, ↓reduceIte, Option.map, loc_freeze, own_freeze, par_freeze, h.par, h.f, h.g, a1]
  have hc : cDiv [fv Tf Bf, fv [] [1]] := by
    refine ⟨rfl, pv (pmul0 Tf [1]), args ["f", "g"] [fv Tf Bf, fv [] [1]], ?_⟩
    unfold qDiv
    simp only [List.zip, List.zipWith, List.lookup_cons, pK, pSubN, pCons, pNil, pCall, Option.isSome_some, String.reduceBEq, beq_self_eq_true, Option.some.injEq, ↓reduceIte, Option.map, Option.bind, loc_args, pick_fv0, pick_fv1, m1, m2]
    rfl
  have hr := self_run ps.freeze
  have hex : ∃ b : Bool, (∃ ds ps₁ ps₂, pCons (pVar "f") (pCons (pCall sp_fsub (pCons (pVar "g") (pCons (pVar "g") pNil))) pNil) ps.freeze = some (ds, ps₁) ∧ cDiv ds ∧ pB (pCmp fEq (pCall sp_fdiv (pCons (pK (.tup [.lst [rt 1 1], .lst [rt 1 1]])) (pCons (pCall sp_fmake (pCons (pFr (pDisp (pCons (pTup (pCons (pK (.int 2)) (pCons (pK (.int 1)) pNil))) (pCons (pTup (pCons (pK (.int 1)) (pCons (pK (.int 1)) pNil))) pNil)))) (pCons (pFr (pDisp (pCons (pTup (pCons (pK (.int 2)) (pCons (pK (.int 1)) pNil))) (pCons (pTup (pCons (pK (.int 1)) (pCons (pK (.int 1)) pNil))) pNil)))) pNil))) pNil))) (pK (.tup [.lst [rt 1 1], .lst [rt 1 1]]))) ps.freeze = some (.bool b, ps₂)) ∧ ps.loc "refused" = none ∧ ps.par = none :=
    ⟨true, ⟨_, _, _, hq, hc, hr⟩, h.refused, h.par⟩
  unfold lw14 pTry
  rw [dif_pos hex]
  refine ⟨psE, ?_⟩
  obtain ⟨⟨ds, p1, p2, _, _, hb⟩, _⟩ := hex.choose_spec
  have hb2 : true = hex.choose := by
    have := (Prod.mk.inj (Option.some.inj (hr.symm.trans hb))).1
    exact PV.bool.inj this
  rw [← hb2]
end
theorem law_plain {ns₀ : List Int} (h : ns₀.length ≤ 63) : sp_law [.lst (ns₀.map PV.int)] = some (.bool true) := by
  obtain ⟨ns, up, lo, sh, up', lo', sh', Tf, Bf, Tg, Bg, Tt, Bt, Tl, Bl, Tp, Bp, n, ps, e1, L, Fa, Ls, m1, m2, m3, m4, hn, hns⟩ := law_A h
  obtain ⟨ps₁, e2, e3, L1⟩ := st89 L Fa
  obtain ⟨ps₂, e4, L2⟩ := st10 hns hn Fa m1 m2 m3 m4 L1
  obtain ⟨ps₃, e5, L3⟩ := st1113 hns L2 Fa.lf Fa.ff
  obtain ⟨ps₄, e6⟩ := st14 L3 Fa.ff Fa.fg
  refine run_of (ps := ps₄) rfl ?_
  rw [p_law_eq, e1, seq_go (st6 L Fa Ls), seq_go (st7 L Fa Ls), seq_go e2, seq_go e3, seq_go e4, e5]
  exact seq_ret e6
end NN
end

section
open PySem PySem.W PyProof.Rows PySem.Calls PySem.Spec
set_option Elab.async false
set_option maxRecDepth 100000
set_option maxHeartbeats 8000000
namespace NN
theorem rep_ints {h : Heap} : ∀ {vs : List Value} {ns : List Int}, IntsAre vs ns → RepL [] h vs (ns.map PV.int)
  | [], [], _ => by simp only [List.map_nil, RepL]
  | _, _, .cons n t r => by
    simp only [List.map_cons, RepL]
    exact ⟨rep_int.mpr ⟨t, rfl⟩, rep_ints r⟩
theorem KOk.for {K : Frag} {h : Heap} (_ : K.In h) (k : KOk K) : KOk K := k
end NN
end

open PySem PySem.W PyProof.Rows PySem.Calls PySem.Spec
set_option maxRecDepth 100000 in
set_option maxHeartbeats 8000000 in
theorem PySem.Challenge.cw_nn0267_01_holds : PySem.Challenge.rw_nn0267_01.Holds := by
  refine holds_law NN.said fun said => ?_
  refine PySem.W.holds_open (q := NN.viewQ) (loose := NN.looseQ) (Xt := fun s => xlAt NN.viewQ [] s && recOk (RowW.records NN.rowQ) s) (XP := XL NN.viewQ []) (Yf := Hook.obs NN.KH) (Ya := Hook.val NN.KH) (YP := Hook.says NN.KH) (N := 3470) NN.left (Hook.of NN.KH) (Hook.keeps NN.KH) (fun s e => xl_of s (Bool.and_eq_true_iff.mp e).1) XL.keeps (by rfl) (by rfl) (by rfl) (fun s e => recFacts_of (Bool.and_eq_true_iff.mp e).2) (by rfl) (by first | assumption | decide +kernel) (by decide +kernel) ⟨rfl, rfl, rfl, rfl, rfl, by decide +kernel⟩ ?hw ?hc
  case hw => w_witness2
  case hc =>
    intro w s₀ s₁ mg mb G Y fa o pm cd doc dV kV ho hd hcd hD hmg hg args vals as hpre hlay hrd hwl hlo
    have KX : (NN.KK w.params).In _ := kIn_of (K := NN.KK) (as := NN.KA) (e := fun _ => rfl) Y
    have k := NN.KOk.for KX ⟨by kernel_rfl, by kernel_rfl, by kernel_rfl, by kernel_rfl, by kernel_rfl, by kernel_rfl, by kernel_rfl, by kernel_rfl, by kernel_rfl, by kernel_rfl, by kernel_rfl, by kernel_rfl, by kernel_rfl, by kernel_rfl, by kernel_rfl, by kernel_rfl, by kernel_rfl, by kernel_rfl, by kernel_rfl, by kernel_rfl, by kernel_rfl, by kernel_rfl, by kernel_rfl, by kernel_rfl⟩
    have Bs := k.base KX G.T (by kernel_rfl) (by kernel_rfl)
    have cl := k.cls KX G.T
    have hfa : mg "law" = some (.ref fa) := hmg
    clear k KX hD hd ho hcd Y hmg
    have hT := trivial
    wrow_args hpre hlay hrd hwl hlo
    rename_i L vs _ hL _ _ _ hI _ hlen _
    have hl : ¬ (63 : Int) < _ := hlen
    clear G
    refine NN.law_enter Bs cl hfa (x := .lst (List.map NN.PV.int _)) (by simp only [NN.Rep]; exact ⟨L, vs, rfl, List.not_mem_nil, hL, NN.rep_ints hI⟩) (NN.law_plain (by omega)) ?_
    intro v h' tk kp r
    simp only [NN.Rep] at r
    subst r
    refine GoodW.toG ⟨.inl ⟨.bool true, .bool true, [], rfl, fun _ => by kernel_rfl, .bool true, by kernel_rfl, fun _ => ⟨List.nodup_nil, fun _ m => by cases m⟩⟩, fun b o e => kp.all b o e, rfl, hg⟩
