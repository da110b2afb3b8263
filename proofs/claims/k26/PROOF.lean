import PyProof.Rows.All
import Wide.All
import OpenK.AllK
import Wide.FinOn
import HandS.ForMost
import HandS.ForExc
import HandS.HotCalls
import HandS.Zip
import HandS.Slots
import HandS.SlotsOwn
import KE.GoesNew
import KE.KExcSuper
import HandS.ExcField
import HandS.ExcCtx
import HandS.Conv
import HandS.TupAny
import HandS.TupMul
import HandS.Star
import HandS.SetKeys
import HandS.IsInst
import HandS.Wide
import HandS.Evl
import HandS.ListItems
import HandS.Walk
import PySem.Challenge.RW_anymargin_k26_whole_changed_machines
import HandS.ExcIs
import KE.KExcLine
import KE.RegKSuper
set_option Elab.async false
section PartA0
set_option maxRecDepth 100000
set_option maxHeartbeats 4000000
/-! A0: iterators that end while an exception is, or is not, handled. -/
namespace K26
open PySem PySem.Spec PyProof.Rows HotX

/-- nothing is handled, or an exception whose context is None -/
def Quiet (A : Around) (h : Heap) : Prop := A.handled = none ∨ ∃ x1, HotAt A x1 h
theorem Quiet.keep {A : Around} {h h' : Heap} (q : Quiet A h) (k : ∀ b o, h.get? b = some o → (∀ x1, A.handled = some (.ref x1) → b = x1 → h'.get? b = some o)) : Quiet A h' := by
  rcases q with q | ⟨x1, hh, o, vs, e, d, c⟩
  · exact .inl q
  · exact .inr ⟨x1, hh, o, vs, k x1 o e x1 hh rfl, d, c⟩

section
variable {prog : Program} {w : World} {A : Around} {E : Value → Shared → Prop} {s : Shared}
theorem raise_q {α : Type} {Q : α → Shared → Prop} {a : Addr} {oe : Obj} {vs : Array Value} (q : Quiet A s.heap) (ne : ∀ x1, A.handled = some (.ref x1) → x1 ≠ a) (ha : s.heap.get? a = some oe) (da : oe.data = .fields vs) (hi : 2 < vs.size)
    (hE : ∀ h' : Heap, (∀ b o, b ≠ a → s.heap.get? b = some o → h'.get? b = some o) → (∃ o, h'.get? a = some o ∧ o.cls = oe.cls) → E (.ref a) { s with heap := h' }) : wpAny (model prog w) A (raiseNew (.ref a) : Sem α) Q E s := by
  rcases q with q | ⟨x1, hot⟩
  · simp only [raiseNew]
    refine wpAny_bind (wpAny_handled ?_)
    rw [q]
    exact wpAny_bind (wpAny_pure (wpAny_throw (hE s.heap (fun _ _ _ z => z) ⟨oe, ha, rfl⟩)))
  · refine raiseNew_hot hot (ne x1 hot.1) ha da hi (hE _ (fun b o hb z => ?_) ⟨_, Heap.get?_update_self _ ha (Obj.isFreed_of_fields (Obj.data_mapFields da _)), Obj.cls_mapFields ..⟩)
    exact (Heap.get?_update_other _ _ (Ne.symm hb)).trans z

/-- StopIteration made and raised: the state ahead is h0 but for the cell it -/
theorem stop_q {α : Type} {Q : α → Shared → Prop} (q : Quiet A s.heap)
    (hE : ∀ (h' : Heap) e, (∀ b o, s.heap.get? b = some o → h'.get? b = some o) → (∃ o, h'.get? e = some o ∧ o.cls = .type "StopIteration") → E (.ref e) { s with heap := h' }) :
    wpAny (model prog w) A (do raiseNew (← newExc (.type "StopIteration") []) : Sem α) Q E s := by
  refine wpAny_bind ?_
  simp only [newExc, newTuple]
  refine wpAny_bind (wpAny_newObj_type ?_ (by size_fits))
  refine wpAny_bind (m := firstArgMember _ _) (wpAny_of_eq (a := Value.none) (by first | rfl | (simp only [firstArgMember]; rfl)) (wpAny_newObj_type ?_ (by size_fits)))
  have kp : ∀ (o1 o2 : Obj) b o, s.heap.get? b = some o → ((s.heap.push o1).push o2).get? b = some o := fun _ _ b o z => Heap.get?_push_of_some _ (Heap.get?_push_of_some _ z)
  refine raise_q (q.keep fun b o z _ _ _ => kp _ _ b o z) (fun x1 hx z => ?_) (Heap.get?_push_size _ rfl) rfl (by simp only [Array.size_append]; show 2 < 6 + _; omega) fun h' k hc => hE h' _ (fun b o z => k b o ?_ (kp _ _ b o z)) hc
  · rcases q with q | ⟨y, hy, o, _, e, _⟩
    · rw [q] at hx; cases hx
    · rw [hy] at hx
      have e2 : y = x1 := Value.ref.inj (Option.some.inj hx)
      have lt := Heap.lt_size e
      rw [e2, z, Heap.size_push] at lt
      exact absurd (Nat.lt_of_succ_lt lt) (Nat.lt_irrefl _)
  · have lt := Heap.lt_size z
    rw [Heap.size_push]
    exact Nat.ne_of_lt (Nat.lt_succ_of_lt lt)

theorem callNext_tup_end {it t : Addr} {i : Nat} {items : Array Value} {Q : Option Value → Shared → Prop} (q : Quiet A s.heap) (nh : ∀ x1, A.handled = some (.ref x1) → x1 ≠ it) (hit : s.heap.IsTupleIter it t i) (ht : s.heap.IsTuple t items) (hx : items[i]? = none)
    (hE : ∀ (h' : Heap) e, (∀ b o, b ≠ it → s.heap.get? b = some o → h'.get? b = some o) → (∃ o, h'.get? e = some o ∧ o.cls = .type "StopIteration") → E (.ref e) { s with heap := h' }) :
    wpAny (model prog w) A (callSpecial? (.ref it) (PySem.Str.ofString "__next__")) Q E s := by
  obtain ⟨o, ho, hc, hd⟩ := id hit
  obtain ⟨ol, hol, _, nl, hdl⟩ := ht
  refine wpAny_callSpecial?_slot hit.typeIs PySem.F.slot_tuple_iterator_next (wpAny_call_entry PySem.F.slot_tuple_iterator_next hit.typeIs PySem.F.entry_tuple_iterator_next ?_ (PySem.F.args_tuple_iterator_next_1 _))
  show wpAny (model prog w) A.in1 (field (.ref it) 0 >>= _) _ _ s
  refine wpAny_bind (wpAny_field ho hd (x := .ref t) rfl ?_)
  show wpAny (model prog w) A.in1 (if (Value.ref t == Value.none) = true then _ else _) _ _ s
  refine wpAny_ite_false (by first | rfl | simp) ?_
  show wpAny (model prog w) A.in1 (field (.ref it) 1 >>= _) _ _ s
  refine wpAny_bind (wpAny_field ho hd (x := .int i 0) rfl ?_)
  show wpAny (model prog w) A.in1 (seqItems? (.ref t) >>= _) _ _ s
  refine wpAny_bind (wpAny_seqItems hol hdl ?_)
  simp only [Int.toNat_natCast, hx]
  have up : ∀ b o', b ≠ it → s.heap.get? b = some o' → (s.heap.update it (Obj.mapFields (·.setIfInBounds 0 Value.none))).get? b = some o' := fun b o' hb z => (Heap.get?_update_other _ _ (Ne.symm hb)).trans z
  refine wpAny_bind (wpAny_rule (wpAny_bind (wpAny_setField ho hd (by simp) (stop_q (q.keep fun b o z x1 hx1 e => up b o (e ▸ nh x1 hx1) z) fun h' e k c => hE h' e (fun b o hb z => k b o (up b o hb z)) c))))
theorem callNext_lst_end {it l : Addr} {i : Nat} {items : Array Value} {Q : Option Value → Shared → Prop} (q : Quiet A s.heap) (nh : ∀ x1, A.handled = some (.ref x1) → x1 ≠ it) (hit : s.heap.IsListIter it l i) (hl : s.heap.IsList l items) (hx : items[i]? = none)
    (hE : ∀ (h' : Heap) e, (∀ b o, b ≠ it → s.heap.get? b = some o → h'.get? b = some o) → (∃ o, h'.get? e = some o ∧ o.cls = .type "StopIteration") → E (.ref e) { s with heap := h' }) :
    wpAny (model prog w) A (callSpecial? (.ref it) (PySem.Str.ofString "__next__")) Q E s := by
  obtain ⟨o, ho, hc, hd⟩ := id hit
  obtain ⟨ol, hol, _, nl, hdl⟩ := hl
  refine wpAny_callSpecial?_slot hit.typeIs slot_listiter_next (wpAny_call_entry slot_listiter_next hit.typeIs entry_listiter_next ?_ (args_listiter_next _))
  show wpAny (model prog w) A.in1 (field (.ref it) 0 >>= _) _ _ s
  refine wpAny_bind (wpAny_field ho hd (x := .ref l) rfl ?_)
  show wpAny (model prog w) A.in1 (if (Value.ref l == Value.none) = true then _ else _) _ _ s
  refine wpAny_ite_false (by first | rfl | simp) ?_
  show wpAny (model prog w) A.in1 (field (.ref it) 1 >>= _) _ _ s
  refine wpAny_bind (wpAny_field ho hd (x := .int i 0) rfl ?_)
  show wpAny (model prog w) A.in1 (seqItems? (.ref l) >>= _) _ _ s
  refine wpAny_bind (wpAny_seqItems hol hdl ?_)
  simp only [Int.toNat_natCast, hx]
  have up : ∀ b o', b ≠ it → s.heap.get? b = some o' → (s.heap.update it (Obj.mapFields (·.setIfInBounds 0 Value.none))).get? b = some o' := fun b o' hb z => (Heap.get?_update_other _ _ (Ne.symm hb)).trans z
  refine wpAny_bind (wpAny_rule (wpAny_bind (wpAny_setField ho hd (by simp) (stop_q (q.keep fun b o z x1 hx1 e => up b o (e ▸ nh x1 hx1) z) fun h' e k c => hE h' e (fun b o hb z => k b o (up b o hb z)) c))))
/-- next(it) ends -/
theorem pyNext_end {it : Addr} {Q : Option Value → Shared → Prop} (hc : ∀ (Q : Option Value → Shared → Prop) (E : Value → Shared → Prop), (∀ (h' : Heap) e, (∀ b o, b ≠ it → s.heap.get? b = some o → h'.get? b = some o) → (∃ o, h'.get? e = some o ∧ o.cls = .type "StopIteration") → E (.ref e) { s with heap := h' }) →
      wpAny (model prog w) A (callSpecial? (.ref it) (PySem.Str.ofString "__next__")) Q E s)
    (hQ : ∀ h' : Heap, (∀ b o, b ≠ it → s.heap.get? b = some o → h'.get? b = some o) → Q none { s with heap := h' }) : wpAny (model prog w) A (pyNext (.ref it)) Q E s := by
  unfold pyNext
  refine wpAny_bind (wpAny_attempt (hc _ _ fun h' e k ⟨o, ho, hc⟩ => ?_))
  exact wpAny_bind (wpAny_isInstance (T := "StopIteration") (b := true) ⟨o, ho, hc⟩ isSubtype_stop (wpAny_pure (hQ h' k)))
theorem nextOf_end {it : Addr} {Q : Value → Shared → Prop} (hc : ∀ (Q : Option Value → Shared → Prop) (E : Value → Shared → Prop), (∀ (h' : Heap) e, (∀ b o, b ≠ it → s.heap.get? b = some o → h'.get? b = some o) → (∃ o, h'.get? e = some o ∧ o.cls = .type "StopIteration") → E (.ref e) { s with heap := h' }) →
      wpAny (model prog w) A (callSpecial? (.ref it) (PySem.Str.ofString "__next__")) Q E s)
    (hE : ∀ (h' : Heap) e, (∀ b o, b ≠ it → s.heap.get? b = some o → h'.get? b = some o) → (∃ o, h'.get? e = some o ∧ o.cls = .type "StopIteration") → E (.ref e) { s with heap := h' }) : wpAny (model prog w) A (Builtin.SmallTypes.nextOf (.ref it)) Q E s := by
  unfold Builtin.SmallTypes.nextOf
  exact wpAny_bind (hc _ _ hE)
end

/-- the handled exception's own cell, if there is one -/
def hotC (A : Around) : List Addr := match A.handled with
  | some (.ref x) => [x]
  | _ => []
theorem hotC_mem {A : Around} {x : Addr} (h : A.handled = some (.ref x)) : x ∈ hotC A := by
  unfold hotC; rw [h]; exact List.mem_singleton.mpr rfl
theorem Quiet.cells {A : Around} {h h' : Heap} (q : Quiet A h) (k : ∀ b ∈ hotC A, ∀ o, h.get? b = some o → h'.get? b = some o) : Quiet A h' :=
  q.keep fun b o z x1 hx e => k b (e ▸ hotC_mem hx) o z
/-- what a tuple's iterator draws, whether an exception is handled or not -/
theorem drawsQ {prog : Program} {w : World} {A : Around} (it t : Addr) (hne : t ≠ it) (nh : it ∉ hotC A) (items : Array Value) :
    Draws prog w A it (it :: t :: hotC A) items.size (fun i v => items[i]? = some v) (fun i h => h.IsTupleIter it t i ∧ h.IsTuple t items ∧ Quiet A h) where
  live := fun _ _ st => let ⟨o, ho, _⟩ := st.1; ⟨o, ho⟩
  frame := fun _ _ _ st hk => ⟨st.1.at fun o e => hk it (by simp) o e, st.2.1.at fun o e => hk t (by simp) o e, st.2.2.cells fun b hb o e => hk b (by simp [hb]) o e⟩
  item := fun i s Q E hi st hQ => wpAny_nextOf_tuple_item st.1 st.2.1 (x := items[i]) (by simp [hi]) fun h' hit' hs' =>
    hQ _ h' s.toks (by simp [hi]) ⟨hit', st.2.1.extBut hs'.extBut hne, st.2.2.cells fun b hb o e => (hs'.2 b (fun z => nh (z ▸ hb))).trans e⟩ hs'
  done := fun s Q E st hE => nextOf_end (fun Q E h => callNext_tup_end st.2.2 (fun x1 hx z => nh (z ▸ hotC_mem hx)) st.1 st.2.1 (by simp) h) hE
/-- a tuple walked -/
theorem goesQ {prog : Program} {w : World} {A : Around} {target : Expr} (it t : Addr) (hne : t ≠ it) (nh : it ∉ hotC A) (items : Array Value) :
    Goes prog w A target it (it :: t :: hotC A) [it] items.size (fun i v _ => items[i]? = some v) (fun i h => h.IsTupleIter it t i ∧ h.IsTuple t items ∧ Quiet A h) where
  sub := fun b hb => by simp at hb; simp [hb]
  frame := fun _ _ _ st hk => ⟨st.1.at fun o e => hk it (by simp) o e, st.2.1.at fun o e => hk t (by simp) o e, st.2.2.cells fun b hb o e => hk b (by simp [hb]) o e⟩
  goes := fun i s Q E hi st hQ => wpAny_pyNext_tuple_item st.1 st.2.1 (x := items[i]) (by simp [hi]) fun h' hit' hs' => by
    obtain ⟨o, ho, hc, hd⟩ := id hit'
    exact ⟨items[i], rfl, letGo_of_cls ho hc hd (by decide) (hQ _ h' s.toks (by simp [hi]) ⟨hit', st.2.1.extBut hs'.extBut hne, st.2.2.cells fun b hb o e => (hs'.2 b (fun z => nh (z ▸ hb))).trans e⟩ (fun b o hb e => (hs'.2 b (fun z => hb (by simp [z]))).trans e) (Nat.le_refl _))⟩
  stops := fun s Q E st hQ => pyNext_end (fun Q E h => callNext_tup_end st.2.2 (fun x1 hx z => nh (z ▸ hotC_mem hx)) st.1 st.2.1 (by simp) h) fun h' k => ⟨rfl, hQ h' s.toks (fun b o hb e => k b o (fun z => hb (by simp [z])) e) (Nat.le_refl _)⟩
  self := fun _ _ _ _ st hQ => wpAny_pyIter_tupleiter st.1 hQ
/-- a list walked -/
theorem walksQ {prog : Program} {w : World} {A : Around} (it l : Addr) (hne : l ≠ it) (nh : it ∉ hotC A) (items : Array Value) :
    Walks prog w A it (it :: l :: hotC A) [it] items.size (fun i v => items[i]? = some v) (fun i h => h.IsListIter it l i ∧ h.IsList l items ∧ Quiet A h) where
  sub := fun b hb => by simp at hb; simp [hb]
  frame := fun _ _ _ st hk => ⟨st.1.at fun o e => hk it (by simp) o e, st.2.1.at fun o e => hk l (by simp) o e, st.2.2.cells fun b hb o e => hk b (by simp [hb]) o e⟩
  item := fun i s Q E hi st hQ => wpAny_pyNext_list_item st.1 st.2.1 (x := items[i]) (by simp [hi]) fun h' hit' hs' =>
    hQ _ h' s.toks (by simp [hi]) ⟨hit', st.2.1.extBut hs'.extBut hne, st.2.2.cells fun b hb o e => (hs'.2 b (fun z => nh (z ▸ hb))).trans e⟩ fun b o hb e => (hs'.2 b (fun z => hb (by simp [z]))).trans e
  done := fun s Q E st hQ => pyNext_end (fun Q E h => callNext_lst_end st.2.2 (fun x1 hx z => nh (z ▸ hotC_mem hx)) st.1 st.2.1 (by simp) h) fun h' k => hQ h' s.toks fun b o hb e => k b o (fun z => hb (by simp [z])) e
  self := fun _ _ _ _ st hQ => wpAny_pyIter_listiter st.1 hQ
end K26

end PartA0

section PartA1
set_option maxRecDepth 100000
set_option maxHeartbeats 4000000
/-! A1: what a comprehension walks, within an except suite too. -/
namespace PySem
set_option maxHeartbeats 4000000 in
theorem k26_enum_new {v : Value} {o : Obj} {H : Heap → Prop} (B : Begins v o H) :
    Meets (Builtin.«enumerate.__new__» ⟨[.type "enumerate", v], []⟩) (fun _ R s => H s.heap ∧
      R (.ok (.ret (.ref (s.heap.push o).objs.size))) { s with heap := (s.heap.push o).push { cls := .type "enumerate", data := .fields #[.none, .bool false, .ref s.heap.objs.size, rawInt 0, .none, .none] } }) :=
  .of_wp fun prog w A R s h => by
    obtain ⟨hp, g, d, tk, os⟩ := s; obtain ⟨h1, h⟩ := h
    have hsub := sub_enumerate
    have qi : ∀ {A' : Around} {E : Value → Shared → Prop} {Q : Value → Shared → Prop}, Q (.ref hp.objs.size) ⟨hp.push o, g, d, tk, os⟩ → wpAny (model prog w) A' (pyIter v) Q E ⟨hp, g, d, tk, os⟩ :=
      fun q => B.iter prog w _ _ ⟨hp, g, d, tk, os⟩ _ h1 q
    wp_walk using qi
    refine wpAny_stack_any fun st => wpAny_pure ?_
    split
    · rename_i c _ _ _ _ _
      cases (c == Value.type "enumerate") <;> (wp_walk using qi; exact ⟨_, rfl, h⟩)
    · wp_walk using qi
      exact ⟨_, rfl, h⟩
end PySem
namespace K26
open PySem PySem.Spec PyProof.Rows HotX L2 L2H
abbrev St := L2.St
theorem call_enum {prog : Program} {w : World} {A : Around} {E : Value → Shared → Prop} {s : Shared} {v : Value} {o : Obj} {H : Heap → Prop} {Q : Value → Shared → Prop} (B : Begins v o H) (h1 : H s.heap)
    (h : ∀ h', IsEnum h' (s.heap.objs.size + 1) s.heap.objs.size 0 .none → h'.get? s.heap.objs.size = some o → (∀ b o, s.heap.get? b = some o → h'.get? b = some o) → Q (.ref (s.heap.objs.size + 1)) { s with heap := h' }) :
    wpAny (model prog w) A (call (.type "enumerate") [v]) Q E s := by
  refine callType_new PySem.F.called_enumerate (by decide) (PySem.F.typeCall_enumerate_1 _) (PySem.F.newCall_enumerate_1 _) (fun obj => PySem.F.args_object_init_2 obj _) PySem.F.entry_enumerate_new (PySem.k26_enum_new B) ⟨h1, ?_⟩
  have hz : (s.heap.push o).objs.size = s.heap.objs.size + 1 := Heap.size_push ..
  show _ ∧ _
  rw [hz]
  have he : IsEnum ((s.heap.push o).push { cls := .type "enumerate", data := .fields #[.none, .bool false, .ref s.heap.objs.size, rawInt 0, .none, .none] }) (s.heap.objs.size + 1) s.heap.objs.size 0 .none := by
    have q := Heap.get?_push_size (s.heap.push o) (o := { cls := .type "enumerate", data := .fields #[.none, .bool false, .ref s.heap.objs.size, rawInt 0, .none, .none] }) rfl
    rwa [hz] at q
  exact ⟨⟨_, he, rfl⟩, h _ he (Heap.get?_push_of_some _ (Heap.get?_push_size _ B.free)) fun b o z => Heap.get?_push_of_some _ (Heap.get?_push_of_some _ z)⟩

/-- in the body of a def that runs in peace, or within an except suite -/
def U (X : Cx) : Prop := X.calm = true ∨ HotC X
section
variable {X : Cx} {pins : List (Addr × Obj)} {σ : St} {H : Hp} {s : Shared}
theorem U.quiet (u : U X) (I : Inv X pins σ H s) : Quiet X.A s.heap := by
  rcases u with u | u
  · exact .inl (I.ok.hd u)
  · exact .inr (u.at I)
theorem U.apart (u : U X) (I : Inv X pins σ H s) {b : Addr} (h : ∀ p ∈ X.pn ++ pins, p.1 ≠ b) : b ∉ hotC X.A := fun hb => by
  rcases u with u | ⟨p, hot, hp⟩
  · unfold hotC at hb; rw [I.ok.hd u] at hb; cases hb
  · unfold hotC at hb
    rw [hot.1] at hb
    exact h p (List.mem_append_left _ hp) (List.mem_singleton.mp hb).symm
theorem U.below (u : U X) (I : Inv X pins σ H s) : ∀ b ∈ hotC X.A, b < s.heap.objs.size := fun b hb => by
  rcases u with u | ⟨p, hot, hp⟩
  · unfold hotC at hb; rw [I.ok.hd u] at hb; cases hb
  · unfold hotC at hb
    rw [hot.1] at hb
    rw [List.mem_singleton.mp hb]
    exact Heap.lt_size (I.pin p (List.mem_append_left _ hp)).1
end

/-- as Turn, at A -/
structure TurnU (P : Program) (w : World) (K : PySem.W.Frag) (A : Around) (tg : Expr) (J : It) (fp : List Addr) (it : Addr) (tn : Nat → Heap → Prop) : Prop where
  mem : it ∈ fp
  obj : ∀ i h, tn i h → ∀ b ∈ fp, ∃ o, h.get? b = some o ∧ ∀ v, o.data ≠ .cell v
  keep : ∀ i h h', tn i h → (∀ b ∈ fp, ∀ o, h.get? b = some o → h'.get? b = some o) → tn i h'
  item : ∀ (X : Cx), X.prog = P → X.w = w → X.K = K → X.A = A → U X → ∀ (i : Nat) (pins : List (Addr × Obj)) (s : Shared) (σ : St) (H : Hp) (E : Value → Shared → Prop), Inv X pins σ H s → (∀ b ∈ fp, FpOk X pins H b) → tn i s.heap → J.go i H →
    wpAny (model P w) A (pyNext (.ref it)) (fun r s1 => ∃ u, r = some u ∧ wpAny (model P w) A (letOwnedTupleGo tg (.ref it) u) (fun _ s2 => ∃ x H', Inv X pins σ H' s2 ∧ RelV x u ∧ J.yld i H x H' ∧ tn (i + 1) s2.heap ∧ ∀ b ∈ fp, H' b = none) E s1) E s
  done : ∀ (X : Cx), X.prog = P → X.w = w → X.K = K → X.A = A → U X → ∀ (i : Nat) (pins : List (Addr × Obj)) (s : Shared) (σ : St) (H : Hp) (E : Value → Shared → Prop), Inv X pins σ H s → (∀ b ∈ fp, FpOk X pins H b) → tn i s.heap → J.stop i H →
    wpAny (model P w) A (pyNext (.ref it)) (fun r s1 => r = none ∧ Inv X pins σ H s1) E s
  self : ∀ (i : Nat) (s : Shared) (Q : Value → Shared → Prop) (E : Value → Shared → Prop), tn i s.heap → Q (.ref it) s → wpAny (model P w) A (pyIter (.ref it)) Q E s

theorem tup_ne {h : Heap} {a it t : Addr} {xs : Array Value} {i : Nat} (p : h.IsTuple a xs) (q : h.IsTupleIter it t i) : a ≠ it := fun e => by
  obtain ⟨o, ho, hc, _⟩ := p
  obtain ⟨o2, ho2, hc2, _⟩ := q
  rw [e, ho2] at ho
  cases ho
  rw [hc] at hc2
  exact absurd (Value.type.inj hc2) (by decide)

/-- the tuple at a -/
def ItT (K : PySem.W.Frag) (a : Addr) : It :=
  ⟨fun i H => ∃ xs x, SqT K H a xs ∧ xs[i]? = some x, fun i H x H' => H' = H ∧ ∀ xs, SqT K H a xs → xs[i]? = some x, fun i H => ∃ xs, SqT K H a xs ∧ i = xs.length⟩
/-- .. with its turns -/
def IteT (K : PySem.W.Frag) (a : Addr) : It :=
  ⟨fun i H => ∃ xs x, SqT K H a xs ∧ xs[i]? = some x, fun i H v H' => ∃ T x, v = .ref T ∧ H T = none ∧ H' = upd H T (.tup [.int (i : Nat), x]) ∧ ∀ xs, SqT K H a xs → xs[i]? = some x, fun i H => ∃ xs, SqT K H a xs ∧ i = xs.length⟩
/-- two tuples -/
def ItzU (K : PySem.W.Frag) (a b : Addr) : It :=
  ⟨fun i H => ∃ (xs ys : List V) (x y : V), SqT K H a xs ∧ SqT K H b ys ∧ xs[i]? = some x ∧ ys[i]? = some y,
    fun i H v H' => ∃ T x y, v = .ref T ∧ H T = none ∧ H' = upd H T (.tup [x, y]) ∧ (∀ xs, SqT K H a xs → xs[i]? = some x) ∧ ∀ ys, SqT K H b ys → ys[i]? = some y,
    fun i H => ∃ xs ys : List V, SqT K H a xs ∧ SqT K H b ys ∧ i = min xs.length ys.length⟩

section
variable {P : Program} {w : World} {K : PySem.W.Frag} {A : Around}
theorem turnU_tup {tg : Expr} (a it : Addr) : TurnU P w K A tg (ItT K a) [it] it (fun i h => h.IsTupleIter it a i) where
  mem := by simp
  obj := fun i h st b hb => by
    obtain ⟨o, e, c, d⟩ := st
    rw [List.mem_singleton.mp hb]
    exact ⟨o, e, fun v z => by rw [d] at z; cases z⟩
  keep := fun i h h' st k => st.at fun o e => k it (by simp) o e
  item := by
    intro X hP hw hK hA u i pins s σ H E I hf st ⟨xs, x, hq, hx⟩
    subst hP hw hK hA
    obtain ⟨its, rv, p, hz⟩ := I.tuple hq
    obtain ⟨y, hy, ry⟩ := rv.get hx
    have f := hf it (by simp)
    have p' : s.heap.IsTuple a its.toArray := p
    have G := goesQ (prog := X.prog) (w := X.w) (A := X.A) (target := tg) it a (tup_ne p' st) (u.apart I f.2.2.2.2.2) its.toArray
    refine G.goes i s (fun v s2 => ∃ x H', Inv X pins σ H' s2 ∧ RelV x v ∧ (ItT X.K a).yld i H x H' ∧ s2.heap.IsTupleIter it a (i + 1) ∧ ∀ b ∈ [it], H' b = none) E ?_ ⟨st, p', u.quiet I⟩ fun v h' tk hv st' hk _ => ?_
    · have := (List.getElem?_eq_some_iff.mp hy).1
      simpa using this
    · have ev : y = v := by
        have q : its[i]? = some v := by simpa using hv
        exact Option.some.inj (hy.symm.trans q)
      subst ev
      exact ⟨x, H, I.turnedL hk hf, ry, ⟨rfl, fun ys hys => by rw [I.tuple_inj hys hq]; exact hx⟩, st'.1, fun b hb => (hf b hb).1⟩
  done := by
    intro X hP hw hK hA u i pins s σ H E I hf st ⟨xs, hq, hx⟩
    subst hP hw hK hA
    obtain ⟨its, rv, p, hz⟩ := I.tuple hq
    have f := hf it (by simp)
    have p' : s.heap.IsTuple a its.toArray := p
    have G := goesQ (prog := X.prog) (w := X.w) (A := X.A) (target := tg) it a (tup_ne p' st) (u.apart I f.2.2.2.2.2) its.toArray
    have ei : i = its.toArray.size := by rw [hx, rv.length]; simp
    rw [ei] at st
    exact G.stops s (fun s1 => Inv X pins σ H s1) E ⟨st, p', u.quiet I⟩ fun h' tk hk _ => I.turnedL hk hf
  self := fun _ _ _ _ st h => wpAny_pyIter_tupleiter st h
theorem turnU_enum {elts : List Expr} {kk : Nat} {tpos : Pos} (a e it : Addr) (hei : e ≠ it) : TurnU P w K A (.Tuple elts kk tpos) (IteT K a) [e, it] e (fun i h => (∃ old, IsEnum h e it ((0 : Int) + (i : Int)) old) ∧ h.IsTupleIter it a i) where
  mem := by simp
  obj := fun i h st b hb => by
    obtain ⟨⟨old, he⟩, ⟨o, ho, hc, hd⟩⟩ := st
    rcases List.mem_cons.mp hb with z | z
    · rw [z]; exact ⟨_, he, fun v q => nomatch q⟩
    · rw [List.mem_singleton.mp z]; exact ⟨o, ho, fun v q => by rw [hd] at q; cases q⟩
  keep := fun i h h' st k => ⟨st.1.elim fun old he => ⟨old, k e (by simp) _ he⟩, st.2.at fun o q => k it (by simp) o q⟩
  item := by
    intro X hP hw hK hA u i pins s σ H E I hf st ⟨xs, x, hq, hx⟩
    subst hP hw hK hA
    obtain ⟨its, rv, p, hz⟩ := I.tuple hq
    obtain ⟨y, hy, ry⟩ := rv.get hx
    have f := hf it (by simp)
    have fe := hf e (by simp)
    have p' : s.heap.IsTuple a its.toArray := p
    have ae : e ≠ a := fun z => by
      obtain ⟨o, ho, hc, _⟩ := p'
      obtain ⟨old, he⟩ := st.1
      rw [← z, he] at ho
      cases ho
      exact absurd (Value.type.inj hc) (by decide)
    have nq : Quiet X.A.in1 s.heap := u.quiet I
    have D := drawsQ (prog := X.prog) (w := X.w) (A := X.A.in1) it a (tup_ne p' st.2) (u.apart I f.2.2.2.2.2) its.toArray
    have G := GoesN.enumFrom (elts := elts) (x1 := kk) (pos := tpos) 0 D e hei (by simp only [List.mem_cons, not_or]; exact ⟨hei, ae, u.apart I fe.2.2.2.2.2⟩) (by simp)
    refine G.goes i s (fun v s2 => ∃ x H', Inv X pins σ H' s2 ∧ RelV x v ∧ (IteT X.K a).yld i H x H' ∧ ((∃ old, IsEnum s2.heap e it ((0 : Int) + ((i + 1 : Nat) : Int)) old) ∧ s2.heap.IsTupleIter it a (i + 1)) ∧ ∀ b ∈ [e, it], H' b = none) E ?_ ⟨st.1, st.2, p', nq⟩ fun v h' tk hv st' hk _ => ?_
    · have := (List.getElem?_eq_some_iff.mp hy).1
      simpa using this
    · obtain ⟨T, t, y2, rfl, hT, hy2, hTt⟩ := hv
      have ev : y = y2 := by
        have q : its[i]? = some y2 := by simpa using hy2
        exact Option.some.inj (hy.symm.trans q)
      subst ev
      have new : ObjOk X.prog X.w (upd H T (.tup [.int (i : Nat), x])) h' T (.tup [.int (i : Nat), x]) := by
        refine ⟨by show 2 ≤ sizeLine; decide, [.int ((0 : Int) + (i : Int)) t, y], .cons ⟨t, ?_⟩ (.cons ry .nil), hTt⟩
        rw [Int.zero_add]
      refine ⟨.ref T, _, I.turnedNew hk hf hT new, rfl, ⟨T, x, rfl, I.hok.fresh hT, rfl, fun ys hys => by rw [I.tuple_inj hys hq]; exact hx⟩, ⟨st'.1, st'.2.1⟩, fun b hb => ?_⟩
      have hbs : b < s.heap.objs.size := by
        rcases List.mem_cons.mp hb with z | z
        · rw [z]; exact st.1.elim fun _ he => Heap.lt_size he
        · rw [List.mem_singleton.mp z]; obtain ⟨_, e1, _⟩ := st.2; exact Heap.lt_size e1
      rw [upd_ne (Nat.ne_of_lt (Nat.lt_of_lt_of_le hbs hT))]
      exact (hf b hb).1
  done := by
    intro X hP hw hK hA u i pins s σ H E I hf st ⟨xs, hq, hx⟩
    subst hP hw hK hA
    obtain ⟨its, rv, p, hz⟩ := I.tuple hq
    have f := hf it (by simp)
    have fe := hf e (by simp)
    have p' : s.heap.IsTuple a its.toArray := p
    have ae : e ≠ a := fun z => by
      obtain ⟨o, ho, hc, _⟩ := p'
      obtain ⟨old, he⟩ := st.1
      rw [← z, he] at ho
      cases ho
      exact absurd (Value.type.inj hc) (by decide)
    have nq : Quiet X.A.in1 s.heap := u.quiet I
    have D := drawsQ (prog := X.prog) (w := X.w) (A := X.A.in1) it a (tup_ne p' st.2) (u.apart I f.2.2.2.2.2) its.toArray
    have G := GoesN.enumFrom (elts := elts) (x1 := kk) (pos := tpos) 0 D e hei (by simp only [List.mem_cons, not_or]; exact ⟨hei, ae, u.apart I fe.2.2.2.2.2⟩) (by simp)
    have ei : i = its.toArray.size := by rw [hx, rv.length]; simp
    rw [ei] at st
    exact G.stops s (fun s1 => Inv X pins σ H s1) E ⟨st.1, st.2, p', nq⟩ fun h' tk hk _ => I.turnedL hk hf
  self := fun _ _ _ _ st h => st.1.elim fun _ he => wpAny_pyIter_enum he h
end
end K26

end PartA1

section PartA2
set_option maxRecDepth 100000
set_option maxHeartbeats 4000000
/-! A2: zip of two tuples; what begins; the comprehension's rule, in peace or within an except suite. -/
namespace K26
open PySem PySem.Spec PyProof.Rows HotX L2 L2H
section
variable {P : Program} {w : World} {K : PySem.W.Frag} {A : Around}
/-- the cells of a zip made at N over what stood below N -/
theorem turnU_zip {elts : List Expr} {kk : Nat} {tpos : Pos} {N a b : Nat} (ha : a < N) (hb : b < N) (hh : ∀ c ∈ hotC A, c < N) :
    TurnU P w K A (.Tuple elts kk tpos) (ItzU K a b) [(N + 4 : Nat), (N + 2 : Nat), (N + 3 : Nat), N, (N + 1 : Nat)] (N + 4 : Nat)
      (fun i h => IsZip h (N + 4) (N + 2) (N + 3) .none ∧ IsTupOf2 h (N + 2) (.ref N) (.ref (N + 1)) ∧ (∃ x y, IsTupOf2 h (N + 3) x y) ∧ h.IsTupleIter N a i ∧ h.IsTupleIter (N + 1) b i) := by
  have b1 : ∀ c ∈ a :: hotC A, c < N := fun c hc => (List.mem_cons.mp hc).elim (fun z => z ▸ ha) (hh c)
  have b2 : ∀ c ∈ b :: hotC A, c < N := fun c hc => (List.mem_cons.mp hc).elim (fun z => z ▸ hb) (hh c)
  have S : ZipSep2 (N + 4) (N + 2) (N + 3) N (N + 1) (N :: a :: hotC A) ((N + 1) :: b :: hotC A) := zip_sep2 b1 b2
  have n1 : N ∉ hotC A := fun z => Nat.lt_irrefl _ (hh _ z)
  have n2 : (N + 1 : Nat) ∉ hotC A := fun z => absurd (Nat.lt_of_succ_lt (hh _ z)) (Nat.lt_irrefl _)
  have D1 : ∀ (p : Program) (w : World) (xs : Array Value), Draws p w A.in1 N (N :: a :: hotC A) xs.size _ _ := fun p w xs => drawsQ (prog := p) (w := w) (A := A.in1) N a (Nat.ne_of_lt ha) n1 xs
  have D2 : ∀ (p : Program) (w : World) (xs : Array Value), Draws p w A.in1 (N + 1 : Nat) ((N + 1 : Nat) :: b :: hotC A) xs.size _ _ := fun p w xs => drawsQ (prog := p) (w := w) (A := A.in1) (N + 1 : Nat) b (Nat.ne_of_lt (Nat.lt_succ_of_lt hb)) n2 xs
  refine ⟨by simp, fun i h st c hc => ?_, fun i h h' st k => ?_, ?_, ?_, fun i s Q E st h => wpAny_pyIter_zip st.1 h⟩
  · obtain ⟨hz, hTI, ⟨x, y, hTO⟩, ⟨o1, e1, _, d1⟩, ⟨o2, e2, _, d2⟩⟩ := st
    simp only [List.mem_cons, List.not_mem_nil, or_false] at hc
    rcases hc with rfl | rfl | rfl | rfl | rfl
    · exact ⟨_, hz, fun v q => nomatch q⟩
    · exact ⟨_, hTI, fun v q => nomatch q⟩
    · exact ⟨_, hTO, fun v q => nomatch q⟩
    · exact ⟨o1, e1, fun v q => by rw [d1] at q; cases q⟩
    · exact ⟨o2, e2, fun v q => by rw [d2] at q; cases q⟩
  · obtain ⟨hz, hTI, ⟨x, y, hTO⟩, h1, h2⟩ := st
    exact ⟨k _ (by simp) _ hz, k _ (by simp) _ hTI, ⟨x, y, k _ (by simp) _ hTO⟩, h1.at fun o q => k _ (by simp) o q, h2.at fun o q => k _ (by simp) o q⟩
  · intro X hP hw hK hA u i pins s σ H E I hf st ⟨xs, ys, x, y, hqx, hqy, hx, hy⟩
    subst hP hw hK hA
    obtain ⟨its, rv, p1, _⟩ := I.tuple hqx
    obtain ⟨its2, rv2, p2, _⟩ := I.tuple hqy
    obtain ⟨v1, hv1, r1⟩ := rv.get hx
    obtain ⟨v2, hv2, r2⟩ := rv2.get hy
    have nq : Quiet X.A.in1 s.heap := u.quiet I
    have G := GoesN.zip2 (elts := elts) (x1 := kk) (pos := tpos) S (D1 X.prog X.w its.toArray) (D2 X.prog X.w its2.toArray)
    refine G.goes i s (fun v s2 => ∃ z H', Inv X pins σ H' s2 ∧ RelV z v ∧ (ItzU X.K a b).yld i H z H' ∧ _ ∧ ∀ c ∈ [(N + 4 : Nat), (N + 2 : Nat), (N + 3 : Nat), N, (N + 1 : Nat)], H' c = none) E ?_ ⟨st.1, st.2.1, st.2.2.1, ⟨st.2.2.2.1, p1, nq⟩, st.2.2.2.2, p2, nq⟩ fun v h' tk hv st' hk _ => ?_
    · have l1 := (List.getElem?_eq_some_iff.mp hv1).1
      have l2 := (List.getElem?_eq_some_iff.mp hv2).1
      simp only [List.size_toArray]
      omega
    · obtain ⟨T, y1, y2, rfl, hT, hy1, hy2, hTt⟩ := hv
      have ev1 : v1 = y1 := Option.some.inj (hv1.symm.trans (by simpa using hy1))
      have ev2 : v2 = y2 := Option.some.inj (hv2.symm.trans (by simpa using hy2))
      subst ev1 ev2
      have new : ObjOk X.prog X.w (upd H T (.tup [x, y])) h' T (.tup [x, y]) := ⟨by show 2 ≤ sizeLine; decide, [v1, v2], .cons r1 (.cons r2 .nil), hTt⟩
      have sub : ∀ c o, c ∉ [(N + 4 : Nat), (N + 2 : Nat), (N + 3 : Nat), N, (N + 1 : Nat)] → s.heap.get? c = some o → h'.get? c = some o := fun c o hc e => hk c o (fun z => hc (by
        simp only [List.mem_cons, List.not_mem_nil, or_false] at z ⊢
        rcases z with z | z | z | z <;> simp [z])) e
      refine ⟨.ref T, _, I.turnedNew sub hf hT new, rfl, ⟨T, x, y, rfl, I.hok.fresh hT, rfl, fun l hl => by rw [I.tuple_inj hl hqx]; exact hx, fun l hl => by rw [I.tuple_inj hl hqy]; exact hy⟩, ⟨st'.1, st'.2.1, st'.2.2.1, st'.2.2.2.1.1, st'.2.2.2.2.1⟩, fun c hc => ?_⟩
      have hcs : c < s.heap.objs.size := by
        obtain ⟨hz, hTI, ⟨x0, y0, hTO⟩, ⟨o1, e1, _, d1⟩, ⟨o2, e2, _, d2⟩⟩ := st
        have hc' := hc
        simp only [List.mem_cons, List.not_mem_nil, or_false] at hc'
        rcases hc' with rfl | rfl | rfl | rfl | rfl
        · exact Heap.lt_size hz
        · exact Heap.lt_size hTI
        · exact Heap.lt_size hTO
        · exact Heap.lt_size e1
        · exact Heap.lt_size e2
      rw [upd_ne (Nat.ne_of_lt (Nat.lt_of_lt_of_le hcs hT))]
      exact (hf c hc).1
  · intro X hP hw hK hA u i pins s σ H E I hf st ⟨xs, ys, hqx, hqy, hx⟩
    subst hP hw hK hA
    obtain ⟨its, rv, p1, _⟩ := I.tuple hqx
    obtain ⟨its2, rv2, p2, _⟩ := I.tuple hqy
    have nq : Quiet X.A.in1 s.heap := u.quiet I
    have G := GoesN.zip2 (elts := elts) (x1 := kk) (pos := tpos) S (D1 X.prog X.w its.toArray) (D2 X.prog X.w its2.toArray)
    have ei : i = min its.toArray.size its2.toArray.size := by rw [hx, rv.length, rv2.length]; simp
    rw [ei] at st
    exact G.stops s (fun s1 => Inv X pins σ H s1) E ⟨st.1, st.2.1, st.2.2.1, ⟨st.2.2.2.1, p1, nq⟩, st.2.2.2.2, p2, nq⟩ fun h' tk hk _ => I.turnedL (ch := [(N + 4 : Nat), (N + 2 : Nat), (N + 3 : Nat), N, (N + 1 : Nat)]) (fun c o hc e => hk c o (fun z => hc (by
        simp only [List.mem_cons, List.not_mem_nil, or_false] at z ⊢
        rcases z with z | z | z | z <;> simp [z])) e) hf
end

/-- an iterator has come -/
def PIEU (X : Cx) (pins : List (Addr × Obj)) (σ : St) (tg : Expr) (R : It → Hp → Prop) (itv : Value) (s2 : Shared) : Prop :=
  ∃ (it : Addr) (fp : List Addr) (tn : Nat → Heap → Prop) (J : It) (H' : Hp), itv = .ref it ∧ Inv X pins σ H' s2 ∧ TurnU X.prog X.w X.K X.A tg J fp it tn ∧ tn 0 s2.heap ∧ (∀ b ∈ fp, FpOk X pins H' b) ∧ R J H'
structure PIU (X : Cx) (tg iter : Expr) (wi : TI) : Prop where
  run : ∀ (pins : List (Addr × Obj)) (s : Shared) (σ : St) (H : Hp) (R : It → Hp → Prop), Inv X pins σ H s → wi σ H R →
    wpAny (model X.prog X.w) X.A (eval iter X.env) (fun v s1 => wpAny (model X.prog X.w) X.A (pyIter v) (PIEU X pins σ tg R) X.xe s1) X.xe s
section
variable {X : Cx}
def iTupU (K : PySem.W.Frag) (tl : TE) : TI := fun σ H R => tl σ H fun x H1 => ∃ a xs, x = .ref a ∧ SqT K H1 a xs ∧ R (ItT K a) H1
theorem piU_tup {tg l : Expr} {tl : TE} (hl : PE X l tl) : PIU X tg l (iTupU X.K tl) := by
  refine ⟨fun pins s σ H R I h => thn (hl.run pins s σ H _ I h) fun v s1 ⟨x, H1, I1, r1, a, xs, e, hq, q⟩ => ?_⟩
  subst e
  cases r1
  obtain ⟨its, rv, p, hz⟩ := I1.tuple hq
  have p' : s1.heap.IsTuple a its.toArray := p
  refine wpAny_pyIter_tuple p' ⟨s1.heap.objs.size, [s1.heap.objs.size], _, _, H1, rfl, I1.kept (t' := s1.toks) fun b o e => Heap.get?_push_of_some _ e, turnU_tup a _, ⟨_, Heap.get?_push_size _ rfl, rfl, rfl⟩, fun b hb => ?_, q⟩
  rw [List.mem_singleton.mp hb]
  exact I1.fpOk (Nat.le_refl _) (I1.hok.fresh (Nat.le_refl _))
def iEnumU (K : PySem.W.Frag) (ta : TA) : TI := fun σ H R => ta σ H fun vs H1 => ∃ a xs, vs = [.ref a] ∧ SqT K H1 a xs ∧ R (IteT K a) H1
theorem piU_enum {e : Expr} {ta : TA} {p pos tpos : Pos} {elts : List Expr} {kk : Nat} (hg : Gl X "enumerate") (hm : X.mg "enumerate" = none) (ha : PA X [e] ta) (hs : starEach [e] X.env = [(false, eval e X.env)] := by rfl) :
    PIU X (.Tuple elts kk tpos) (.Call (.Name "enumerate" p) [e] [] pos) (iEnumU X.K ta) := by
  refine ⟨fun pins s σ H R I h => Call_ (ld_blt I hg hm PyProof.Rows.boot_enumerate (PyProof.Rows.callWith_type1 (thn (ha.run pos pins s σ H _ I h) fun us s1 ⟨vs, H1, I1, r1, a, xs, ex, hq, q⟩ => ?_) hs rfl))⟩
  subst ex
  cases r1 with
  | cons r rr =>
    cases rr
    cases r
    obtain ⟨its, rv, p', hz⟩ := I1.tuple hq
    have p2 : s1.heap.IsTuple a its.toArray := p'
    refine call_enum (begins_tuple a its.toArray) p2 fun h' he hit hk => wpAny_pyIter_enum he ?_
    have I2 : Inv X pins σ H1 { s1 with heap := h' } := I1.kept (t' := s1.toks) hk
    have he' : IsEnum h' (s1.heap.objs.size + 1) s1.heap.objs.size ((0 : Int) + ((0 : Nat) : Int)) .none := he
    refine ⟨s1.heap.objs.size + 1, [s1.heap.objs.size + 1, s1.heap.objs.size], _, _, H1, rfl, I2, turnU_enum a (s1.heap.objs.size + 1) s1.heap.objs.size (Nat.succ_ne_self _), ⟨⟨.none, he'⟩, ⟨_, hit, rfl, rfl⟩⟩, fun b hb => ?_, q⟩
    have hle : s1.heap.objs.size ≤ b := by
      rcases List.mem_cons.mp hb with z | z
      · rw [z]; exact Nat.le_add_right _ _
      · rw [List.mem_singleton.mp z]; exact Nat.le_refl _
    exact I1.fpOk hle (I1.hok.fresh hle)
def iZipU (K : PySem.W.Frag) (ta : TA) : TI := fun σ H R => ta σ H fun vs H1 => ∃ a b xs ys, vs = [.ref a, .ref b] ∧ SqT K H1 a xs ∧ SqT K H1 b ys ∧ R (ItzU K a b) H1
theorem piU_zip (u : U X) {e e2 : Expr} {ta : TA} {p pos tpos : Pos} {elts : List Expr} {kk : Nat} (hg : Gl X "zip") (hm : X.mg "zip" = none) (ha : PA X [e, e2] ta)
    (hs : starEach [e, e2] X.env = (false, eval e X.env) :: starEach [e2] X.env := by rfl) (hpl : (backTo pos (starEach [e2] X.env)).any (·.1) = false := by rfl) :
    PIU X (.Tuple elts kk tpos) (.Call (.Name "zip" p) [e, e2] [] pos) (iZipU X.K ta) := by
  refine ⟨fun pins s σ H R I h => Call_ (ld_blt I hg hm PyProof.Rows.boot_zip (PyProof.Rows.callWith_type1 (thn (ha.run pos pins s σ H _ I h) fun us s1 ⟨vs, H1, I1, r1, a, b, xs, ys, ex, hqx, hqy, q⟩ => ?_) hs hpl))⟩
  subst ex
  cases r1 with
  | cons r rr =>
    cases rr with
    | cons r' rr =>
      cases rr
      cases r
      cases r'
      obtain ⟨its, rv, p1, _⟩ := I1.tuple hqx
      obtain ⟨its2, rv2, p2, _⟩ := I1.tuple hqy
      have p1' : s1.heap.IsTuple a its.toArray := p1
      have p2' : s1.heap.IsTuple b its2.toArray := p2
      have la : a < s1.heap.objs.size := by obtain ⟨_, e, _⟩ := p1'; exact Heap.lt_size e
      have lb : b < s1.heap.objs.size := by obtain ⟨_, e, _⟩ := p2'; exact Heap.lt_size e
      refine zip_begins2 (begins_tuple a its.toArray) (begins_tuple b its2.toArray) p1' p2' fun h' hz hTI hTO h1 h2 hsz hk => wpAny_pyIter_zip hz ?_
      have I2 : Inv X pins σ H1 { s1 with heap := h' } := I1.kept (t' := s1.toks) hk
      refine ⟨_, _, _, _, H1, rfl, I2, turnU_zip (N := s1.heap.objs.size) la lb (u.below I1), ⟨hz, hTI, ⟨_, _, hTO⟩, ⟨_, h1, rfl, rfl⟩, ⟨_, h2, rfl, rfl⟩⟩, fun c hc => ?_, q⟩
      have hle : s1.heap.objs.size ≤ c := by
        simp only [List.mem_cons, List.not_mem_nil, or_false] at hc
        rcases hc with rfl | rfl | rfl | rfl | rfl
        · exact Nat.le_add_right _ _
        · exact Nat.le_add_right _ _
        · exact Nat.le_add_right _ _
        · exact Nat.le_refl _
        · exact Nat.le_add_right _ _
      exact I1.fpOk hle (I1.hok.fresh hle)
end
end K26

end PartA2

section PartA3
set_option maxRecDepth 100000
set_option maxHeartbeats 4000000
/-! A3: the comprehension's rule, in peace or within an except suite. -/
namespace K26
open PySem PySem.Spec PyProof.Rows HotX L2 L2H
/-- what a comprehension over J asks, from H1 on -/
structure LcRd (J : It) (g : TG) (tt : TT) (te : TE) (vs : List Nat) (σ : St) (H1 : Hp) (Q : VK) : Prop where
  h : ∀ D, H1 D = none → ∃ W : Nat → Nat → Hp → Prop, (∃ m, W 0 m (upd H1 D (.lst []))) ∧ ∀ i m H, W i m H →
    (J.stop i H ∧ Q (.ref D) H) ∨ (J.go i H ∧ ∃ Nx : Hp → Prop, (∀ H', Nx H' → ∃ m', m' < m ∧ W (i + 1) m' H') ∧ ∀ x H', J.yld i H x H' → g x (wipe σ vs) H' fun σ2 H2 => wipe σ2 vs = wipe σ vs ∧ tt σ2 H2 fun b H3 =>
      if b = true then te σ2 H3 fun y H4 => ∃ acc, H4 D = some (.lst acc) ∧ acc.length < sizeLine ∧ Nx (upd H4 D (.lst (acc ++ [y]))) else Nx H3)
def tLcU (wi : TI) (g : TG) (tt : TT) (te : TE) (vs : List Nat) : TE := fun σ H Q => wi σ H fun J H1 => LcRd J g tt te vs σ H1 Q
/-- the block's context, what was pinned stays pinned -/
abbrev blkU (X : Cx) (s : Shared) (H : Hp) (scope : Scope) (cenv : Env) (fp : List Addr) : Cx := { X.blk s H scope cenv fp with pn := X.pn }
theorem U.blk {X : Cx} (u : U X) (s : Shared) (H : Hp) (scope : Scope) (cenv : Env) (fp : List Addr) : U (blkU X s H scope cenv fp) := u
theorem U.nox {X : Cx} (u : U X) : U X.nox := u
theorem ok_of_blk {X : Cx} {s : Shared} {H : Hp} {scope : Scope} {cenv : Env} {fp : List Addr} (o : (X.blk s H scope cenv fp).Ok) : (blkU X s H scope cenv fp).Ok :=
  ⟨o.mod, o.kind, o.glob, o.blt, o.above, o.inj, o.has, o.cab, o.hd, o.frames, o.stk, o.exf, o.bs, o.bsz, o.noex, o.exfs, o.funs, o.frf⟩
theorem blkU_start {X : Cx} {pins : List (Addr × Obj)} {σ : St} {H : Hp} {s : Shared} {scope : Scope} {own : List (Str × Nat)} {fp : List Addr} (I : Inv X pins σ H s) (ok : BlkOk X.N X.env.scope scope own) (hN : X.N.Nodup) (hfp : ∀ b ∈ fp, FpOk X pins H b ∧ b < s.heap.objs.size) :
    Inv (blkU X s H scope (compEnvC scope (cellsFrom (s.heap.objs.size + 1) scope.names (cloFrom X.env.cells scope.names [])) s.heap.objs.size X.env) fp) [] (wipe σ (own.map (·.2))) H { s with heap := pushCells (s.heap.push { cls := .type "dict", data := .dict #[] }) scope.names } := by
  have J := block_start I ok hN hfp
  refine ⟨ok_of_blk J.ok, J.os, J.bare, J.base, J.loc, J.cell, J.free, J.freeC, fun p hp => ?_, J.hok, J.len⟩
  have hp' : p ∈ X.pn ++ pins := by
    have z : p ∈ X.pn ++ ([] : List (Addr × Obj)) := hp
    rw [List.append_nil] at z
    exact List.mem_append_left _ z
  obtain ⟨g, f, nl, nf, nc⟩ := I.pin p hp'
  refine ⟨pushCells_keeps _ _ _ _ (Heap.get?_push_of_some _ g), f, Nat.ne_of_lt (Heap.lt_size g), fun hm => ?_, nc⟩
  rcases List.mem_cons.mp (I.stkSub p.1 hm) with z | z
  · exact nl z
  · exact nf z

section
variable {X : Cx}
theorem lcU_core {pins : List (Addr × Obj)} {s : Shared} {σ : St} {H : Hp} {Q : VK} {elt tg iter : Expr} {ifs : List Expr} {scope : Scope} {own : List (Str × Nat)} {pos pos' : Pos} {wi : TI} {g : TG} {tt : TT} {te : TE} {use : Option (Value → Sem Unit)} {Qf : Value → Shared → Prop}
    (u : U X) (hN : X.N.Nodup) (I : Inv X pins σ H s) (hi : PIU X tg iter wi) (ok : BlkOk X.N X.env.scope scope own)
    (hg : ∀ (s : Shared) (H : Hp) (C : Addr) (cl : List (Str × Addr)) (fp : List Addr), PG (blkU X s H scope (compEnvC scope cl C X.env) fp) tg g)
    (ht : ∀ (s : Shared) (H : Hp) (C : Addr) (cl : List (Str × Addr)) (fp : List Addr), PTs (blkU X s H scope (compEnvC scope cl C X.env) fp) ifs tt)
    (he : ∀ (s : Shared) (H : Hp) (C : Addr) (cl : List (Str × Addr)) (fp : List Addr), PE (blkU X s H scope (compEnvC scope cl C X.env) fp) elt te)
    (hs : ∀ x, foldedSetIterable iter X.env x = pure x) (h : tLcU wi g tt te (own.map (·.2)) σ H Q)
    (back : ∀ D C s' m H', Inv X pins σ H' s' → Q (.ref D) H' → s'.heap.Ns C m → FpOk X pins H' C → compPost (model X.prog X.w) X.A X.xe use Qf (.ref D) C (.ok .next) s') :
    wpAny (model X.prog X.w) X.A (comprehension (.ListComp elt [⟨tg, iter, ifs, 0⟩] scope pos) scope X.env pos' (newList []) false (eval iter X.env) use) Qf X.xe s := by
  have fr : ∀ y ∈ scope.names, y.2 = .free → ∃ c, X.env.cells.lookup y.1 = some c := fun y hy e => I.ok.has _ (ok.free y hy e)
  refine wpAny_comprehension_free (use := use) rfl hs (closure_ok fr) ok.kind (fun y hy e => by rw [ok.uniq y hy, e]) (thn (hi.run pins s σ H _ I h) fun xv s1 hx => thn hx fun itv s2 h2 => ?_)
  obtain ⟨it, fp, tn, J, H2, rfl, I2, T, st2, f2, q⟩ := h2
  refine wpAny_newObj_type (newEnv_comp ?_) (Nat.zero_le _)
  -- the new list, at D
  obtain ⟨D, hD⟩ : ∃ D, D = s2.heap.objs.size := ⟨_, rfl⟩
  have fD : H2 D = none := I2.hok.fresh (Nat.le_of_eq hD.symm)
  obtain ⟨W, ⟨m0, w0⟩, turn⟩ := q.h D fD
  rw [← hD]
  have I3 : Inv X pins σ (upd H2 D (.lst [])) { s2 with heap := s2.heap.push { cls := .type "list", data := .seq ([] : List Value).toArray } } :=
    I2.laid (t' := s2.toks) (fun b o e => Heap.get?_push_of_some _ e) (Nat.le_of_eq hD.symm) ⟨Nat.zero_le _, [], 0, .nil, by rw [hD]; exact Heap.get?_push_size _ rfl⟩
  have lt2 : ∀ b ∈ fp, b < s2.heap.objs.size := fun b hb => let ⟨o, e, _⟩ := T.obj _ _ st2 b hb; Heap.lt_size e
  have st3 : tn 0 (s2.heap.push { cls := .type "list", data := .seq ([] : List Value).toArray }) := T.keep _ _ _ st2 fun b _ o e => Heap.get?_push_of_some _ e
  have f3 : ∀ b ∈ fp, FpOk X pins (upd H2 D (.lst [])) b ∧ b < (s2.heap.push { cls := .type "list", data := .seq ([] : List Value).toArray }).objs.size := fun b hb =>
    ⟨⟨by rw [upd_ne (by rw [hD]; exact Nat.ne_of_lt (lt2 b hb))]; exact (f2 b hb).1, (f2 b hb).2⟩, by rw [Heap.size_push]; exact Nat.lt_succ_of_lt (lt2 b hb)⟩
  generalize e3 : ({ s2 with heap := s2.heap.push { cls := .type "list", data := .seq ([] : List Value).toArray } } : Shared) = s3 at I3
  have h3 : s3.heap = s2.heap.push { cls := .type "list", data := .seq ([] : List Value).toArray } := by rw [← e3]
  rw [← h3] at st3 f3
  have I4 := blkU_start I3 ok hN f3
  have pg := hg s3 (upd H2 D (.lst [])) s3.heap.objs.size (cellsFrom (s3.heap.objs.size + 1) scope.names (cloFrom X.env.cells scope.names [])) fp
  have pt := ht s3 (upd H2 D (.lst [])) s3.heap.objs.size (cellsFrom (s3.heap.objs.size + 1) scope.names (cloFrom X.env.cells scope.names [])) fp
  have pe := he s3 (upd H2 D (.lst [])) s3.heap.objs.size (cellsFrom (s3.heap.objs.size + 1) scope.names (cloFrom X.env.cells scope.names [])) fp
  have goal : codeAny (model X.prog X.w) X.A (.compStart (.ListComp elt [⟨tg, iter, ifs, 0⟩] scope pos) 0 (.ref it) (.ref D) (compEnvC scope (cellsFrom (s3.heap.objs.size + 1) scope.names (cloFrom X.env.cells scope.names [])) s3.heap.objs.size X.env))
      (compPost (model X.prog X.w) X.A X.xe use Qf (.ref D) s3.heap.objs.size) { s3 with heap := pushCells (s3.heap.push { cls := .type "dict", data := .dict #[] }) scope.names } := by
    have cL : (compEnvC scope (cellsFrom (s3.heap.objs.size + 1) scope.names (cloFrom X.env.cells scope.names [])) s3.heap.objs.size X.env).locals = s3.heap.objs.size := rfl
    generalize compEnvC scope (cellsFrom (s3.heap.objs.size + 1) scope.names (cloFrom X.env.cells scope.names [])) s3.heap.objs.size X.env = ce at I4 pg pt pe cL ⊢
    have n3 : ∀ b ∈ fp, (upd H2 D (.lst [])) b = none := fun b hb => (f3 b hb).1.1
    generalize upd H2 D (.lst []) = H3 at I3 I4 pg pt pe w0 n3 f3
    have st4 : tn 0 ({ s3 with heap := pushCells (s3.heap.push { cls := .type "dict", data := .dict #[] }) scope.names } : Shared).heap := T.keep _ _ _ st3 fun b _ o e => pushCells_keeps _ _ _ _ (Heap.get?_push_of_some _ e)
    generalize ({ s3 with heap := pushCells (s3.heap.push { cls := .type "dict", data := .dict #[] }) scope.names } : Shared) = s4 at I4 st4 ⊢
    obtain ⟨B, hB⟩ : ∃ B, B = blkU X s3 H3 scope ce fp := ⟨_, rfl⟩
    have uB : U B := hB ▸ u.blk s3 H3 scope ce fp
    have stat : ∀ {σ' : St} {H' : Hp} {s' : Shared}, Inv (blkU X s3 H3 scope ce fp) [] σ' H' s' → (∀ b ∈ fp, H' b = none) → ∀ b ∈ fp, FpOk (blkU X s3 H3 scope ce fp) [] H' b := fun {σ' H' s'} J' hn b hb =>
      ⟨hn b hb, (J'.ok.exf b hb).1, J'.ok.exfs b hb, .inl hb, fun x c e => (J'.ok.exf b hb).2 x c e, fun p hp => (f2 b hb).2.2.2.2.2 p (List.mem_append_left _ (by
        have z : p ∈ X.pn ++ ([] : List (Addr × Obj)) := hp
        rwa [List.append_nil] at z))⟩
    have loop : codeAny (model X.prog X.w) X.A (.compLoop (.ListComp elt [⟨tg, iter, ifs, 0⟩] scope pos) 0 (.ref it) (.ref D) ce) (compPost (model X.prog X.w) X.A X.xe use Qf (.ref D) s3.heap.objs.size) s4 := by
      refine compLoop_any (fun n s' => ∃ i H', Inv (blkU X s3 H3 scope ce fp) [] (wipe σ (own.map (·.2))) H' s' ∧ tn i s'.heap ∧ (∀ b ∈ fp, H' b = none) ∧ W i n H') ?_ m0 ⟨0, H3, I4, st4, n3, w0⟩
      intro n s5 ⟨i, H5, I5, st5, n5, w5⟩
      rcases turn i n H5 w5 with ⟨stop, qq⟩ | ⟨go, Nx, hNx, step⟩
      · refine thnF (T.done (blkU X s3 H3 scope ce fp) rfl rfl rfl rfl (u.blk _ _ _ _ _) i [] s5 _ H5 (fun _ _ => False) I5 (stat I5 n5) st5 stop) fun r s6 hr => ?_
        obtain ⟨rfl, I6⟩ := hr
        have I7 : Inv X pins σ H5 s6 := I3.call' (ch := fp) I6.os I6.base I6.hok I6.bare fun b hb => ⟨(f3 b hb).1.2.2.2.1, (f3 b hb).1.2.1, (f3 b hb).1.2.2.2.2.1, (f3 b hb).1.2.2.2.2.2⟩
        have nC : H5 ce.locals = none := I6.free
        obtain ⟨m, hn, _⟩ := I6.loc
        replace hn : s6.heap.Ns ce.locals m := hn
        rw [cL] at hn nC
        exact back D s3.heap.objs.size s6 m H5 I7 qq hn (I3.fpOk (Nat.le_refl _) nC)
      · refine thnF (T.item (blkU X s3 H3 scope ce fp) rfl rfl rfl rfl (u.blk _ _ _ _ _) i [] s5 _ H5 (fun _ _ => False) I5 (stat I5 n5) st5 go) fun r s6 hr => ?_
        obtain ⟨v, rfl, h6⟩ := hr
        refine thnF h6 fun _ s7 ⟨x, H7, I7, r7, y7, st7, n7⟩ => ?_
        refine thnF (pg.run _ s7 _ H7 x v _ (I7.pinned (stat I7 n7) (T.obj _ _ st7)) r7 (step x H7 y7)) fun _ s8 ⟨σ8, H8, I8, hw8, q8⟩ => ?_
        refine thnF (pt.run _ s8 σ8 H8 _ I8 q8) fun b s9 ⟨H9, I9, q9⟩ => ?_
        have again : ∀ {s' : Shared} {H' : Hp}, Inv (blkU X s3 H3 scope ce fp) ([] ++ pinsAt fp s7.heap) σ8 H' s' → Nx H' → ∃ m, m < n ∧ ∃ i H', Inv (blkU X s3 H3 scope ce fp) [] (wipe σ (own.map (·.2))) H' s' ∧ tn i s'.heap ∧ (∀ b ∈ fp, H' b = none) ∧ W i m H' := fun {s' H'} J' nx => by
          obtain ⟨m', hm, w'⟩ := hNx H' nx
          have kept : ∀ b ∈ fp, ∀ o, s7.heap.get? b = some o → s'.heap.get? b = some o ∧ H' b = none := fun b hb o e =>
            let z := J'.pin (b, o) (List.mem_append_right _ (List.mem_append_right _ (mem_pinsAt hb e)))
            ⟨z.1, z.2.1⟩
          have hl : (wipe σ (own.map (·.2))).length = σ8.length := by rw [← hw8, wipe_length]
          refine ⟨m', hm, i + 1, H', (J'.unpinned (pins := [])).weak hl (fun j z e => ?_), T.keep _ _ _ st7 fun b hb o e => (kept b hb o e).1, fun b hb => ?_, w'⟩
          · rw [← hw8] at e
            exact (wipe_some e).1
          · obtain ⟨o, e, _⟩ := T.obj _ _ st7 b hb
            exact (kept b hb o e).2
        cases b with
        | false =>
          simp only [Bool.false_eq_true, if_false] at q9 ⊢
          exact again I9 q9
        | true =>
          simp only [if_true] at q9 ⊢
          refine thnF (pe.run _ s9 σ8 H9 _ I9 q9) fun z s10 ⟨yv, H10, I10, r10, acc, hD10, hz10, nx⟩ => ?_
          exact app_ok (X := blkU X s3 H3 scope ce fp) I10 hD10 hz10 r10 fun s11 I11 => again I11 nx
    exact codeAny_compStart_list loop (T.self 0 _ _ _ st4 loop)
  exact e3 ▸ goal
theorem pe_lcU {elt tg iter : Expr} {ifs : List Expr} {scope : Scope} {own : List (Str × Nat)} {pos : Pos} {wi : TI} {g : TG} {tt : TT} {te : TE} (u : U X) (hN : X.N.Nodup) (hi : PIU X tg iter wi) (ok : BlkOk X.N X.env.scope scope own)
    (hg : ∀ (s : Shared) (H : Hp) (C : Addr) (cl : List (Str × Addr)) (fp : List Addr), PG (blkU X s H scope (compEnvC scope cl C X.env) fp) tg g)
    (ht : ∀ (s : Shared) (H : Hp) (C : Addr) (cl : List (Str × Addr)) (fp : List Addr), PTs (blkU X s H scope (compEnvC scope cl C X.env) fp) ifs tt)
    (he : ∀ (s : Shared) (H : Hp) (C : Addr) (cl : List (Str × Addr)) (fp : List Addr), PE (blkU X s H scope (compEnvC scope cl C X.env) fp) elt te)
    (hs : ∀ x, foldedSetIterable iter X.env x = pure x := by intro _; rfl) : PE X (.ListComp elt [⟨tg, iter, ifs, 0⟩] scope pos) (tLcU wi g tt te (own.map (·.2))) := by
  refine ⟨fun pins s σ H Q I h => ?_⟩
  rw [eval_ListComp]
  refine lcU_core u hN I hi ok hg ht he hs h fun D C s' m H' I' q hn f => ⟨m, hn, fun h2 sb => ?_⟩
  exact ⟨.ref D, H', I'.turned (t' := s'.toks) (fun b o hb e => (sb.2 b hb).trans e) f.1 f.2.1 f.2.2.2.1 f.2.2.2.2.1 f.2.2.2.2.2, rfl, q⟩
/-- name = [..] on one line, the name a local -/
theorem ps_setLcU {i : Nat} {y : Str} {py : Pos} {elt tg iter : Expr} {ifs : List Expr} {scope : Scope} {own : List (Str × Nat)} {pos spos : Pos} {wi : TI} {g : TG} {tt : TT} {te : TE} (u : U X) (hN : X.N.Nodup) (hy : X.N[i]? = some y) (hyl : X.env.scope.names.lookup y = some .local)
    (hsw : swapsWith (.ListComp elt [⟨tg, iter, ifs, 0⟩] scope pos) (some (.Name y py)) spos.line X.env = pure true) (hi : PIU X tg iter wi) (ok : BlkOk X.N X.env.scope scope own)
    (hg : ∀ (s : Shared) (H : Hp) (C : Addr) (cl : List (Str × Addr)) (fp : List Addr), PG (blkU X s H scope (compEnvC scope cl C X.env) fp) tg g)
    (ht : ∀ (s : Shared) (H : Hp) (C : Addr) (cl : List (Str × Addr)) (fp : List Addr), PTs (blkU X s H scope (compEnvC scope cl C X.env) fp) ifs tt)
    (he : ∀ (s : Shared) (H : Hp) (C : Addr) (cl : List (Str × Addr)) (fp : List Addr), PE (blkU X s H scope (compEnvC scope cl C X.env) fp) elt te)
    (hs : ∀ x, foldedSetIterable iter X.env x = pure x := by intro _; rfl) : PS X (.Assign [.Name y py] (.ListComp elt [⟨tg, iter, ifs, 0⟩] scope pos) spos) (tAsg (tLcU wi g tt te (own.map (·.2))) (gName i)) := by
  refine ⟨fun pins s σ H D I h => ?_⟩
  rw [exec_Assign_Name_used _ _ _ _ hsw]
  have h' : tLcU wi g tt te (own.map (·.2)) σ H (fun x H1 => gName i x σ H1 D.nx) := h
  refine wpAny_bind (wpAny_standAt (wpAny_bind (wpAny_bind (thn (lcU_core (use := some (assign (.Name y py) X.env)) (Qf := fun _ s' => SP X pins D .next s') u hN I hi ok hg ht he hs h' fun L C s1 m H1 I1 q hn f => ?_) fun _ s1 hq => wpAny_pure (wpAny_pure hq)))))
  refine wpAny_assign_Name (store_ok2 (v := V.ref L) I1 hN hy (.inl hyl) rfl (fun s2 I2 ⟨a, sb, ha⟩ => ?_) (.inr hyl))
  have aC : C ≠ a := ha.elim (fun z => z ▸ f.2.1) (fun z e => f.2.2.2.2.1 y a z e.symm)
  exact ⟨m, hn.sameBut sb aC, fun h3 sb3 => ⟨_, H1, I2.turned (t' := s2.toks) (fun b o hb e => (sb3.2 b hb).trans e) f.1 f.2.1 f.2.2.2.1 f.2.2.2.2.1 f.2.2.2.2.2, q⟩⟩
end
end K26

end PartA3

section PartA4
set_option maxRecDepth 100000
set_option maxHeartbeats 4000000
/-! A4: unpacking, all(..), calls of defs, making a Machine, its ==: in peace or within an except suite. -/
namespace K26
open PySem PySem.Spec PyProof.Rows HotX L2 L2H SlX
/-! ### unpacking -/
section
variable {prog : Program} {w : World} {A : Around} {E : Value → Shared → Prop} {s : Shared}
theorem unpackQ {t : Addr} {items : Array Value} {Q : List Value → Shared → Prop} (q : Quiet A s.heap) (ht : s.heap.IsTuple t items)
    (hQ : ∀ h' : Heap, (∀ b o, s.heap.get? b = some o → h'.get? b = some o) → Q items.toList { s with heap := h' }) : wpAny (model prog w) A (unpackItems (.ref t) items.size none) Q E s := by
  have hlt : t ≠ s.heap.objs.size := by obtain ⟨o, ho, _⟩ := ht; exact Nat.ne_of_lt (Heap.lt_size ho)
  have push : ∀ o' b o, s.heap.get? b = some o → (s.heap.push o').get? b = some o := fun _ b o z => Heap.get?_push_of_some _ z
  unfold unpackItems notIterableAtAll
  refine wpAny_bind (wpAny_bind (wpAny_specialOf ht.typeIs PySem.F.slot_tuple_iter.lookup (wpAny_pure ?_)))
  simp only [Bool.false_eq_true, if_false]
  refine wpAny_bind (wpAny_holding (wpAny_pyIter_tuple ht (wpAny_bind (wpAny_holding (wpAny_draw_tuple hlt items.size 0 _ _ ⟨_, Heap.get?_push_size _ rfl, rfl, rfl⟩ (ht.push _) (by omega) fun h1 hit1 hs1 => ?_)))))
  rw [List.drop_zero, List.take_of_length_le (by simp), if_neg (by simp)]
  have old : ∀ b o, s.heap.get? b = some o → h1.get? b = some o := fun b o z => (hs1.2 b (Nat.ne_of_lt (Heap.lt_size z))).trans (push _ b o z)
  have q1 : Quiet A h1 := q.keep fun b o z _ _ _ => old b o z
  have nh : ∀ x1, A.handled = some (.ref x1) → x1 ≠ s.heap.objs.size := fun x1 hx z => by
    rcases q with q | ⟨y, hy, o, _, e, _⟩
    · rw [q] at hx; cases hx
    · rw [hy] at hx
      have e2 : y = x1 := Value.ref.inj (Option.some.inj hx)
      exact absurd (Heap.lt_size e) (by rw [e2, z]; exact Nat.lt_irrefl _)
  refine wpAny_bind (wpAny_holding (pyNext_end (fun Q E h => callNext_tup_end (s := { s with heap := h1 }) q1 nh hit1 ((ht.push _).extBut hs1.extBut hlt) (by simp) h) fun h2 k2 => ?_))
  simp only [Option.isSome_none, Bool.false_eq_true, if_false]
  exact wpAny_pure (hQ h2 fun b o z => k2 b o (Nat.ne_of_lt (Heap.lt_size z)) (old b o z))
end
theorem pg_tupU {X : Cx} {es : List Expr} {k : Nat} {t : TGs} {n : Nat} {pos : Pos} (u : U X) (h : PGs X es t)
    (hn : (assignEach es X.env).length = n := by rfl) (hst : (assignEach es X.env).findIdx? (·.1) = none := by rfl) : PG X (.Tuple es k pos) (gTup X.K n t) := by
  refine ⟨fun pins s σ H v y Q I r ⟨a, xs, e1, hq, hl, hw⟩ => ?_⟩
  subst e1
  cases r
  obtain ⟨its, rv, ht, hz⟩ := I.tuple hq
  have ht' : s.heap.IsTuple a its.toArray := ht
  have hsz : (assignEach es X.env).length = its.toArray.size := by simp [hn, ← hl, rv.length]
  rw [PyProof.Rows.assign_Tuple]
  refine wpAny_bind (wpAny_standAt ?_)
  unfold unpack
  rw [hsz, hst]
  exact wpAny_bind (wpAny_holding (unpackQ (u.quiet I) ht' fun h' k => h.run pins _ σ H xs _ Q (I.kept (t' := s.toks) k) (by simpa using rv) hw))
/-! ### all(a list of truths) -/
theorem cr_allU {X : Cx} (u : U X) : CallR X (.builtin "all") (rAll X.K) := by
  intro pins s σ H vs us Q I r ⟨a, bs, e, hs, q⟩
  subst e
  obtain ⟨its, rv, hl, _⟩ := I.list hs
  rw [Vals.ref1 r]
  have hb := rv.bls
  refine call_all_walk (iter_any hl.isList fun s2 e2 st hne => ?_)
  subst e2
  have nh : s.heap.objs.size ∉ hotC X.A.in1 := fun z => Nat.lt_irrefl _ (u.below I _ z)
  have nq : Quiet X.A.in1 (s.heap.push { cls := .type "list_iterator", data := .fields #[.ref a, .int 0 0] }) := (u.quiet I).keep fun b o z _ _ _ => Heap.get?_push_of_some _ z
  refine ⟨_, _, _, _, _, _, _, rfl, walksQ (A := X.A.in1) s.heap.objs.size a hne nh its.toArray, ⟨st.1, st.2, nq⟩, truth_bools hb, fun h' tk hk => ?_⟩
  refine ⟨.bl _, H, I.kept fun b o eo => hk b o (fun hm => ?_) (Heap.get?_push_of_some _ eo), ?_, q⟩
  · exact absurd (Heap.lt_size eo) (by rw [List.mem_singleton.mp hm]; exact Nat.lt_irrefl _)
  · show Value.bool _ = Value.bool _
    rw [← L2.all_range, hb, List.size_toArray, List.length_map]

/-! ### defs that raise nothing -/
/-- a promise without exceptions -/
abbrev Sp0 := List V → Hp → VK → Prop
abbrev toSp (p : Sp0) : Sp := fun vs H Q _ => p vs H Q
structure FnU (P : Program) (w : World) (K : PySem.W.Frag) (mg : Str → Option Value) (base : Heap) (k : Nat) (f : Addr) (fd : FuncData) (ps : List Str) (sp : Sp0) : Prop where
  c : FnOk P w K mg base CX0 k f fd ps (toSp sp)
  h : FnH P w K mg base CX0 k f fd ps (toSp sp)
/-- in peace, or the handled exception is pinned -/
def HQ (A : Around) (outer : List Env) (H : Hp) (s : Shared) : Prop := A.handled = none ∨ ∃ p, Hot1 A p ∧ PinOk outer H s p
section
variable {X : Cx} {pins : List (Addr × Obj)} {σ : St} {H : Hp} {s : Shared} {k : Nat} {f C : Addr} {fd : FuncData} {ps : List Str} {sp : Sp0} {x : Str} {p pos : Pos} {e : Expr} {es : List Expr} {t : TA} {Q : VK} {us : List Value} {vs : List V}
theorem U.hq (u : U X) (I : Inv X pins σ H s) : HQ X.A X.stack H s := by
  rcases u with u | ⟨p, hot, hp⟩
  · exact .inl (I.ok.hd u)
  · have P1 := I.pin p (List.mem_append_left _ hp)
    exact .inr ⟨p, hot, P1.1, P1.2.1, fun hm => (List.mem_cons.mp (I.stkSub p.1 hm)).elim P1.2.2.1 P1.2.2.2.1, P1.2.2.2.2⟩
theorem FnU.go {P : Program} {w : World} {K : PySem.W.Frag} {mg : Str → Option Value} {base : Heap} (F : FnU P w K mg base k f fd ps sp) {A : Around} {outer : List Env} {s : Shared} {H : Hp} {args : Args} {us : List Value} {vs : List V} {Q : VK} (hr : RoomH k A) (q : HQ A outer H s)
    (e0 : Env0 P w K mg base A outer s H) (b : BindsTo s fd args (ps.zip us)) (r : Vals vs us) (h : sp vs H Q) : codeAny (model P w) A (.call (.ref f) args) (CR CX0 outer P w H s Q E0) s :=
  q.elim (fun z => F.c.run A outer s H args us vs Q E0 ⟨z, hr.dp, hr.un⟩ e0 b r h) fun ⟨p, h1, h2⟩ => F.h.run A outer s H args us vs Q E0 p hr h1 h2 e0 b r h
theorem run_U (u : U X) (F : FnU X.prog X.w X.K X.mg X.base k f fd ps sp) (hr : RoomH k X.A) (hb : Binds X.K fd ps []) (I : Inv X pins σ H s) (r : Vals vs us) (h : sp vs H Q) : codeAny (model X.prog X.w) X.A (.call (.ref f) ⟨us, []⟩)
    (fun r s' => match r with | .ok (.ret v) => EP X pins σ Q v s' | .ok _ => False | .error e => X.xe e s') s := by
  have hl : us.length = ps.length := by rw [← r.length]; exact F.c.len _ _ _ E0 h
  have b := hb s us I.kIn (by rw [List.append_nil]; exact hl)
  rw [List.append_nil] at b
  refine codeAny_mono (F.go hr (u.hq I) I.env0 b r h) fun r s' hq => ?_
  cases r with
  | error e => exact False.elim hq
  | ok fl =>
    cases fl with
    | ret v => exact I.after hq
    | next => exact False.elim hq
    | brk => exact False.elim hq
    | cont => exact False.elim hq
/-- a def of the module, by its name -/
structure DefU (P : Program) (w : World) (K : PySem.W.Frag) (mg : Str → Option Value) (base : Heap) (k : Nat) (x : Str) (ps : List Str) (sp : Sp0) : Prop where
  ex : ∃ f fd, FnU P w K mg base k f fd ps sp ∧ mg x = some (.ref f) ∧ PySem.W.keepIn K (.ref f) = true ∧ Binds K fd ps []
/-- .. that is called in peace alone -/
structure DefC (P : Program) (w : World) (K : PySem.W.Frag) (mg : Str → Option Value) (base : Heap) (k : Nat) (x : Str) (ps : List Str) (sp : Sp0) : Prop where
  ex : ∃ f fd, FnOk P w K mg base CX0 k f fd ps (toSp sp) ∧ mg x = some (.ref f) ∧ PySem.W.keepIn K (.ref f) = true ∧ Binds K fd ps []
theorem DefU.toC {P : Program} {w : World} {K : PySem.W.Frag} {mg : Str → Option Value} {base : Heap} (d : DefU P w K mg base k x ps sp) : DefC P w K mg base k x ps sp :=
  let ⟨f, fd, F, a⟩ := d.ex; ⟨f, fd, F.c, a⟩
def tCallU (sp : Sp0) (t : TA) : TE := fun σ H Q => t σ H fun vs H1 => sp vs H1 Q
theorem pe_callU (u : U X) (d : DefU X.prog X.w X.K X.mg X.base k x ps sp) (hr : RoomH k X.A) (ha : PA X (e :: es) t) (hg : Gl X x := by rfl) (hdb : (x == ("__debug__" : Str)) = false := by decide)
    (he : starEach (e :: es) X.env = (false, eval e X.env) :: starEach es X.env := by rfl) (hpl : (backTo pos (starEach es X.env)).any (·.1) = false := by rfl) : PE X (.Call (.Name x p) (e :: es) [] pos) (tCallU sp t) := by
  obtain ⟨f, fd, F, hm, hk, hb⟩ := d.ex
  refine ⟨fun pins s σ H Q I h => wpAny_Call_Name_kw (ld_glob I hg hm ?_ hdb)⟩
  exact PySem.W.callWith_K (h₀ := X.base) I.ok.mod.kin hk (thn (ha.run pos pins s σ H _ I h) fun us s1 ⟨vs, H1, I1, r, q⟩ => ⟨I1.kIn, wpAny_call (run_U u F hr hb I1 r q)⟩) he hpl
theorem pe_callC (d : DefC X.prog X.w X.K X.mg X.base k x ps sp) (hr : Room k X.A) (ha : PA X (e :: es) t) (hg : Gl X x := by rfl) (hdb : (x == ("__debug__" : Str)) = false := by decide)
    (he : starEach (e :: es) X.env = (false, eval e X.env) :: starEach es X.env := by rfl) (hpl : (backTo pos (starEach es X.env)).any (·.1) = false := by rfl) : PE X (.Call (.Name x p) (e :: es) [] pos) (tCallU sp t) := by
  obtain ⟨f, fd, F, hm, hk, hb⟩ := d.ex
  refine ⟨fun pins s σ H Q I h => wpAny_Call_Name_kw (ld_glob I hg hm ?_ hdb)⟩
  exact PySem.W.callWith_K (h₀ := X.base) I.ok.mod.kin hk (thn (ha.run pos pins s σ H _ I h) fun us s1 ⟨vs, H1, I1, r, q⟩ => ⟨I1.kIn, run_fn F hr hb .nil pass0 I1 r (by rw [List.append_nil]; exact q)⟩) he hpl
theorem pe_callC0 (d : DefC X.prog X.w X.K X.mg X.base k x ps sp) (hr : Room k X.A) (hg : Gl X x := by rfl) (hdb : (x == ("__debug__" : Str)) = false := by decide) : PE X (.Call (.Name x p) [] [] pos) (fun _ H Q => sp [] H Q) := by
  obtain ⟨f, fd, F, hm, hk, hb⟩ := d.ex
  refine ⟨fun pins s σ H Q I h => wpAny_Call_Name_kw (ld_glob I hg hm ?_ hdb)⟩
  exact PySem.W.callWith_K0 I.kIn hk (run_fn (vs := []) F hr hb .nil pass0 I .nil h)
/-! ### C(..) -/
def tMakeU (C : Addr) (sp : Sp0) (t : TA) : TE := fun σ H Q => t σ H fun vs H1 => ∀ x dx, H1 x = none → H1 dx = none → dx ≠ x → sp (.ref x :: vs) (upd (upd H1 dx (.own x)) x (.ins C dx [])) (fun v H2 => v = .non ∧ Q (.ref x) H2)
theorem HQ.made {A : Around} {outer : List Env} {H H' : Hp} {s s' : Shared} {c : Code} (q : HQ A outer H s) (k : ∀ b o, s.heap.get? b = some o → H b = none → s'.heap.get? b = some o ∧ H' b = none) : HQ (A.under c) outer H' s' :=
  q.elim .inl fun ⟨p, h1, h2⟩ => .inr ⟨p, h1, (k _ _ h2.get h2.free).1, (k _ _ h2.get h2.free).2, h2.nofs, h2.nocell⟩
theorem pe_makeU (u : U X) (M : Mk X.K C f) (F : FnU X.prog X.w X.K X.mg X.base k f fd ps sp) (hr : RoomH (k + 1) X.A) (hm : X.mg x = some (.ref C)) (hb : Binds X.K fd ps []) (ha : PA X (e :: es) t) (hg : Gl X x := by rfl)
    (hdb : (x == ("__debug__" : Str)) = false := by decide) (he : starEach (e :: es) X.env = (false, eval e X.env) :: starEach es X.env := by rfl) (hpl : (backTo pos (starEach es X.env)).any (·.1) = false := by rfl) : PE X (.Call (.Name x p) (e :: es) [] pos) (tMakeU C sp t) := by
  refine ⟨fun pins s0 σ H0 Q I0 h0 => wpAny_Call_Name_kw (ld_glob I0 hg hm ?_ hdb)⟩
  refine PySem.W.callWith_K (h₀ := X.base) I0.ok.mod.kin M.kp (thn (ha.run pos pins s0 σ H0 _ I0 h0) fun us s ⟨vs, H, I, r, h⟩ => ⟨I.kIn, ?_⟩) he hpl
  have n1 : H (s.heap.objs.size + 1) = none := I.hok.fresh (Nat.le_succ _)
  have n0 : H s.heap.objs.size = none := I.hok.fresh (Nat.le_refl _)
  have hq := h (s.heap.objs.size + 1) s.heap.objs.size n1 n0 (Nat.ne_of_lt (Nat.lt_succ_self _))
  have I2 := Inv.made (C := C) I
  have r2 : Vals (V.ref (s.heap.objs.size + 1) :: vs) (Value.ref (s.heap.objs.size + 1) :: us) := .cons rfl r
  have hl : (Value.ref (s.heap.objs.size + 1) :: us).length = ps.length := by rw [← r2.length]; exact F.c.len _ _ _ E0 hq
  have b := hb _ (Value.ref (s.heap.objs.size + 1) :: us) I2.kIn (by rw [List.append_nil]; exact hl)
  rw [List.append_nil] at b
  have hr' : RoomH k (X.A.under (.builtin "type.__call__" ⟨.ref C :: us, []⟩)) := ⟨by have := hr.dp; rw [make_depth]; omega, by have := hr.un; rw [make_units]; omega⟩
  have q2 : HQ (X.A.under (.builtin "type.__call__" ⟨.ref C :: us, []⟩)) X.stack (upd (upd H s.heap.objs.size (.own (s.heap.objs.size + 1))) (s.heap.objs.size + 1) (.ins C s.heap.objs.size [])) { s with heap := (s.heap.push PySem.W.emptyDict).push (PySem.W.instObj C s.heap.objs.size) } :=
    (u.hq I).made fun b o z1 z2 => ⟨Heap.get?_push_of_some _ (Heap.get?_push_of_some _ z1), by rw [upd_ne (Nat.ne_of_lt (Nat.lt_succ_of_lt (Heap.lt_size z1))), upd_ne (Nat.ne_of_lt (Heap.lt_size z1))]; exact z2⟩
  refine wpAny_call (make_map (f := f) I.kIn M.makes M.init (beq_iff_eq.mp M.fn) (codeAny_mono (F.go hr' q2 (I2.env0.make C us []) b r2 hq) fun r s' hq' => ?_))
  cases r with
  | error e => exact False.elim hq'
  | ok fl =>
    cases fl with
    | ret v =>
      obtain ⟨v', H', I3, rv, ev, q3⟩ := I2.after hq'
      subst ev
      exact ⟨rv, ⟨V.ref (s.heap.objs.size + 1), H', I3, rfl, q3⟩⟩
    | next => exact False.elim hq'
    | brk => exact False.elim hq'
    | cont => exact False.elim hq'
/-! ### x == y by the class's own def -/
def rOwnU (K : PySem.W.Frag) (C : Addr) (sp : Sp0) : R2 := fun x y H Q => ∃ a dx vs b C' dy ws, x = .ref a ∧ y = .ref b ∧ Slt H a C dx vs ∧ Slt H b C' dy ws ∧ PySem.W.notFirst K C (.ref C') = true ∧ sp [x, y] H Q
theorem op_ownU {g : Addr} {op : CmpOp} (u : U X) (hop : ∀ a b, compareOp op a b = richCompare op a b) (hs : PySem.W.findIn X.K (.ref C) (cmpInfo op).2.1 = some (some (.ref g))) (hf : PySem.W.isFn X.K (.ref g) = true)
    (F : FnU X.prog X.w X.K X.mg X.base k g fd ps sp) (hb : Binds X.K fd ps []) (hr : RoomH k X.A) : OpR X (compareOp op) (rOwnU X.K C sp) := by
  intro pins s σ H x y v w Q I rx ry ⟨a, dx, vs, b, C', dy, ws, e1, e2, ha, hb', hn, q⟩
  subst e1 e2
  cases (show v = Value.ref a from rx)
  cases (show w = Value.ref b from ry)
  obtain ⟨sl, od, _, J, _⟩ := slt_inst I ha
  obtain ⟨sl', od', _, J', _⟩ := slt_inst I hb'
  obtain ⟨m, hF⟩ := I.fr
  rw [hop]
  have h0 : X.A.units < cLine := by have := hr.un; omega
  refine PySem.W.cmp_K (op := op) (tb := .ref C') h0 hF I.ok.mod.kin J J'.type hn hs hf (wpAny_mono (wpAny_call (run_U (us := [.ref a, .ref b]) (vs := [.ref a, .ref b]) u F hr hb I (.cons rfl (.cons rfl .nil)) q)) (fun w2 s' z => ?_) fun _ _ z => z)
  obtain ⟨z', H', I', rz, qz⟩ := z
  exact cmpback rz ⟨z', H', I', rz, qz⟩
end
/-! ### the body of a def -/
def cxU (cm : Bool) (pn : List (Addr × Obj)) (P : Program) (w : World) (K : PySem.W.Frag) (mg : Str → Option Value) (base : Heap) (N : List Str) (qual : Str) (scope : Scope) (f : Addr) (cd : Value) (A : Around) (outer : List Env) (s : Shared) (H : Hp) : Cx :=
  { (cxOf CX0 P w K mg base N qual scope f cd A outer s H E0).nox with calm := cm, pn := pn }
abbrev envU (f : Addr) (qual : Str) (st : Stmt) (cd : Value) (s : Shared) : Env := envOfC qual (defScope st) s.heap.objs.size f cd
theorem okU {K : PySem.W.Frag} {P : Program} {w : World} {mg : Str → Option Value} {base : Heap} {x qual : Str} {st : Stmt} {f : Addr} {fd : FuncData} {N ps : List Str} {k : Nat} {sp : Sp0} (F : Fun K x qual st f fd) (S : FnScope N ps (defScope st)) (len : ∀ vs H Q, sp vs H Q → vs.length = ps.length)
    (hbody : ∀ (cm : Bool) (pn : List (Addr × Obj)) (cd : Value) (A : Around) (outer : List Env) (s : Shared) (H : Hp) (vs : List V) (Q : VK), U (cxU cm pn P w K mg base N qual (defScope st) f cd A outer s H) → RoomH k (A.deeper (envU f qual st cd s)) → sp vs H Q →
      ∃ t, PSs (cxU cm pn P w K mg base N qual (defScope st) f cd A outer s H) (defBody st) t ∧ t { nx := fun _ H' => Q .non H', rt := Q } (start N vs) H) : FnU P w K mg base (k + 1) f fd ps sp := by
  refine ⟨F.ok S (fun vs H Q _ h => len vs H Q h) fun cd A outer s H vs Q E hr h => hbody true [] cd A outer s H vs Q (.inl rfl) ⟨hr.dp, hr.un⟩ h, ?_⟩
  obtain ⟨oc, od, kV, doc, pm, an, cdv, ct, osl, rfl, lk, hcd⟩ := F.ex
  refine fn_ofH lk hcd S (fun vs H Q _ h => len vs H Q h) fun A outer s H vs Q E p hot hr h => ?_
  obtain ⟨t, ht, q⟩ := hbody false [p] cdv A outer s H vs Q (.inr ⟨p, hot, List.mem_singleton.mpr rfl⟩) hr h
  exact ⟨t, PSs.nox (X := cxH CX0 P w K mg base N qual (defScope st) f cdv A outer s H E p) ht, q⟩
end K26

end PartA4

section PartP0
set_option maxRecDepth 100000
/-! P0: the text by places. -/
namespace K26
open PySem L2
def top (i : Nat) : Stmt := PySem.Challenge.pw_anymargin_k26_whole_changed_machines.main.body.getD i (.Pass ⟨0, 0, 0, 0⟩)
abbrev sTm : Stmt := inClass (top 6) 0
abbrev sWhole : Stmt := top 8
abbrev sFrom : Stmt := top 9
abbrev sReqFrom : Stmt := top 10
abbrev sLimits : Stmt := top 18
abbrev sGuard : Stmt := top 19
abbrev sGuards : Stmt := top 20
abbrev sAsc : Stmt := top 21
abbrev sDoorIn : Stmt := top 22
abbrev sRoomsF : Stmt := top 23
abbrev sDoorsF : Stmt := top 24
abbrev sFault : Stmt := top 25
abbrev sInit : Stmt := inClass (top 26) 1
abbrev sPClocks : Stmt := inClass (top 26) 2
abbrev sPLimits : Stmt := inClass (top 26) 3
abbrev sPDoors : Stmt := inClass (top 26) 4
abbrev sEq : Stmt := inClass (top 26) 7
abbrev sKeeping : Stmt := top 27
abbrev sRound : Stmt := top 28
abbrev sFirst : Stmt := top 29
abbrev sLooseOf : Stmt := top 30
abbrev sWithoutIn : Stmt := top 31
abbrev sReqM : Stmt := top 32
abbrev sReqRoom : Stmt := top 33
abbrev sReqLot : Stmt := top 34
abbrev sLoose : Stmt := top 35
abbrev sWithDoor : Stmt := top 36
abbrev sWithout : Stmt := top 37
abbrev sWithLim : Stmt := top 38
abbrev sDice : Stmt := top 40
abbrev sRoll : Stmt := top 41
abbrev sPick : Stmt := top 42
abbrev sBase : Stmt := top 43
abbrev sMaGuard : Stmt := top 44
abbrev sMaLot : Stmt := top 45
abbrev sMaDoor : Stmt := top 46
abbrev sBent : Stmt := top 47
abbrev sMaDrawn : Stmt := top 48
abbrev sMmDrawn : Stmt := top 49
abbrev sIs : Stmt := top 50
abbrev sChanged : Stmt := top 51
abbrev sRight : Stmt := top 52
abbrev sLaw : Stmt := top 53
end K26

end PartP0

section PartE1
set_option maxRecDepth 100000
set_option maxHeartbeats 4000000
/-! E1: TooMany(limit): made (super().__init__ of OverflowError, then self.limit), raised. -/
namespace K26
open PySem PySem.W PySem.Calls PyProof.Rows
abbrev bmO : List Value := [.type "OverflowError", .type "ArithmeticError", .type "Exception", .type "BaseException", .type "object"]
/-- what the written part says of TooMany, at C, and of its __init__, at fI -/
structure TmTxt (prog : Program) (K : Frag) (mg : Str → Option Value) (C fI : Addr) : Prop where
  gC : mg "TooMany" = some (.ref C)
  kC : keepIn K (.ref C) = true
  q : excInitIn K C bmO "OverflowError.__new__" = true
  ov : excOver K C bmO = true
  sa : findIn K (.ref C) "__setattr__" = some (some (.builtin "object.__setattr__"))
  noN : takerIn K C "limit" = some none
  hd : hasDictIn K C = true
  iC : findIn K (.ref C) "__init__" = some (some (.ref fI))
  fnI : isFn K (.ref fI) = true
  su : ks_superIn K C C "__init__" = some (some (.builtin "OverflowError.__init__"))
  sB : subIn K (.ref C) (.type "OverflowError") = some true
  st : nsIn K cStatics "thirdparty.any" = some none
  exC : subIn K (.ref C) (.type "BaseException") = some true
  tyC : typeIn K (.ref C) = some (.type "type")
  ic : isClsIn K C = true
  mm : mroIn K C (.ref C) = some true
  nsup : mg "super" = none
  fn : ∃ (oc : Value) (od : Option Addr) (kV doc pm : Value) (an : Option Addr) (cda cc : Addr) (ct : Value) (osl : Array (Option Value)), K.lookup fI = some ⟨oc, od, .func (ksFn "__init__" "TooMany.__init__" (L2.defArgs sTm) (L2.defBody sTm) (L2.defScope sTm) .none kV doc pm an (.ref cda) ct cc), osl⟩ ∧
    codeIn K (.ref cda) "TooMany.__init__" = true ∧ (∃ ccl cdd vs ccs file tf, K.lookup cda = some ⟨ccl, cdd, .fields vs, ccs⟩ ∧ vs[2]? = some (.str file tf) ∧ ((prog.main.file : Str) == file) = true) ∧ ∃ cl cld csl, K.lookup cc = some ⟨cl, cld, .cell (some (.ref C)), csl⟩
  top : (prog.main.scope.names.lookup ("super" : Str)).isSome = false
/-- a made TooMany -/
structure TmMade (h h' : Heap) (e C d : Addr) (v : Value) : Prop where
  keep : ∀ b o, h.get? b = some o → h'.get? b = some o
  new : h.objs.size ≤ e
  obj : ∃ t, h'.get? e = some (excObj C t (some d) .none)
  dbig : h.objs.size ≤ d
  dne : d ≠ e
  ns : h'.Ns1 d (fun y => if y = "limit" then some v else none)
section
variable {prog : Program} {w : World} {A : Around} {R : Result → Shared → Prop} {s : Shared} {K : Frag} {mg : Str → Option Value} {C fI : Addr}
theorem tm_made (T : TmTxt prog K mg C fI) {v : Value} (X0 : K.In s.heap) (G : s.heap.Ns mainGlobals mg) (Bt : ∃ mb, s.heap.Ns builtinsNs mb ∧ ∀ x : Str, x ≠ "__name__" → mb x = bootBuiltins x) (hlim : s.heap.NoLimit) (hroom : A.depth + 1 < recursionLimit)
    (hq : ∀ h' tk e d, TmMade s.heap h' e C d v → R (.ok (.ret (.ref e))) { s with heap := h', toks := tk }) : codeAny (model prog w) A (.call (.ref C) ⟨[v], []⟩) R s := by
  obtain ⟨nm, N', qn, bs, bm, hdct, sn, sub, ab, col, dd, k0, k1, k2, k3, k5, hC, hT⟩ := excInit_of X0 T.q
  obtain ⟨oc, od, kV, doc, pm, an, cda, cc, ct, osl, ho, hcd, ⟨ccl, cdd, vs, ccs, file, tf, hcode, hvs, hfile⟩, cl, cld, csl, hcell⟩ := T.fn
  obtain ⟨oI, hoI, hcI⟩ : ∃ oI, s.heap.get? fI = some oI ∧ oI.cls = .type "function" := by
    obtain ⟨o, ho, hc⟩ := Option.map_eq_some_iff.mp (show (K.lookup fI).map (·.cls) = some (.type "function") from beq_iff_eq.mp T.fnI)
    exact ⟨o, X0 _ _ ho, hc⟩
  obtain ⟨mb, hmb, hbl⟩ := Bt
  obtain ⟨hp, g, dr, tk, os⟩ := s
  have up : ∀ b o, hp.get? b = some o → ((hp.push (kdv_tup [v])).push (excObj C hp.objs.size none .none)).get? b = some o := fun b o e => Heap.get?_push_of_some _ (Heap.get?_push_of_some _ e)
  have hsz : ((hp.push (kdv_tup [v])).push (excObj C hp.objs.size none .none)).objs.size = hp.objs.size + 2 := by rw [Heap.size_push, Heap.size_push]
  have hx0 : ((hp.push (kdv_tup [v])).push (excObj C hp.objs.size none .none)).get? (hp.objs.size + 1) = some (excObj C hp.objs.size none .none) := by
    have z := Heap.get?_push_size (hp.push (kdv_tup [v])) (o := excObj C hp.objs.size none .none) rfl
    rwa [Heap.size_push] at z
  refine PX.call_own PySem.F.excBase_OverflowError hT hC (looks_findIn X0 T.iC) (fun self => exc_bind hoI hcI self) (by show 1 ≤ sizeLine; decide) ?_
  refine ks_codeAny_call_defAt (fd := ksFn "__init__" "TooMany.__init__" (L2.defArgs sTm) (L2.defBody sTm) (L2.defScope sTm) .none kV doc pm an (.ref cda) ct cc) (body := L2.defBody sTm) (binds := [("self", .ref (hp.objs.size + 1)), ("limit", v)])
    (by show A.depth + 1 < recursionLimit; exact hroom) (up _ _ (X0 _ _ ho)) rfl (hlim.keeps up) (codeRec_of (X0.keeps up) hcd) rfl (BindsTo.of_eq (by first | rfl | with_unfolding_all rfl)) (by show ∀ y ∈ (L2.defScope sTm).names, y.2 ≠ .cell; decide +kernel)
    (fun y hy => by
      have hy' : y = (("self" : Str), Value.ref (hp.objs.size + 1)) ∨ y = (("limit" : Str), v) := by simpa using hy
      rcases hy' with rfl | rfl
      · show (L2.defScope sTm).names.lookup ("self" : Str) = some .local
        decide +kernel
      · show (L2.defScope sTm).names.lookup ("limit" : Str) = some .local
        decide +kernel) (fun h1 hns hk1 => ?_)
  dsimp only at hns hk1 ⊢
  rw [hsz] at hns ⊢
  obtain ⟨L, hL⟩ : ∃ L, L = hp.objs.size + 2 := ⟨_, rfl⟩
  obtain ⟨x, hx⟩ : ∃ x, x = hp.objs.size + 1 := ⟨_, rfl⟩
  rw [← hL] at hns ⊢
  rw [← hx] at hns hx0 ⊢
  have F1 : Fr hp L h1 (fun y => [(("self" : Str), Value.ref x), (("limit" : Str), v)].reverse.lookup y) := ⟨hns, fun b o e => hk1 b o (up b o e), by rw [hL]; exact Nat.le_add_right _ _⟩
  have xn : hp.get? x = none := by
    cases e : hp.get? x with
    | none => rfl
    | some o => exact absurd (Heap.lt_size e) (by rw [hx]; exact Nat.not_lt_of_le (Nat.le_succ _))
  have N1 : News hp L h1 [(x, excObj C hp.objs.size none .none)] := fun p hp' => by
    rw [List.mem_singleton.mp hp']
    exact ⟨hk1 _ _ hx0, by show x ≠ L; rw [hx, hL]; exact Nat.ne_of_lt (Nat.lt_succ_self _), xn⟩
  have X1 : K.In h1 := X0.keeps F1.keep
  obtain ⟨cdC, hcC⟩ : ∃ cd, clsIn K C = some cd := Option.isSome_iff_exists.mp T.ic
  obtain ⟨oD, hD1, hD2⟩ : ∃ oD, h1.get? C = some oD ∧ oD.data = .cls cdC := by
    unfold clsIn at hcC
    split at hcC
    · rename_i ho'
      cases hcC
      exact ⟨_, X1 _ _ ho', rfl⟩
    · cases hcC
  have I1 : InstAt h1 x (excObj C hp.objs.size none .none) C none := .of_exc0 N1 (by simp)
  -- super().__init__('a bound is exceeded')
  have lkL : ∀ y : Str, y = "self" ∨ y = "limit" → (L2.defScope sTm).names.lookup y = some .local := fun y hy => by
    rcases hy with rfl | rfl <;> decide +kernel
  have kindF : (L2.defScope sTm).kind = .function := by decide +kernel
  refine ks_wpAt_execs_cons (ks_wpAt_Expr_any (ks_wpAt_MethodCall (pl := _) (ks_wpAt_super_base (f := fI) (cc := cda) (fd := ksFn "__init__" "TooMany.__init__" (L2.defArgs sTm) (L2.defBody sTm) (L2.defScope sTm) .none kV doc pm an (.ref cda) ct cc)
    (show (L2.defScope sTm).names.lookup ("super" : Str) = some .globalImplicit by decide +kernel) (show (L2.defScope sTm).names.lookup ("__class__" : Str) = some .free by decide +kernel) (by decide +kernel) rfl (X1 _ _ ho) rfl rfl rfl (X1 _ _ hcode) rfl hvs hfile T.top ?_)))
  refine ks_loadName_global kindF (show (L2.defScope sTm).names.lookup ("super" : Str) = some .globalImplicit by decide +kernel) (loadGlobal_builtin (env := ksEnv "TooMany.__init__" (L2.defScope sTm) L fI (.ref cda) cc) (v := .type "super") (G.keeps F1.keep) T.nsup (hmb.keeps F1.keep) ((hbl _ (by decide +kernel)).trans (by decide +kernel)) ⟨rfl, ?_⟩)
  refine wpAny_loadName_free kindF (show (L2.defScope sTm).names.lookup ("__class__" : Str) = some .free by decide +kernel) rfl ⟨_, X1 _ _ hcell, rfl⟩ ?_
  refine wpAny_loadName_local kindF (lkL _ (.inl rfl)) F1.ns (v := .ref x) (by rfl) ?_
  refine ks_wpAny_isType_cls hD1 hD2 ⟨rfl, ?_⟩
  refine ks_wpAny_call_super hD1 hD2 I1.at_ I1.cls (fun c e => nomatch e) (looks_mroIn X1 T.mm) (fun h2 e2 k2 => ?_)
  obtain ⟨F2, N2, l2⟩ := ks_newsPush (s := ⟨h1, g, dr, tk + 2, os⟩) F1 N1 rfl e2 k2
  generalize h1.objs.size = so at e2 N2 l2 ⊢
  have I2 : InstAt h2 x (excObj C hp.objs.size none .none) C none := .of_exc0 N2 (by simp)
  refine kxs_method kxs_OverflowError F2 X0 N2 (by simp) I2 T.st T.su T.sB (by decide +kernel) fun q3 h3 F3 N3 l3 => ?_
  show wpAny _ _ _ _ _ ⟨h3, g, dr, _, os⟩
  refine kxs_callWith1 N3 (List.mem_cons_self) (spliced_cons (Constant_str (k := 0) (pos := ⟨19, 25, 19, 46⟩) (spliced_nil ⟨kxs_at N3 List.mem_cons_self, ?_⟩)))
  have nqx : q3 ≠ x := fun z => absurd (l3 (x, excObj C hp.objs.size none .none) (by simp)) (by rw [z]; exact Nat.lt_irrefl _)
  have nsx : so ≠ x := fun z => absurd (l2 (x, excObj C hp.objs.size none .none) (by simp)) (by rw [z]; exact Nat.lt_irrefl _)
  refine kxs_call F3 X0 N3 PySem.F.excBase_OverflowError T.q List.mem_cons_self (.tail nqx (.tail nsx (.head (fun _ z => nomatch z)))) (by show 1 ≤ sizeLine; decide) fun t' h4 F4 N4 l4 => ?_
  obtain ⟨tk4, e4⟩ : ∃ k : Nat, k = tk + 2 + 1 + 1 := ⟨_, rfl⟩
  -- self.limit = limit
  show PySem.wpAt (model prog w) _ _ (execs _ _) _ _ ⟨h4, g, dr, tk + 2 + 1 + 1, os⟩
  rw [← e4]
  have I4 : InstAt h4 x (excObj C t' none .none) C none := .of_exc0 N4 (by simp)
  have X4 : K.In h4 := X0.keeps F4.keep
  refine wpAt_of_wpAny (wpAny_execs_cons (plainObj_wpAny_Assign_Attribute (wpAny_Name (wpAny_loadName_local kindF (lkL _ (.inr rfl)) F4.ns (v := v) (by rfl) (wpAny_Name (wpAny_loadName_local kindF (lkL _ (.inl rfl)) F4.ns (v := .ref x) (by rfl) ?_) (by decide))) (by decide))))
  refine set_plain (od := none) X4 I4 T.sa (osa_openX PySem.F.store_OverflowError X4 I4 T.ov T.noN fun b => ?_)
  have hcls : Looks (model prog w) h4 (classData C) cdC := looks_clsIn X4 hcC
  have hdC : cdC.hasDict = true := by
    have z := T.hd
    unfold hasDictIn at z
    rw [hcC] at z
    exact z
  have hx4 := I4.at_
  have xs4 : x ≠ h4.objs.size := Nat.ne_of_lt (Heap.lt_size hx4)
  obtain ⟨cnm, cbs, cmro, cns, cqn, chd, csn, csb, cab, ccol, cdel⟩ := cdC
  dsimp only at hdC
  subst hdC
  have fin : ∀ h' tk' dx, (∀ b o, b ≠ x → h4.get? b = some o → h'.get? b = some o) → h4.objs.size ≤ dx → dx ≠ x → h'.get? x = some (excObj C t' (some dx) .none) → h'.Ns1 dx (fun y => if y = "limit" then some v else none) → R (.ok (.ret (.ref x))) ⟨h', g, dr, tk', os⟩ := fun h' tk' dx k1 hd1 hd2 hx1 hn1 => by
    have big : hp.objs.size ≤ h4.objs.size := Nat.le_trans F4.above (Nat.le_of_lt F4.ns.lt)
    refine hq h' tk' x dx ⟨fun b o e => k1 b o (fun z => by rw [z, xn] at e; cases e) (F4.keep b o e), by rw [hx]; exact Nat.le_succ _, ⟨t', hx1⟩, Nat.le_trans big hd1, hd2, hn1⟩
  unfold Builtin.ObjectAttr.storeInOwnDict Builtin.ObjectAttr.ownDictForStores
  repeat (first | with_reducible refine HandSPX.store_in_new ?_ ?_ | with_reducible refine wpAny_loadPart_at hx4 ?_ | with_reducible refine hcls.at ?_ | wp_step)
  · exact ⟨_, #[], _, (Heap.get?_update_ne _ _ _ _ xs4.symm).trans (Heap.get?_push_at rfl rfl), rfl, fun e he => absurd he (by simp), fun _ => rfl⟩
  · intro h' tk' hn' hs
    have hx5 : (h4.push { cls := .type "dict", data := .dict #[] }).get? x = some (excObj C t' none .none) := Heap.get?_push_of_some _ hx4
    have old : ∀ b o, b ≠ x → h4.get? b = some o → h'.get? b = some o := fun b o hb e =>
      (hs.2 b (Nat.ne_of_lt (Heap.lt_size e))).trans ((Heap.get?_update_ne _ _ _ _ hb).trans (Heap.get?_push_of_some _ e))
    have hx6 : h'.get? x = some (excObj C t' (some h4.objs.size) .none) := (hs.2 x xs4).trans (Heap.get?_update_self _ hx5 rfl)
    have z := fin h' tk' h4.objs.size old (Nat.le_refl _) xs4.symm hx6 hn'
    exact wpAny_execs_nil ⟨rfl, z⟩
end
end K26
namespace K26
open PySem PySem.Spec PyProof.Rows L2
section
variable {X : Cx} {C fI : Addr}
/-- TooMany(e) -/
def tMkTm (C : Addr) (ta : TA) : L2.St → Hp → XK → Prop := fun σ H Q => ta σ H fun vs H1 => ∃ v, vs = [v] ∧ ∀ d, H1 d = none → Q (.ref C) (some d) (upd H1 d (.xd [(("limit" : Str), v)]))
theorem relO_limit {v : V} {v' : Value} (r : RelV v v') (f : Str) : RelO (List.lookup f [(("limit" : Str), v)]) (if f = "limit" then some v' else none) := by
  by_cases hw : f = "limit"
  · rw [if_pos hw, hw]
    have q : List.lookup ("limit" : Str) [(("limit" : Str), v)] = some v := by simp [List.lookup]
    rw [q]
    exact r
  · rw [if_neg hw]
    have qw : (f == ("limit" : Str)) = false := by simpa using hw
    have q2 : List.lookup f [(("limit" : Str), v)] = none := by simp [List.lookup, qw]
    rw [q2]
    trivial
theorem pmk_tm {a : Expr} {ta : TA} {p pos : Pos} {k : Nat} (T : TmTxt X.prog X.K X.mg C fI) (hr : Room k X.A) (ha : PA X [a] ta) (hg : Gl X "TooMany" := by rfl)
    (he : starEach (a :: []) X.env = (false, eval a X.env) :: starEach [] X.env := by rfl) (hpl : (backTo pos (starEach [] X.env)).any (·.1) = false := by rfl) : L2N.PMk X (.Call (.Name "TooMany" p) [a] [] pos) (tMkTm C ta) := by
  intro pins s σ H Q I h
  refine wpAny_Call_Name_kw (ld_glob I hg T.gC ?_)
  refine PySem.W.callWith_K (h₀ := X.base) I.ok.mod.kin T.kC (thn (ha.run pos pins s σ H _ I h) fun us s1 hh => ?_) he hpl
  obtain ⟨vs, H1, I1, r1, v, rfl, q1⟩ := hh
  refine ⟨I1.kIn, ?_⟩
  cases r1 with
  | cons rv rn =>
    rename_i v' us'
    cases rn
    show wpAny _ _ (call (.ref C) [v']) _ _ _
    have hlim := I1.nolimit
    have G1 : s1.heap.Ns mainGlobals X.mg := I1.mod.glob.keeps I1.bk
    obtain ⟨mb, hb1, hb2⟩ := I1.mod.blt
    have B1 : ∃ mb, s1.heap.Ns builtinsNs mb ∧ ∀ x : Str, x ≠ "__name__" → mb x = bootBuiltins x := ⟨mb, hb1.keeps I1.bk, hb2⟩
    obtain ⟨hp, g, dr, tk, os⟩ := s1
    refine wpAny_call (tm_made T I1.kIn G1 B1 hlim (by have := hr.dp; omega) fun h' tk' e d M => ?_)
    show L2N.MkP X pins σ Q (.ref e) ⟨h', g, dr, tk', os⟩
    obtain ⟨t0, hoe⟩ := M.obj
    have hns := M.ns
    obtain ⟨G', g1, g2⟩ := restrict h' fun b => decide (b ≠ e)
    have gk : ∀ b, b ≠ e → G'.get? b = h'.get? b := fun b hb => g1 b (decide_eq_true hb)
    have ge : G'.get? e = none := g2 e (by simp)
    have old : ∀ b o, hp.get? b = some o → G'.get? b = some o := fun b o q => (gk b (Nat.ne_of_lt (Nat.lt_of_lt_of_le (Heap.lt_size q) M.new))).trans (M.keep b o q)
    have ob : ObjOk X.prog X.w (upd H1 d (.xd [(("limit" : Str), v)])) G' d (.xd [(("limit" : Str), v)]) := ⟨_, hns.at (fun o q => (gk d M.dne).trans q), fun f => relO_limit rv f⟩
    have J : Inv X pins σ (upd H1 d (.xd [(("limit" : Str), v)])) ⟨G', g, dr, tk', os⟩ := I1.laid (t' := tk') old M.dbig ob
    refine ⟨e, _, _, ⟨G', g, dr, tk', os⟩, _, .ref C, some d, rfl, J, fun b o q => ?_, ge, hoe, ⟨rfl, rfl, fun vs e => by cases e; rfl⟩, rfl, rfl, ?_, rfl, I1.bare, raises_own T.exC T.tyC, q1 d (I1.hok.fresh M.dbig)⟩
    · by_cases hb : b = e
      · have q' : G'.get? b = some o := q
        rw [hb, ge] at q'; cases q'
      · exact (gk b hb).symm.trans q
    · rw [upd_ne (Ne.symm M.dne)]
      exact I1.hok.fresh M.new
/-- raise TooMany(e) -/
def tRaiseTm (C : Addr) (W : WX) (ta : TA) : TS := fun _ σ H => tMkTm C ta σ H fun cls d H' => W cls d σ H'
theorem ps_raiseTm {a : Expr} {ta : TA} {W : WX} {p pos pos2 : Pos} {k : Nat} (hc : X.calm = true) (T : TmTxt X.prog X.K X.mg C fI) (hr : Room k X.A) (tk : L2N.Takes X W) (ha : PA X [a] ta) (hg : Gl X "TooMany" := by rfl)
    (he : starEach (a :: []) X.env = (false, eval a X.env) :: starEach [] X.env := by rfl) (hpl : (backTo pos (starEach [] X.env)).any (·.1) = false := by rfl) : PS X (.Raise (some (.Call (.Name "TooMany" p) [a] [] pos)) none pos2) (tRaiseTm C W ta) :=
  L2N.ps_raise hc tk (pmk_tm T hr ha hg he hpl)
end
end K26

end PartE1

section PartM0
set_option maxRecDepth 100000
set_option maxHeartbeats 4000000
/-! M0: heaps that grow, data, machines. -/
namespace K26
open PySem PySem.Spec PyProof.Rows L2
/-! ### heaps -/
def DiceAt (H : Hp) (d : Addr) : Prop := ∃ l s c : Int, H d = some (.lst [.int l, .int s, .int c])
def Ok (o : Option Addr) (H : Hp) : Prop := ∀ d, o = some d → DiceAt H d
/-- all stays but the dice -/
structure Ev (o : Option Addr) (H H' : Hp) : Prop where
  k : ∀ b u, H b = some u → o ≠ some b → H' b = some u
  a : Ok o H
  b : Ok o H'
variable {o : Option Addr} {H H' H'' : Hp} {K : PySem.W.Frag}
theorem Ok.nil : Ok none H := fun _ z => nomatch z
theorem Ok.at_ {d : Addr} (h : Ok (some d) H) : DiceAt H d := h d rfl
theorem Ev.refl (h : Ok o H) : Ev o H H := ⟨fun _ _ e _ => e, h, h⟩
theorem Ev.trans (x : Ev o H H') (y : Ev o H' H'') : Ev o H H'' := ⟨fun b u e n => y.k b u (x.k b u e n) n, x.a, y.b⟩
theorem Ev.lift (e : Ev none H H') (h : Ok o H) : Ev o H H' := ⟨fun b u q _ => e.k b u q (fun z => nomatch z), h, fun d hd => let ⟨l, s, c, q⟩ := h d hd; ⟨l, s, c, e.k _ _ q (fun z => nomatch z)⟩⟩
theorem Ev.new {p : Addr} {u : HO} (h : Ok o H) (hp : H p = none) : Ev o H (upd H p u) :=
  ⟨fun b w e _ => by rw [upd_ne (ne_of_none e hp)]; exact e, h, fun d hd => let ⟨l, s, c, q⟩ := h d hd; ⟨l, s, c, by rw [upd_ne (ne_of_none q hp)]; exact q⟩⟩
theorem Ev.then_new {p : Addr} {u : HO} (e : Ev o H H') (hp : H' p = none) : Ev o H (upd H' p u) := e.trans (.new e.b hp)
theorem Ev.free {p : Addr} (e : Ev o H H') (h : H' p = none) : H p = none := by
  cases q : H p with
  | none => rfl
  | some u =>
    by_cases z : o = some p
    · obtain ⟨l, s, c, w⟩ := e.b p z
      rw [h] at w
      cases w
    · rw [e.k p u q z] at h
      cases h
theorem Ev.at_ {b : Addr} {u : HO} (e : Ev o H H') (q : H b = some u) (hu : ∀ xs, u ≠ .lst xs) : H' b = some u := e.k b u q fun z => by
  obtain ⟨l, s, c, w⟩ := e.a b z
  rw [q] at w
  exact hu _ (Option.some.inj w)
/-- a list that is not the dice -/
theorem Ev.lst {b : Addr} {u : HO} (e : Ev o H H') (q : H b = some u) (n : o ≠ some b) : H' b = some u := e.k b u q n
theorem Ok.ne {p : Addr} (h : Ok o H) (hp : H p = none) : o ≠ some p := fun z => by
  obtain ⟨l, s, c, w⟩ := h p z
  rw [hp] at w
  cases w
theorem Ev.ne {p : Addr} (e : Ev o H H') (hp : H p = none) : o ≠ some p := e.a.ne hp
/-- a list that was laid anew is written -/
theorem Ev.put {p : Addr} {u : HO} (e : Ev o H H') (hp : H p = none) : Ev o H (upd H' p u) :=
  ⟨fun b w q n => by rw [upd_ne (ne_of_none q hp)]; exact e.k b w q n, e.a, fun d hd => let ⟨l, s, c, q⟩ := e.b d hd; ⟨l, s, c, by rw [upd_ne (fun z => e.ne hp (by rw [hd, z]))]; exact q⟩⟩
/-- tuples stay -/
def Tp (K : PySem.W.Frag) (H H' : Hp) : Prop := ∀ a xs, SqT K H a xs → SqT K H' a xs
theorem Ev.tp (e : Ev o H H') : Tp K H H' := fun _ _ q => by
  rcases q with (q | ⟨w, q⟩) | q
  · exact .inl (.inl (e.at_ q fun _ z => nomatch z))
  · exact .inl (.inr ⟨w, e.at_ q fun _ z => nomatch z⟩)
  · exact .inr q
theorem Tp.refl : Tp K H H := fun _ _ q => q
theorem Tp.put {p : Addr} {u : HO} (h : ∀ xs, H p ≠ some (.tup xs)) (h2 : ∀ w xs, H p ≠ some (.frz w (.tup xs))) : Tp K H (upd H p u) := fun a _ q => by
  have n : ∀ v, H a = some v → (∃ xs, v = .tup xs) ∨ (∃ w xs, v = .frz w (.tup xs)) → a ≠ p := fun v e1 e2 z => by
    subst z
    rcases e2 with ⟨xs, rfl⟩ | ⟨w, xs, rfl⟩
    · exact h _ e1
    · exact h2 _ _ e1
  rcases q with (q | ⟨w, q⟩) | q
  · exact .inl (.inl (by rw [upd_ne (n _ q (.inl ⟨_, rfl⟩))]; exact q))
  · exact .inl (.inr ⟨w, by rw [upd_ne (n _ q (.inr ⟨_, _, rfl⟩))]; exact q⟩)
  · exact .inr q
theorem Tp.new {p : Addr} {u : HO} (h : H p = none) : Tp K H (upd H p u) := .put (fun _ z => by rw [h] at z; cases z) (fun _ _ z => by rw [h] at z; cases z)
theorem Tp.lst {p : Addr} {u : HO} {xs : List V} (h : H p = some (.lst xs)) : Tp K H (upd H p u) := .put (fun _ z => by rw [h] at z; cases z) (fun _ _ z => by rw [h] at z; cases z)
/-! ### data -/
mutual
inductive At (K : PySem.W.Frag) (H : Hp) : V → PyData → Prop
  | int (i : Int) : At K H (.int i) (.int i)
  | tup {a : Addr} {xs : List V} {ds : List PyData} : SqT K H a xs → AtAll K H xs ds → At K H (.ref a) (.tuple ds)
inductive AtAll (K : PySem.W.Frag) (H : Hp) : List V → List PyData → Prop
  | nil : AtAll K H [] []
  | cons {v : V} {vs : List V} {d : PyData} {ds : List PyData} : At K H v d → AtAll K H vs ds → AtAll K H (v :: vs) (d :: ds)
end
mutual
theorem At.mono (t : Tp K H H') : ∀ {v : V} {d : PyData}, At K H v d → At K H' v d
  | _, _, .int i => .int i
  | _, _, .tup h a => .tup (t _ _ h) (AtAll.mono t a)
theorem AtAll.mono (t : Tp K H H') : ∀ {vs : List V} {ds : List PyData}, AtAll K H vs ds → AtAll K H' vs ds
  | _, _, .nil => .nil
  | _, _, .cons a r => .cons (At.mono t a) (AtAll.mono t r)
end
mutual
theorem At.dp : ∀ {v : V} {d : PyData}, At K H v d → Dp K H v d
  | _, _, .int i => .int i
  | _, _, .tup h a => .tup h (AtAll.dp a)
theorem AtAll.dp : ∀ {vs : List V} {ds : List PyData}, AtAll K H vs ds → DpAll K H vs ds
  | _, _, .nil => .nil
  | _, _, .cons a r => .cons (At.dp a) (AtAll.dp r)
end
theorem At.ev {v : V} {d : PyData} (h : At K H v d) (e : Ev o H H') : At K H' v d := h.mono e.tp
theorem AtAll.ev {v : List V} {d : List PyData} (h : AtAll K H v d) (e : Ev o H H') : AtAll K H' v d := h.mono e.tp
theorem At.int_inv {v : V} {n : Int} (h : At K H v (.int n)) : v = .int n := by cases h; rfl
theorem At.tup_inv {v : V} {ds : List PyData} (h : At K H v (.tuple ds)) : ∃ a xs, v = .ref a ∧ SqT K H a xs ∧ AtAll K H xs ds := by
  cases h with
  | tup h a => exact ⟨_, _, rfl, h, a⟩
theorem At.new {p : Addr} {xs : List V} {ds : List PyData} (hp : H p = none) (h : AtAll K H xs ds) : At K (upd H p (.tup xs)) (.ref p) (.tuple ds) := .tup (.of upd_same) (h.mono (.new hp))
theorem AtAll.length : ∀ {vs : List V} {ds : List PyData}, AtAll K H vs ds → vs.length = ds.length
  | _, _, .nil => rfl
  | _, _, .cons _ r => by rw [List.length_cons, List.length_cons, AtAll.length r]
theorem AtAll.get : ∀ {vs : List V} {ds : List PyData}, AtAll K H vs ds → ∀ (i : Nat) (v : V), vs[i]? = some v → ∃ d, ds[i]? = some d ∧ At K H v d
  | _, _, .nil, i, v, h => by simp at h
  | _, _, .cons a _, 0, v, h => by
    cases (show some _ = some v from h)
    exact ⟨_, rfl, a⟩
  | _, _, .cons _ r, i + 1, v, h => AtAll.get r i v h
theorem AtAll.get' : ∀ {vs : List V} {ds : List PyData}, AtAll K H vs ds → ∀ (i : Nat) (d : PyData), ds[i]? = some d → ∃ v, vs[i]? = some v ∧ At K H v d
  | _, _, .nil, i, v, h => by simp at h
  | _, _, .cons a _, 0, v, h => by
    cases (show some _ = some v from h)
    exact ⟨_, rfl, a⟩
  | _, _, .cons _ r, i + 1, v, h => AtAll.get' r i v h
theorem AtAll.one {v : V} {d : PyData} (h : At K H v d) : AtAll K H [v] [d] := .cons h .nil
theorem AtAll.append : ∀ {vs : List V} {ds : List PyData} {ws : List V} {es : List PyData}, AtAll K H vs ds → AtAll K H ws es → AtAll K H (vs ++ ws) (ds ++ es)
  | _, _, _, _, .nil, r => r
  | _, _, _, _, .cons a t, r => .cons a (AtAll.append t r)
theorem AtAll.take : ∀ {vs : List V} {ds : List PyData} (n : Nat), AtAll K H vs ds → AtAll K H (vs.take n) (ds.take n)
  | _, _, 0, _ => .nil
  | _, _, _ + 1, .nil => .nil
  | _, _, n + 1, .cons a t => .cons a (AtAll.take n t)
theorem AtAll.drop : ∀ {vs : List V} {ds : List PyData} (n : Nat), AtAll K H vs ds → AtAll K H (vs.drop n) (ds.drop n)
  | _, _, 0, h => h
  | _, _, _ + 1, .nil => .nil
  | _, _, n + 1, .cons _ t => AtAll.drop n t
theorem AtAll.set : ∀ {vs : List V} {ds : List PyData} {v : V} {d : PyData} (n : Nat), AtAll K H vs ds → At K H v d → AtAll K H (vs.set n v) (ds.set n d)
  | _, _, _, _, _, .nil, _ => .nil
  | _, _, _, _, 0, .cons _ t, h => .cons h t
  | _, _, _, _, n + 1, .cons a t, h => .cons a (AtAll.set n t h)
theorem AtAll.ints : ∀ (ns : List Int), AtAll K H (ns.map V.int) (ns.map PyData.int)
  | [] => .nil
  | n :: ns => .cons (.int n) (AtAll.ints ns)
theorem AtAll.ints_inv : ∀ {vs : List V} (ns : List Int), AtAll K H vs (ns.map PyData.int) → vs = ns.map V.int
  | _, [], .nil => rfl
  | _, n :: ns, .cons a t => by rw [At.int_inv a, AtAll.ints_inv ns t]; rfl
theorem AtAll.rep {v : V} {d : PyData} (h : At K H v d) : ∀ n, AtAll K H (List.replicate n v) (List.replicate n d)
  | 0 => .nil
  | n + 1 => .cons h (AtAll.rep h n)
/-- the depth -/
def Sh (k : Nat) (d : PyData) : Prop := d.canLay0 = true ∧ d.depth ≤ k
theorem sh_int {k : Nat} (n : Int) : Sh k (.int n) := ⟨rfl, Nat.zero_le _⟩
theorem sh_tup {k : Nat} {ds : List PyData} (h : ∀ d, d ∈ ds → Sh k d) : Sh (k + 1) (.tuple ds) := by
  have q : PyData.canLayAll0 ds = true ∧ PyData.depthAll ds ≤ k := by
    induction ds with
    | nil => exact ⟨rfl, Nat.zero_le _⟩
    | cons d ds ih =>
      have h1 := h d (by simp)
      have h2 := ih fun e he => h e (by simp [he])
      refine ⟨?_, ?_⟩
      · show (d.canLay0 && PyData.canLayAll0 ds) = true
        rw [h1.1, h2.1]; rfl
      · show max d.depth (PyData.depthAll ds) ≤ k
        exact Nat.max_le.mpr ⟨h1.2, h2.2⟩
  exact ⟨q.1, Nat.succ_le_succ q.2⟩
theorem Sh.shaped {k : Nat} {d : PyData} (h : Sh k d) (hk : k ≤ 64) : SeqAt.shaped d = true := by
  unfold SeqAt.shaped
  rw [h.1, decide_eq_true (Nat.le_trans h.2 hk)]; rfl
theorem Sh.refl {k : Nat} {d : PyData} (h : Sh k d) : PyData.eqv d d = true := SeqAt.eqv_refl d h.1
theorem Sh.mono {j k : Nat} {d : PyData} (h : Sh j d) (q : j ≤ k) : Sh k d := ⟨h.1, Nat.le_trans h.2 q⟩
/-! ### machines' data -/
abbrev Gd := Int × Int
structure Dr where
  src : Int
  gs : List Gd
  rs : List Int
  goal : Int
structure Mc where
  c : Int
  ls : List (List Int)
  ds : List Dr
def pI (ns : List Int) : PyData := .tuple (ns.map PyData.int)
def pG (g : Gd) : PyData := .tuple [.int g.1, .int g.2]
def pD (d : Dr) : PyData := .tuple [.int d.src, .tuple (d.gs.map pG), pI d.rs, .int d.goal]
def pL (ls : List (List Int)) : PyData := .tuple (ls.map pI)
def pDs (ds : List Dr) : PyData := .tuple (ds.map pD)
def pM (m : Mc) : PyData := .tuple [.int m.c, pL m.ls, pDs m.ds]
theorem sh_pI (ns : List Int) : Sh 1 (pI ns) := sh_tup fun d hd => by
  obtain ⟨n, _, rfl⟩ := List.mem_map.mp hd
  exact sh_int n
theorem sh_pG (g : Gd) : Sh 1 (pG g) := sh_tup fun d hd => by
  simp at hd
  rcases hd with rfl | rfl
  · exact sh_int _
  · exact sh_int _
theorem sh_pD (d : Dr) : Sh 3 (pD d) := sh_tup fun e he => by
  simp at he
  rcases he with rfl | rfl | rfl | rfl
  · exact sh_int _
  · exact sh_tup fun x hx => by
      obtain ⟨g, _, rfl⟩ := List.mem_map.mp hx
      exact sh_pG g
  · exact (sh_pI _).mono (by decide)
  · exact sh_int _
theorem sh_pL (ls : List (List Int)) : Sh 2 (pL ls) := sh_tup fun d hd => by
  obtain ⟨n, _, rfl⟩ := List.mem_map.mp hd
  exact sh_pI n
theorem sh_pDs (ds : List Dr) : Sh 4 (pDs ds) := sh_tup fun d hd => by
  obtain ⟨n, _, rfl⟩ := List.mem_map.mp hd
  exact sh_pD n
theorem sh_pM (m : Mc) : Sh 5 (pM m) := sh_tup fun d hd => by
  simp at hd
  rcases hd with rfl | rfl | rfl
  · exact sh_int _
  · exact (sh_pL _).mono (by decide)
  · exact sh_pDs _
def VG (g : Gd) : Prop := 0 ≤ g.1 ∧ g.1 ≤ g.2 ∧ g.2 ≤ 4
def VL (c : Int) (l : List Int) : Prop := (l.length : Int) = c ∧ ∀ n, n ∈ l → 0 ≤ n ∧ n ≤ 4
structure Asc (ns : List Int) (many : Int) : Prop where
  b : ∀ n, n ∈ ns → 0 ≤ n ∧ n ≤ many - 1
  lt : ∀ i x y, ns[i]? = some x → ns[i + 1]? = some y → x < y
structure VD (c r : Int) (d : Dr) : Prop where
  src : 0 ≤ d.src ∧ d.src ≤ r - 1
  gl : (d.gs.length : Int) = c
  gs : ∀ g, g ∈ d.gs → VG g
  rs : Asc d.rs c
  goal : 0 ≤ d.goal ∧ d.goal ≤ r - 1
structure VM (m : Mc) : Prop where
  c : 1 ≤ m.c ∧ m.c ≤ 3
  r : 1 ≤ m.ls.length ∧ m.ls.length ≤ 6
  ls : ∀ l, l ∈ m.ls → VL m.c l
  n : m.ds.length ≤ 12
  ds : ∀ d, d ∈ m.ds → VD m.c m.ls.length d
theorem Asc.len {ns : List Int} {many : Int} (h : Asc ns many) : ∀ (i : Nat) (x : Int), ns[i]? = some x → (i : Int) ≤ x := by
  intro i
  induction i with
  | zero => intro x hx; exact (h.b x (List.mem_of_getElem? hx)).1
  | succ i ih =>
    intro x hx
    have hi : i < ns.length := by have := (List.getElem?_eq_some_iff.mp hx).1; omega
    have := ih _ (List.getElem?_eq_getElem hi)
    have := h.lt i _ x (List.getElem?_eq_getElem hi) hx
    omega
theorem Asc.small {ns : List Int} {many : Int} (h : Asc ns many) : ns = [] ∨ (ns.length : Int) ≤ many := by
  cases e : ns.length with
  | zero => exact .inl (List.eq_nil_of_length_eq_zero e)
  | succ k =>
    have hk : k < ns.length := by omega
    have h1 := h.len k _ (List.getElem?_eq_getElem hk)
    have h2 := (h.b _ (List.getElem_mem hk)).2
    right
    omega
theorem Asc.nil (many : Int) : Asc [] many := ⟨fun _ h => (by cases h), fun _ _ _ h => by simp at h⟩
theorem SqT.ty {a : Addr} {xs : List V} (h : SqT K H a xs) : TyX K H (.ref a) (.type "tuple") := by
  rcases h with (q | ⟨w, q⟩) | ⟨o, its, n, q, c, _⟩
  · exact .base (.tup q)
  · exact .fTuple q
  · exact .kTuple q c
end K26

end PartM0

section PartM1
set_option maxRecDepth 100000
set_option maxHeartbeats 4000000
/-! M1: walks, comprehensions' readings, what the text has written, reading a machine's slots. -/
namespace K26
open PySem PySem.Spec PyProof.Rows L2 SlX
variable {o : Option Addr} {H H' H'' : Hp} {K : PySem.W.Frag}
theorem walk_tupU {a : Addr} {xs : List V} : Walk (ItT K a) xs.length (fun H => SqT K H a xs) (YAt xs) :=
  ⟨fun i _ hi q => ⟨xs, xs[i], q, by simp [hi]⟩, fun _ q => ⟨xs, q, rfl⟩, fun _ _ _ _ _ q y => ⟨y.1, y.2 xs q⟩⟩
theorem walk_enumU {a : Addr} {xs : List V} : Walk (IteT K a) xs.length (fun H => SqT K H a xs) (YPair (fun i => some (.int (i : Nat))) (fun i => xs[i]?)) := by
  refine ⟨fun i _ hi q => ⟨xs, xs[i], q, by simp [hi]⟩, fun _ q => ⟨xs, q, rfl⟩, fun i H v H' _ q y => ?_⟩
  obtain ⟨T, x, h1, h2, h3, h4⟩ := y
  exact ⟨T, .int (i : Nat), x, h1, h2, h3, rfl, h4 xs q⟩
theorem walk_zipU {a b : Addr} {xs ys : List V} {n : Nat} (hn : n = min xs.length ys.length) : Walk (ItzU K a b) n (fun H => SqT K H a xs ∧ SqT K H b ys) (YPair (fun i => xs[i]?) (fun i => ys[i]?)) := by
  subst hn
  refine ⟨fun i _ hi q => ?_, fun _ q => ⟨xs, ys, q.1, q.2, rfl⟩, fun i H v H' _ q y => ?_⟩
  · have h1 : i < xs.length := by omega
    have h2 : i < ys.length := by omega
    exact ⟨xs, ys, xs[i], ys[i], q.1, q.2, by simp [h1], by simp [h2]⟩
  · obtain ⟨T, x, z, h1, h2, h3, h4, h5⟩ := y
    exact ⟨T, x, z, h1, h2, h3, h4 xs q.1, h5 ys q.2⟩
/-- a comprehension: L tells what is gathered behind i turns -/
theorem lc_run {J : It} {n : Nat} {G : Hp → Prop} {Y : Nat → Hp → V → Hp → Prop} (w : Walk J n G Y) {g : TG} {tt : TT} {te : TE} {vs : List Nat} {σ : L2.St} {H1 : Hp} {Q : VK} (K : PySem.W.Frag) (o : Option Addr) (hk : Ok o H1) (hG : ∀ H, Ev o H1 H → G H)
    (L : Nat → List V → Hp → Prop) (h0 : L 0 [] H1) (hL : ∀ i acc H H', Tp K H H' → L i acc H → L i acc H') (hn : n ≤ 1000000)
    (hs : ∀ i x acc H H' (kt : V → Hp → Prop) (kf : Hp → Prop), i < n → Ev o H1 H → L i acc H → Y i H x H' → (∀ y H4, Ev o H H4 → L (i + 1) (acc ++ [y]) H4 → kt y H4) → (∀ H4, Ev o H H4 → L (i + 1) acc H4 → kf H4) →
      g x (wipe σ vs) H' fun σ2 H2 => wipe σ2 vs = wipe σ vs ∧ tt σ2 H2 fun b H3 => if b = true then te σ2 H3 kt else kf H3)
    (hd : ∀ D acc H, H1 D = none → H D = some (.lst acc) → acc.length ≤ n → Ev o H1 H → L n acc H → Q (.ref D) H) :
    LcRd J g tt te vs σ H1 Q := by
  refine ⟨fun D hD => ?_⟩
  refine lc_it w (Qd := fun H => Q (.ref D) H) (fun i H => ∃ acc, H D = some (.lst acc) ∧ acc.length ≤ i ∧ Ev o H1 H ∧ L i acc H) ⟨[], upd_same, Nat.zero_le _, .new hk hD, hL _ _ _ _ (.new hD) h0⟩ (fun i H _ ⟨_, _, _, e, _⟩ => hG H e) ?_ ?_
  · rintro i x H H' hi ⟨acc, hacc, hlen, ev, l⟩ y
    have hnD : o ≠ some D := ev.ne hD
    refine hs i x acc H H' _ _ hi ev l y (fun y H4 e4 l4 => ?_) (fun H4 e4 l4 => ?_)
    · have q := e4.lst hacc hnD
      refine ⟨acc, q, ?_, acc ++ [y], upd_same, by simp; omega, (ev.trans e4).put hD, hL _ _ _ _ (.lst q) l4⟩
      have z : (1000000 : Nat) < sizeLine := by decide
      omega
    · exact ⟨acc, e4.lst hacc hnD, by omega, ev.trans e4, l4⟩
  · rintro H ⟨acc, hacc, hlen, ev, l⟩
    exact hd D acc H hD hacc hlen ev l
/-- all([..]) where all are so -/
theorem lc_all {J : It} {n : Nat} {G : Hp → Prop} {Y : Nat → Hp → V → Hp → Prop} (w : Walk J n G Y) {g : TG} {te : TE} {vs : List Nat} {σ : L2.St} {H1 : Hp} {Q : VK} (K : PySem.W.Frag) (o : Option Addr) (hk : Ok o H1) (hG : ∀ H, Ev o H1 H → G H) (hn : n ≤ 1000000)
    (hs : ∀ i x H H' (kt : V → Hp → Prop), i < n → Ev o H1 H → Y i H x H' → (∀ H4, Ev o H H4 → kt (.bl true) H4) → g x (wipe σ vs) H' fun σ2 H2 => wipe σ2 vs = wipe σ vs ∧ te σ2 H2 kt)
    (hd : ∀ D H, SqL K H D ((List.replicate n true).map V.bl) → Ev o H1 H → Q (.ref D) H) :
    LcRd J g tYes te vs σ H1 Q := by
  refine lc_run w K o hk hG (fun i acc _ => acc = (List.replicate i true).map V.bl) rfl (fun _ _ _ _ _ h => h) hn ?_ ?_
  · rintro i x acc H H' kt kf hi ev rfl y k1 k2
    refine hs i x H H' kt hi ev y fun H4 e4 => k1 _ _ e4 ?_
    rw [List.replicate_succ', List.map_append]
    rfl
  · rintro D acc H hD hacc _ ev rfl
    exact hd D H (.of hacc) ev
theorem all_true (n : Nat) : (List.replicate n true).all id = true := by
  induction n with
  | zero => rfl
  | succ n ih => rw [List.replicate_succ]; exact ih
/-! ### readings that are not unfolded -/
structure Wr1 (r : List V → Hp → VK → Prop) (vs : List V) (H : Hp) (Q : VK) : Prop where
  h : r vs H Q
structure Wr2 (r : R2) (x y : V) (H : Hp) (Q : VK) : Prop where
  h : r x y H Q
structure WrE (t : TE) (σ : L2.St) (H : Hp) (Q : VK) : Prop where
  h : t σ H Q
structure WrS (r : V → Option Int → Option Int → Hp → VK → Prop) (v : V) (lo hi : Option Int) (H : Hp) (Q : VK) : Prop where
  h : r v lo hi H Q
structure WrG (g : TG) (v : V) (σ : L2.St) (H : Hp) (Q : L2.St → Hp → Prop) : Prop where
  h : g v σ H Q
section
variable {X : Cx}
theorem cr_wr {f : Value} {r : List V → Hp → VK → Prop} (h : CallR X f r) : CallR X f (Wr1 r) := fun pins s σ H xs us Q I rv q => h pins s σ H xs us Q I rv q.h
theorem or_wr {f : Value → Value → Sem Value} {r : R2} (h : OpR X f r) : OpR X f (Wr2 r) := fun pins s σ H x y v u Q I rx ry q => h pins s σ H x y v u Q I rx ry q.h
theorem ix_wr {r : R2} (h : IxR X r) : IxR X (Wr2 r) := fun e1 e2 pins s σ H x y v u Q I rx ry q => h e1 e2 pins s σ H x y v u Q I rx ry q.h
theorem pe_wr {e : Expr} {t : TE} (h : PE X e t) : PE X e (WrE t) := ⟨fun pins s σ H Q I q => h.run pins s σ H Q I q.h⟩
theorem sl_wr {r : V → Option Int → Option Int → Hp → VK → Prop} (h : SlR X r) : SlR X (WrS r) := fun pins s σ H x v vl vu lo hi sl Q I rx hs pl pu q => h pins s σ H x v vl vu lo hi sl Q I rx hs pl pu q.h
theorem pg_wr {e : Expr} {g : TG} (h : PG X e g) : PG X e (WrG g) := ⟨fun pins s σ H v y Q I r q => h.run pins s σ H v y Q I r q.h⟩
end
/-! ### what the text has written -/
structure Gs (mg : Str → Option Value) : Prop where
  isinstance : mg "isinstance" = none
  len : mg "len" = none
  all : mg "all" = none
  enumerate : mg "enumerate" = none
  zip : mg "zip" = none
  range : mg "range" = none
  int : mg "int" = none
  bool : mg "bool" = none
  tuple : mg "tuple" = none
  list : mg "list" = none
  abs : mg "abs" = none
  max : mg "max" = none
  min : mg "min" = none
  mClocks : ∃ t, mg "MOST_CLOCKS" = some (.int 3 t)
  mRooms : ∃ t, mg "MOST_ROOMS" = some (.int 6 t)
  mDoors : ∃ t, mg "MOST_DOORS" = some (.int 12 t)
  mNumber : ∃ t, mg "MOST_NUMBER" = some (.int 4 t)
  pair : ∃ t, mg "PAIR" = some (.int 2 t)
  dsize : ∃ t, mg "DOOR_SIZE" = some (.int 4 t)
structure MTxt (K : PySem.W.Frag) (mg : Str → Option Value) (C : Addr) : Prop where
  mgC : mg "Machine" = some (.ref C)
  cl : SCls K C
  si : SIsi K C
  k1 : PySem.W.kitOne K (.ref C) (.ref C) = some true
  nf : PySem.W.notFirst K C (.ref C) = true
  sc : ∃ p, Slot1 K C "own_clocks" p 0
  sd : ∃ p, Slot1 K C "own_doors" p 1
  sl : ∃ p, Slot1 K C "own_limits" p 2
theorem pe_const {X : Cx} {x : Str} {n : Int} {pos : Pos} (hg : Gl X x) (hm : ∃ t, X.mg x = some (.int n t)) (hd : (x == ("__debug__" : Str)) = false := by decide) : PE X (.Name x pos) (tC (.int n)) := by
  obtain ⟨t, ht⟩ := hm
  exact pe_glob hg ht ⟨t, rfl⟩ hd
/-! ### a machine -/
def MAt (K : PySem.W.Frag) (C : Addr) (H : Hp) (a : Addr) (m : Mc) : Prop := ∃ dx vL vD, Slt H a C dx [some (.int m.c), some vD, some vL] ∧ At K H vL (pL m.ls) ∧ At K H vD (pDs m.ds)
theorem slt_ev {a C dx : Addr} {v : Option V} {vs : List (Option V)} (h : Slt H a C dx (v :: vs)) (e : Ev o H H') : Slt H' a C dx (v :: vs) := by
  rcases h with ⟨_, h⟩ | ⟨h1, h2⟩
  · cases h
  · refine .inr ⟨e.at_ h1 fun xs z => ?_, e.at_ h2 fun xs z => by cases z⟩
    unfold SlO at z
    cases z
theorem MAt.ev {C a : Addr} {m : Mc} (h : MAt K C H a m) (e : Ev o H H') : MAt K C H' a m :=
  let ⟨dx, vL, vD, h1, h2, h3⟩ := h
  ⟨dx, vL, vD, slt_ev h1 e, h2.ev e, h3.ev e⟩
section
variable {mg : Str → Option Value} {C a : Addr} {m : Mc} {σ : L2.St} {i : Nat} {Q : VK}
theorem rd_clocks (T : MTxt K mg C) (h : MAt K C H a m) (hi : σ[i]? = some (some (.ref a))) (q : Q (.int m.c) H) : WrE (SlX.tSl K (tVar i) "own_clocks") σ H Q := by
  obtain ⟨dx, vL, vD, h1, h2, h3⟩ := h
  obtain ⟨p, s⟩ := T.sc
  exact ⟨⟨_, hi, a, C, dx, p, _, 0, _, rfl, h1, T.cl, s, rfl, q⟩⟩
theorem rd_limits (T : MTxt K mg C) (h : MAt K C H a m) (hi : σ[i]? = some (some (.ref a))) (q : ∀ v, At K H v (pL m.ls) → Q v H) : WrE (SlX.tSl K (tVar i) "own_limits") σ H Q := by
  obtain ⟨dx, vL, vD, h1, h2, h3⟩ := h
  obtain ⟨p, s⟩ := T.sl
  exact ⟨⟨_, hi, a, C, dx, p, _, 2, _, rfl, h1, T.cl, s, rfl, q _ h2⟩⟩
theorem rd_doors (T : MTxt K mg C) (h : MAt K C H a m) (hi : σ[i]? = some (some (.ref a))) (q : ∀ v, At K H v (pDs m.ds) → Q v H) : WrE (SlX.tSl K (tVar i) "own_doors") σ H Q := by
  obtain ⟨dx, vL, vD, h1, h2, h3⟩ := h
  obtain ⟨p, s⟩ := T.sd
  exact ⟨⟨_, hi, a, C, dx, p, _, 1, _, rfl, h1, T.cl, s, rfl, q _ h3⟩⟩
end
/-! ### readings that come often -/
/-- isinstance(x, T), x a tuple -/
theorem isi_tup {v : V} {ds : List PyData} {Q : VK} (h : At K H v (.tuple ds)) (q : Q (.bl true) H) : Wr1 (rIsi K) [v, .ty "tuple"] H Q := by
  obtain ⟨a, xs, rfl, h1, _⟩ := h.tup_inv
  exact ⟨⟨_, _, _, _, true, rfl, .ty _, SqT.ty h1, kit_ty (by decide +kernel), q⟩⟩
theorem isi_int {n : Int} {Q : VK} (q : Q (.bl true) H) : Wr1 (rIsi K) [.int n, .ty "int"] H Q := ⟨⟨_, _, _, _, true, rfl, .ty _, .base (.int n), kit_ty (by decide +kernel), q⟩⟩
theorem isi_intB {n : Int} {Q : VK} (q : Q (.bl false) H) : Wr1 (rIsi K) [.int n, .ty "bool"] H Q := ⟨⟨_, _, _, _, false, rfl, .ty _, .base (.int n), kit_ty (by decide +kernel), q⟩⟩
def rLen (K : PySem.W.Frag) : List V → Hp → VK → Prop := fun xs H Q => ∃ p ys, xs = [V.ref p] ∧ (SqL K H p ys ∨ SqT K H p ys) ∧ Q (.int (ys.length : Nat)) H
theorem len_tup {v : V} {ds : List PyData} {Q : VK} (h : At K H v (.tuple ds)) (q : Q (.int ds.length) H) : Wr1 (rLen K) [v] H Q := by
  obtain ⟨a, xs, rfl, h1, h2⟩ := h.tup_inv
  exact ⟨⟨a, xs, rfl, .inr h1, by rw [h2.length]; exact q⟩⟩
theorem all_rd {D : Addr} {n : Nat} {Q : VK} (hq : SqL K H D ((List.replicate n true).map V.bl)) (q : Q (.bl true) H) : Wr1 (rAll K) [.ref D] H Q := ⟨⟨D, _, rfl, hq, by rw [all_true]; exact q⟩⟩
/-- t[i] -/
theorem ix_at {v : V} {ds : List PyData} {d : PyData} {i : Int} {Q : VK} (j : Nat) (h : At K H v (.tuple ds)) (hj : i = j) (hd : ds[j]? = some d) (q : ∀ x, At K H x d → Q x H) : Wr2 (rIxT K) v (.int i) H Q := by
  obtain ⟨a, xs, rfl, h1, h2⟩ := h.tup_inv
  obtain ⟨x, e, hx⟩ := h2.get' j d hd
  exact ⟨⟨a, xs, i, x, rfl, rfl, h1, at_of (j := j) hj e, q x hx⟩⟩
section
variable {X : Cx}
theorem cIsi : CallR X (.builtin "isinstance") (Wr1 (rIsi X.K)) := cr_wr call_isi
theorem cLen : CallR X (.builtin "len") (Wr1 (rLen X.K)) := cr_wr call_len_seq
theorem cAll (u : U X) : CallR X (.builtin "all") (Wr1 (rAll X.K)) := cr_wr (cr_allU u)
theorem iTup : IxR X (Wr2 (rIxT X.K)) := ix_wr ix_tup
theorem oLe : OpR X (compareOp .LtE) (Wr2 (rI0 fun i j => .bl (decide (i ≤ j)))) := or_wr op_le
theorem oLt : OpR X (compareOp .Lt) (Wr2 (rI0 fun i j => .bl (decide (i < j)))) := or_wr op_lt
theorem oGt : OpR X (compareOp .Gt) (Wr2 (rI0 fun i j => .bl (decide (j < i)))) := or_wr op_gt
theorem oEq : OpR X (compareOp .Eq) (Wr2 rEq) := or_wr op_eq
theorem oNe : OpR X (compareOp .NotEq) (Wr2 rNe) := or_wr op_ne
theorem pg_pairU {e1 e2 : Expr} {i j k : Nat} {pos : Pos} (u : U X) (h1 : PG X e1 (gName i)) (h2 : PG X e2 (gName j)) (hn : (assignEach [e1, e2] X.env).length = 2 := by rfl) (hst : (assignEach [e1, e2] X.env).findIdx? (·.1) = none := by rfl)
    (he1 : (assignEach [e1, e2] X.env).map (·.2) = assign e1 X.env :: (assignEach [e2] X.env).map (·.2) := by rfl) (he2 : (assignEach [e2] X.env).map (·.2) = assign e2 X.env :: (assignEach [] X.env).map (·.2) := by rfl) : PG X (.Tuple [e1, e2] k pos) (WrG (gTup X.K 2 (gCons (gName i) (gCons (gName j) gNil)))) :=
  pg_wr (pg_tupU u (pgs_cons h1 (pgs_cons h2 pgs_nil he2) he1) hn hst)
end
end K26

end PartM1

section PartU1
set_option maxRecDepth 100000
set_option maxHeartbeats 4000000
/-! U1: is_whole .. is_door_in on valid data. -/
namespace K26
open PySem PySem.Spec PyProof.Rows L2 L2H
theorem q_dec {p : Prop} [Decidable p] {Q : VK} {H : Hp} (h : p) (q : Q (.bl true) H) : Q (.bl (decide p)) H := by rw [decide_eq_true h]; exact q
theorem q_decF {p : Prop} [Decidable p] {Q : VK} {H : Hp} (h : ¬ p) (q : Q (.bl false) H) : Q (.bl (decide p)) H := by rw [decide_eq_false h]; exact q
theorem le_rd {a b : Int} {Q : VK} {H : Hp} (h : a ≤ b) (q : Q (.bl true) H) : Wr2 (rI0 fun i j => .bl (decide (i ≤ j))) (.int a) (.int b) H Q := ⟨⟨a, b, rfl, rfl, q_dec h q⟩⟩
theorem lt_rd {a b : Int} {Q : VK} {H : Hp} (h : a < b) (q : Q (.bl true) H) : Wr2 (rI0 fun i j => .bl (decide (i < j))) (.int a) (.int b) H Q := ⟨⟨a, b, rfl, rfl, q_dec h q⟩⟩
theorem ne_rdF {a b : Int} {Q : VK} {H : Hp} (h : a = b) (q : Q (.bl false) H) : Wr2 rNe (.int a) (.int b) H Q := ⟨⟨rfl, by rw [h, decide_eq_true rfl]; exact q⟩⟩
theorem eq_rdT {a b : Int} {Q : VK} {H : Hp} (h : a = b) (q : Q (.bl true) H) : Wr2 rEq (.int a) (.int b) H Q := ⟨⟨rfl, by rw [h, decide_eq_true rfl]; exact q⟩⟩
theorem eq_rdF {a b : Int} {Q : VK} {H : Hp} (h : a ≠ b) (q : Q (.bl false) H) : Wr2 rEq (.int a) (.int b) H Q := ⟨⟨rfl, by rw [decide_eq_false (fun z => h (V.int.inj z))]; exact q⟩⟩
theorem rd_pair {K : PySem.W.Frag} {T : Addr} {x y : V} {i j : Nat} {σ : L2.St} {H : Hp} {Q : L2.St → Hp → Prop} (h : SqT K H T [x, y]) (q : Q ((σ.set i (some x)).set j (some y)) H) : WrG (gTup K 2 (gCons (gName i) (gCons (gName j) gNil))) (.ref T) σ H Q :=
  ⟨⟨T, _, rfl, h, rfl, x, _, rfl, y, _, rfl, rfl, q⟩⟩
variable {P : Program} {w : World} {K : PySem.W.Frag} {mg : Str → Option Value} {base : Heap} {f : Addr} {fd : FuncData}
theorem rh {j k : Nat} {A : Around} (r : RoomH k A) (h : j ≤ k) : RoomH j A := ⟨by have := r.dp; omega, by have := r.un; omega⟩
theorem Asc.short {ns : List Int} {c : Int} (h : Asc ns c) (hc : c ≤ 1000) : ns.length ≤ 1000 := by
  rcases h.small with z | z
  · rw [z]; exact Nat.zero_le _
  · omega
/-! ### promises -/
def spWhole : Sp0 := fun vs H Q => ∃ i : Int, vs = [.int i] ∧ Q (.bl true) H
def spFrom : Sp0 := fun vs H Q => ∃ i lo hi : Int, vs = [.int i, .int lo, .int hi] ∧ lo ≤ i ∧ i ≤ hi ∧ Q (.bl true) H
def spReqFrom : Sp0 := fun vs H Q => ∃ i lo hi : Int, vs = [.int i, .int lo, .int hi] ∧ lo ≤ i ∧ i ≤ hi ∧ Q .non H
def spLimits (K : PySem.W.Frag) : Sp0 := fun vs H Q => ∃ (c : Int) (l : List Int) (v : V), vs = [.int c, v] ∧ At K H v (pI l) ∧ VL c l ∧ l.length ≤ 1000 ∧ ∀ H', Ev none H H' → Q (.bl true) H'
def spGuard (K : PySem.W.Frag) : Sp0 := fun vs H Q => ∃ (g : Gd) (v : V), vs = [v] ∧ At K H v (pG g) ∧ VG g ∧ Q (.bl true) H
def spGuards (K : PySem.W.Frag) : Sp0 := fun vs H Q => ∃ (c : Int) (gs : List Gd) (v : V), vs = [.int c, v] ∧ At K H v (.tuple (gs.map pG)) ∧ (gs.length : Int) = c ∧ gs.length ≤ 1000 ∧ (∀ g, g ∈ gs → VG g) ∧ ∀ H', Ev none H H' → Q (.bl true) H'
def spAsc (K : PySem.W.Frag) : Sp0 := fun vs H Q => ∃ (c : Int) (ns : List Int) (v : V), vs = [v, .int c] ∧ At K H v (pI ns) ∧ Asc ns c ∧ ns.length ≤ 1000 ∧ ∀ H', Ev none H H' → Q (.bl true) H'
def spDoorIn (K : PySem.W.Frag) : Sp0 := fun vs H Q => ∃ (c r : Int) (d : Dr) (v : V), vs = [.int c, .int r, v] ∧ At K H v (pD d) ∧ VD c r d ∧ c ≤ 3 ∧ ∀ H', Ev none H H' → Q (.bl true) H'
/-! ### is_whole -/
theorem scWhole : FnScope ["value"] ["value"] (defScope sWhole) := ⟨rfl, rfl, rfl, by decide +kernel, rfl, by decide +kernel, by decide +kernel⟩
theorem ok_whole (F : Fun K "is_whole" "is_whole" sWhole f fd) (G : Gs mg) : FnU P w K mg base 1 f fd ["value"] spWhole := by
  refine okU F scWhole (fun vs H Q h => by obtain ⟨i, rfl, _⟩ := h; rfl) fun cm pn cd A outer s H vs Q u hr h => ?_
  obtain ⟨i, rfl, q⟩ := h
  refine ⟨_, pss_one (ps_ret (pe_and (pe_callB cIsi (by rfl) G.isinstance boot_isinstance (pa_cons (pv 0) (pa_cons (pe_bltn (v := .ty "int") rfl G.int boot_int rfl) pa_nil)))
    (pe_one (pe_not (pe_callB cIsi (by rfl) G.isinstance boot_isinstance (pa_cons (pv 0) (pa_cons (pe_bltn (v := .ty "bool") rfl G.bool boot_bool rfl) pa_nil))))))), ?_⟩
  exact ⟨_, rfl, isi_int ⟨true, rfl, iteT ⟨_, rfl, isi_intB ⟨false, rfl, q⟩⟩⟩⟩
/-! ### is_from -/
theorem scFrom : FnScope ["value", "least", "most"] ["value", "least", "most"] (defScope sFrom) := ⟨rfl, rfl, rfl, by decide +kernel, rfl, by decide +kernel, by decide +kernel⟩
theorem ok_from (F : Fun K "is_from" "is_from" sFrom f fd) (dW : DefU P w K mg base 1 "is_whole" ["value"] spWhole) : FnU P w K mg base 2 f fd ["value", "least", "most"] spFrom := by
  refine okU F scFrom (fun vs H Q h => by obtain ⟨i, lo, hi, rfl, _⟩ := h; rfl) fun cm pn cd A outer s H vs Q u hr h => ?_
  obtain ⟨i, lo, hi, rfl, h1, h2, q⟩ := h
  refine ⟨_, pss_one (ps_ret (pe_and (pe_callU u dW hr (pa_cons (pv 0) pa_nil)) (pe_one (pe_chain oLe oLe (pv 1) (pv 0) (pv 2))))), ?_⟩
  exact ⟨_, rfl, i, rfl, true, rfl, iteT ⟨_, rfl, _, rfl, le_rd h1 ⟨true, rfl, iteT ⟨_, rfl, le_rd h2 q⟩⟩⟩⟩
/-! ### require_from -/
theorem scReqFrom : FnScope ["value", "least", "most"] ["value", "least", "most"] (defScope sReqFrom) := ⟨rfl, rfl, rfl, by decide +kernel, rfl, by decide +kernel, by decide +kernel⟩
theorem ok_reqFrom (F : Fun K "require_from" "require_from" sReqFrom f fd) (dF : DefU P w K mg base 2 "is_from" ["value", "least", "most"] spFrom) : FnU P w K mg base 3 f fd ["value", "least", "most"] spReqFrom := by
  refine okU F scReqFrom (fun vs H Q h => by obtain ⟨i, lo, hi, rfl, _⟩ := h; rfl) fun cm pn cd A outer s H vs Q u hr h => ?_
  obtain ⟨i, lo, hi, rfl, h1, h2, q⟩ := h
  refine ⟨_, pss_one (ps_if (pt_not (pt_val (pe_callU u dF hr (pa_cons (pv 0) (pa_cons (pv 1) (pa_cons (pv 2) pa_nil)))))) pss_never pss_nil), ?_⟩
  exact ⟨_, rfl, _, rfl, _, rfl, i, lo, hi, rfl, h1, h2, true, rfl, iteF q⟩
/-! ### are_limits -/
theorem scLimits : FnScope ["clocks", "value", "number"] ["clocks", "value"] (defScope sLimits) := ⟨rfl, rfl, rfl, by decide +kernel, rfl, by decide +kernel, by decide +kernel⟩
theorem ok_limits (F : Fun K "are_limits" "are_limits" sLimits f fd) (G : Gs mg) (dF : DefU P w K mg base 2 "is_from" ["value", "least", "most"] spFrom) : FnU P w K mg base 3 f fd ["clocks", "value"] (spLimits K) := by
  refine okU F scLimits (fun vs H Q h => by obtain ⟨c, l, v, rfl, _⟩ := h; rfl) fun cm pn cd A outer s H vs Q u hr h => ?_
  obtain ⟨c, l, v, rfl, hv, hl, hn, q⟩ := h
  refine ⟨_, pss_cons (ps_if (PW.pt (pw_or (pt_not (pt_val (pe_callB cIsi (by rfl) G.isinstance boot_isinstance (pa_cons (pv 1) (pa_cons (pe_bltn (v := .ty "tuple") rfl G.tuple boot_tuple rfl) pa_nil)))))
      (pw_or1 (pt_cmpR oNe (pe_callB cLen (by rfl) G.len PySem.boot_len (pa_cons (pv 1) pa_nil)) (pv 0) (nomark _))))) pss_never pss_nil)
    (pss_one (ps_ret (pe_callB (cAll u) (by rfl) G.all boot_all (pa_cons (pe_lcU (own := [("number", 2)]) (g := gName 2) (tt := tYes) u scLimits.nd (piU_tup (pv 1)) (blkOk_by (N := ["clocks", "value", "number"]) (sc := defScope sLimits) (by decide +kernel))
      (fun _ _ _ _ _ => pg_name (i := 2) scLimits.nd rfl (Or.inl rfl)) (fun _ _ _ _ _ => pts_nil) (fun _ _ _ _ _ => pe_callU u dF hr (pa_cons (pv 2) (pa_cons pe_int (pa_cons (pe_const rfl G.mNumber) pa_nil))))) pa_nil)))), ?_⟩
  refine ⟨_, rfl, isi_tup hv ⟨true, rfl, iteF ⟨_, rfl, len_tup hv ⟨_, rfl, ne_rdF (by rw [List.length_map]; exact hl.1) ⟨false, rfl, iteF ?_⟩⟩⟩⟩⟩
  obtain ⟨a, xs, rfl, h1, h2⟩ := hv.tup_inv
  have e := h2.ints_inv
  subst e
  refine ⟨_, rfl, a, _, rfl, h1, lc_all walk_tupU K none .nil (fun H e => e.tp _ _ h1) (by rw [List.length_map]; omega) ?_ fun D H' hq ev => all_rd hq (q H' ev)⟩
  rintro i x H1 H2 kt hi ev ⟨rfl, hx⟩ k
  rw [List.getElem?_map] at hx
  obtain ⟨n, hn', rfl⟩ := Option.map_eq_some_iff.mp hx
  have b := hl.2 n (List.mem_of_getElem? hn')
  exact ⟨rfl, _, rfl, n, 0, 4, rfl, b.1, b.2, k _ (.refl .nil)⟩
/-! ### is_guard -/
theorem scGuard : FnScope ["value"] ["value"] (defScope sGuard) := ⟨rfl, rfl, rfl, by decide +kernel, rfl, by decide +kernel, by decide +kernel⟩
theorem ok_guard (F : Fun K "is_guard" "is_guard" sGuard f fd) (G : Gs mg) (dF : DefU P w K mg base 2 "is_from" ["value", "least", "most"] spFrom) : FnU P w K mg base 3 f fd ["value"] (spGuard K) := by
  refine okU F scGuard (fun vs H Q h => by obtain ⟨g, v, rfl, _⟩ := h; rfl) fun cm pn cd A outer s H vs Q u hr h => ?_
  obtain ⟨g, v, rfl, hv, hg, q⟩ := h
  refine ⟨_, pss_cons (ps_if (PW.pt (pw_or (pt_not (pt_val (pe_callB cIsi (by rfl) G.isinstance boot_isinstance (pa_cons (pv 0) (pa_cons (pe_bltn (v := .ty "tuple") rfl G.tuple boot_tuple rfl) pa_nil)))))
      (pw_or (pt_cmpR oNe (pe_callB cLen (by rfl) G.len PySem.boot_len (pa_cons (pv 0) pa_nil)) (pe_const rfl G.pair) (nomark _))
        (pw_or1 (pt_not (pt_val (pe_callU u dF hr (pa_cons (pe_ix iTup (pv 0) pe_int (fun _ _ => rfl)) (pa_cons pe_int (pa_cons (pe_const rfl G.mNumber) pa_nil)))))))))) pss_never pss_nil)
    (pss_one (ps_ret (pe_callU u dF hr (pa_cons (pe_ix iTup (pv 0) pe_int (fun _ _ => rfl)) (pa_cons (pe_ix iTup (pv 0) pe_int (fun _ _ => rfl)) (pa_cons (pe_const rfl G.mNumber) pa_nil)))))), ?_⟩
  refine ⟨_, rfl, isi_tup hv ⟨true, rfl, iteF ⟨_, rfl, len_tup hv (ne_rdF rfl ⟨false, rfl, iteF ⟨_, rfl, ix_at 0 hv rfl rfl fun x hx => ?_⟩⟩)⟩⟩⟩
  cases hx.int_inv
  refine ⟨_, _, _, rfl, hg.1, (by have := hg.2.1; have := hg.2.2; omega), true, rfl, iteF ⟨_, rfl, ix_at 1 hv rfl rfl fun x hx => ?_⟩⟩
  cases hx.int_inv
  refine ⟨_, rfl, ix_at 0 hv rfl rfl fun x hx => ?_⟩
  cases hx.int_inv
  exact ⟨_, _, _, rfl, hg.2.1, hg.2.2, q⟩
/-! ### are_guards -/
theorem scGuards : FnScope ["clocks", "value", "guard"] ["clocks", "value"] (defScope sGuards) := ⟨rfl, rfl, rfl, by decide +kernel, rfl, by decide +kernel, by decide +kernel⟩
theorem ok_guards (F : Fun K "are_guards" "are_guards" sGuards f fd) (G : Gs mg) (dG : DefU P w K mg base 3 "is_guard" ["value"] (spGuard K)) : FnU P w K mg base 4 f fd ["clocks", "value"] (spGuards K) := by
  refine okU F scGuards (fun vs H Q h => by obtain ⟨c, l, v, rfl, _⟩ := h; rfl) fun cm pn cd A outer s H vs Q u hr h => ?_
  obtain ⟨c, gs, v, rfl, hv, hl, hn, hg, q⟩ := h
  refine ⟨_, pss_one (ps_ret (pe_and (pe_callB cIsi (by rfl) G.isinstance boot_isinstance (pa_cons (pv 1) (pa_cons (pe_bltn (v := .ty "tuple") rfl G.tuple boot_tuple rfl) pa_nil)))
    (pe_and (pe_cmpR oEq (pe_callB cLen (by rfl) G.len PySem.boot_len (pa_cons (pv 1) pa_nil)) (pv 0) (nomark _))
      (pe_one (pe_callB (cAll u) (by rfl) G.all boot_all (pa_cons (pe_lcU (own := [("guard", 2)]) (g := gName 2) (tt := tYes) u scGuards.nd (piU_tup (pv 1)) (blkOk_by (N := ["clocks", "value", "guard"]) (sc := defScope sGuards) (by decide +kernel))
      (fun _ _ _ _ _ => pg_name (i := 2) scGuards.nd rfl (Or.inl rfl)) (fun _ _ _ _ _ => pts_nil) (fun _ _ _ _ _ => pe_callU u dG hr (pa_cons (pv 2) pa_nil))) pa_nil)))))), ?_⟩
  refine ⟨_, rfl, isi_tup hv ⟨true, rfl, iteT ⟨_, rfl, len_tup hv ⟨_, rfl, eq_rdT (by rw [List.length_map]; exact hl) ⟨true, rfl, iteT ?_⟩⟩⟩⟩⟩
  obtain ⟨a, xs, rfl, h1, h2⟩ := hv.tup_inv
  have hlen := h2.length
  rw [List.length_map] at hlen
  refine ⟨_, rfl, a, xs, rfl, h1, lc_all walk_tupU K none .nil (fun H e => e.tp _ _ h1) (by omega) ?_ fun D H' hq ev => all_rd hq (q H' ev)⟩
  rintro i x H1 H2 kt hi ev ⟨rfl, hx⟩ k
  obtain ⟨d, hd, hat⟩ := h2.get i x hx
  rw [List.getElem?_map] at hd
  obtain ⟨g, hg', rfl⟩ := Option.map_eq_some_iff.mp hd
  exact ⟨rfl, _, rfl, g, x, rfl, hat.ev ev, hg g (List.mem_of_getElem? hg'), k _ (.refl .nil)⟩
/-! ### is_ascending -/
/-- t[1:] -/
theorem sl_from1 {v : V} {ds : List PyData} {H : Hp} {Q : VK} (h : At K H v (.tuple ds)) (q : ∀ x H', Ev none H H' → At K H' x (.tuple (ds.drop 1)) → Q x H') : WrS (rSlA K) v (some 1) none H Q := by
  obtain ⟨a, xs, rfl, h1, h2⟩ := h.tup_inv
  refine ⟨⟨a, xs, rfl, h1, fun z => ?_, fun z p hp => ?_⟩⟩
  · have e : min 1 xs.length = 0 := (HT.sIx_nat xs.length 0 1).symm.trans z.1
    have e2 : xs = [] := List.eq_nil_of_length_eq_zero (by omega)
    subst e2
    cases h2
    exact q _ _ (.refl .nil) (.tup h1 .nil)
  · have e : cutV xs (some 1) none = xs.drop 1 := by
      unfold cutV
      have e1 : HT.sIx xs.length 0 (some 1) = min 1 xs.length := HT.sIx_nat xs.length 0 1
      rw [e1, HT.sIx_none]
      by_cases hz : xs.length = 0
      · rw [List.eq_nil_of_length_eq_zero hz]; rfl
      · rw [show min 1 xs.length = 1 by omega]
        exact List.take_of_length_le (by rw [List.length_drop]; exact Nat.le_refl _)
    rw [e]
    exact q _ _ (.new .nil hp) (.new hp (h2.drop 1))
theorem scAsc : FnScope ["value", "many", "one", "other"] ["value", "many"] (defScope sAsc) := ⟨rfl, rfl, rfl, by decide +kernel, rfl, by decide +kernel, by decide +kernel⟩
theorem ok_asc (F : Fun K "is_ascending" "is_ascending" sAsc f fd) (G : Gs mg) (dF : DefU P w K mg base 2 "is_from" ["value", "least", "most"] spFrom) : FnU P w K mg base 3 f fd ["value", "many"] (spAsc K) := by
  refine okU F scAsc (fun vs H Q h => by obtain ⟨c, l, v, rfl, _⟩ := h; rfl) fun cm pn cd A outer s H vs Q u hr h => ?_
  obtain ⟨c, ns, v, rfl, hv, hl, hn, q⟩ := h
  refine ⟨_, pss_cons (ps_if (PW.pt (pw_or (pt_not (pt_val (pe_callB cIsi (by rfl) G.isinstance boot_isinstance (pa_cons (pv 0) (pa_cons (pe_bltn (v := .ty "tuple") rfl G.tuple boot_tuple rfl) pa_nil)))))
      (pw_or1 (pt_not (pt_val (pe_callB (cAll u) (by rfl) G.all boot_all (pa_cons (pe_lcU (own := [("one", 2)]) (g := gName 2) (tt := tYes) u scAsc.nd (piU_tup (pv 0)) (blkOk_by (N := ["value", "many", "one", "other"]) (sc := defScope sAsc) (by decide +kernel))
      (fun _ _ _ _ _ => pg_name (i := 2) scAsc.nd rfl (Or.inl rfl)) (fun _ _ _ _ _ => pts_nil) (fun _ _ _ _ _ => pe_callU u dF hr (pa_cons (pv 2) (pa_cons pe_int (pa_cons (pe_op op_sub (pv 1) pe_int) pa_nil))))) pa_nil))))))) pss_never pss_nil)
    (pss_one (ps_ret (pe_callB (cAll u) (by rfl) G.all boot_all (pa_cons (pe_lcU (own := [("one", 2), ("other", 3)]) (g := WrG (gTup K 2 (gCons (gName 2) (gCons (gName 3) gNil)))) (tt := tYes) u scAsc.nd
      (piU_zip u (by rfl) G.zip (pa_cons (pv 0) (pa_cons (pe_slice (sl_wr sl_tupA) (pv 0) (po_some pe_int) po_none) pa_nil))) (blkOk_by (N := ["value", "many", "one", "other"]) (sc := defScope sAsc) (by decide +kernel))
      (fun _ _ _ _ _ => pg_pairU u (pg_name (i := 2) scAsc.nd rfl (Or.inl rfl)) (pg_name (i := 3) scAsc.nd rfl (Or.inl rfl))) (fun _ _ _ _ _ => pts_nil) (fun _ _ _ _ _ => pe_cmpR oLt (pv 2) (pv 3) (nomark _))) pa_nil)))), ?_⟩
  refine ⟨_, rfl, isi_tup hv ⟨true, rfl, iteF ?_⟩⟩
  obtain ⟨a, xs, rfl, h1, h2⟩ := hv.tup_inv
  have e := h2.ints_inv
  subst e
  refine ⟨_, rfl, a, _, rfl, h1, lc_all walk_tupU K none .nil (fun H e => e.tp _ _ h1) (by rw [List.length_map]; omega) ?_ fun D H' hq ev => all_rd hq ⟨true, rfl, iteF ?_⟩⟩
  · rintro i x H1 H2 kt hi ev ⟨rfl, hx⟩ k
    rw [List.getElem?_map] at hx
    obtain ⟨n, hn', rfl⟩ := Option.map_eq_some_iff.mp hx
    have b := hl.b n (List.mem_of_getElem? hn')
    exact ⟨rfl, _, rfl, _, rfl, _, _, rfl, rfl, n, 0, _, rfl, b.1, b.2, k _ (.refl .nil)⟩
  · refine ⟨_, rfl, _, rfl, _, rfl, sl_from1 (hv.ev ev) fun x H2 ev2 hx => ?_⟩
    have ev3 := ev.trans ev2
    obtain ⟨b, ys, rfl, h3, h4⟩ := hx.tup_inv
    rw [List.drop_one, ← List.map_tail] at h4
    have e4 := h4.ints_inv
    subst e4
    refine ⟨a, b, _, _, rfl, ev3.tp _ _ h1, h3, lc_all (walk_zipU rfl) K none .nil (fun H e => ⟨e.tp _ _ (ev3.tp _ _ h1), e.tp _ _ h3⟩) (by rw [List.length_map, List.length_map, List.length_tail]; omega) ?_ fun D H' hq ev => all_rd hq (q H' (ev3.trans ev))⟩
    rintro i x H1 H2 kt hi ev ⟨T, x, y, rfl, hT, rfl, hx, hy⟩ k
    replace hx : (ns.map V.int)[i]? = some x := hx
    replace hy : (ns.tail.map V.int)[i]? = some y := hy
    rw [List.getElem?_map] at hx hy
    obtain ⟨n, hn1, rfl⟩ := Option.map_eq_some_iff.mp hx
    obtain ⟨m, hm1, rfl⟩ := Option.map_eq_some_iff.mp hy
    rw [List.getElem?_tail] at hm1
    exact rd_pair (.of upd_same) ⟨rfl, _, rfl, _, rfl, lt_rd (hl.lt i n m hn1 hm1) (k _ (.new .nil hT))⟩
/-! ### is_door_in -/
theorem scDoorIn : FnScope ["clocks", "rooms", "value"] ["clocks", "rooms", "value"] (defScope sDoorIn) := ⟨rfl, rfl, rfl, by decide +kernel, rfl, by decide +kernel, by decide +kernel⟩
theorem ok_doorIn (F : Fun K "is_door_in" "is_door_in" sDoorIn f fd) (G : Gs mg) (dF : DefU P w K mg base 2 "is_from" ["value", "least", "most"] spFrom) (dGs : DefU P w K mg base 4 "are_guards" ["clocks", "value"] (spGuards K))
    (dA : DefU P w K mg base 3 "is_ascending" ["value", "many"] (spAsc K)) : FnU P w K mg base 5 f fd ["clocks", "rooms", "value"] (spDoorIn K) := by
  refine okU F scDoorIn (fun vs H Q h => by obtain ⟨c, r, d, v, rfl, _⟩ := h; rfl) fun cm pn cd A outer s H vs Q u hr h => ?_
  obtain ⟨c, r, d, v, rfl, hv, hd, hc, q⟩ := h
  have hrF := rh hr (show 2 ≤ 4 by decide)
  have hrA := rh hr (show 3 ≤ 4 by decide)
  refine ⟨_, pss_cons (ps_if (PW.pt (pw_or (pt_not (pt_val (pe_callB cIsi (by rfl) G.isinstance boot_isinstance (pa_cons (pv 2) (pa_cons (pe_bltn (v := .ty "tuple") rfl G.tuple boot_tuple rfl) pa_nil)))))
      (pw_or (pt_cmpR oNe (pe_callB cLen (by rfl) G.len PySem.boot_len (pa_cons (pv 2) pa_nil)) (pe_const rfl G.dsize) (nomark _))
        (pw_or1 (pt_not (pt_val (pe_callU u dF hrF (pa_cons (pe_ix iTup (pv 2) pe_int (fun _ _ => rfl)) (pa_cons pe_int (pa_cons (pe_op op_sub (pv 1) pe_int) pa_nil)))))))))) pss_never pss_nil)
    (pss_cons (ps_if (PW.pt (pw_or (pt_not (pt_val (pe_callU u dGs hr (pa_cons (pv 0) (pa_cons (pe_ix iTup (pv 2) pe_int (fun _ _ => rfl)) pa_nil)))))
      (pw_or1 (pt_not (pt_val (pe_callU u dA hrA (pa_cons (pe_ix iTup (pv 2) pe_int (fun _ _ => rfl)) (pa_cons (pv 0) pa_nil)))))))) pss_never pss_nil)
    (pss_one (ps_ret (pe_callU u dF hrF (pa_cons (pe_ix iTup (pv 2) pe_int (fun _ _ => rfl)) (pa_cons pe_int (pa_cons (pe_op op_sub (pv 1) pe_int) pa_nil))))))), ?_⟩
  refine ⟨_, rfl, isi_tup hv ⟨true, rfl, iteF ⟨_, rfl, len_tup hv (ne_rdF rfl ⟨false, rfl, iteF ⟨_, rfl, ix_at 0 hv rfl rfl fun x hx => ?_⟩⟩)⟩⟩⟩
  cases hx.int_inv
  refine ⟨_, rfl, _, _, rfl, rfl, _, _, _, rfl, hd.src.1, hd.src.2, true, rfl, iteF ?_⟩
  refine ⟨_, rfl, _, rfl, ix_at 1 hv rfl rfl fun x hx => ?_⟩
  refine ⟨c, d.gs, x, rfl, hx, hd.gl, (by have := hd.gl; omega), hd.gs, fun H1 e1 => ⟨true, rfl, iteF ?_⟩⟩
  refine ⟨_, rfl, ix_at 2 (hv.ev e1) rfl rfl fun x hx => ?_⟩
  refine ⟨_, rfl, c, d.rs, x, rfl, hx, hd.rs, hd.rs.short (by omega), fun H2 e2 => ⟨true, rfl, iteF ?_⟩⟩
  refine ⟨_, rfl, ix_at 3 ((hv.ev e1).ev e2) rfl rfl fun x hx => ?_⟩
  cases hx.int_inv
  exact ⟨_, rfl, _, _, rfl, rfl, _, _, _, rfl, hd.goal.1, hd.goal.2, q _ (e1.trans e2)⟩
end K26

end PartU1

section PartU2
set_option maxRecDepth 100000
set_option maxHeartbeats 4000000
/-! U2: rooms_fault .. without_doors on valid data. -/
namespace K26
open PySem PySem.Spec PyProof.Rows L2 L2H SlX
theorem hu64 {k : Nat} {A : Around} (r : RoomH k A) : A.units + 64 < cLine := by have := r.un; omega
theorem pe_never {X : Cx} {e : Expr} : PE X e (fun _ _ _ => False) := ⟨fun _ _ _ _ _ _ h => h.elim⟩
theorem gt_rdF {a b : Int} {Q : VK} {H : Hp} (h : ¬ b < a) (q : Q (.bl false) H) : Wr2 (rI0 fun i j => .bl (decide (j < i))) (.int a) (.int b) H Q := ⟨⟨a, b, rfl, rfl, q_decF h q⟩⟩
variable {P : Program} {w : World} {K : PySem.W.Frag} {mg : Str → Option Value} {base : Heap} {f C : Addr} {fd : FuncData}
/-! ### promises -/
def spRoomsF (K : PySem.W.Frag) : Sp0 := fun vs H Q => ∃ (c : Int) (ls : List (List Int)) (v : V), vs = [.int c, v] ∧ At K H v (pL ls) ∧ c ≤ 3 ∧ (1 ≤ ls.length ∧ ls.length ≤ 6) ∧ (∀ l, l ∈ ls → VL c l) ∧ ∀ H', Ev none H H' → Q .non H'
def spDoorsF (K : PySem.W.Frag) : Sp0 := fun vs H Q => ∃ (c r : Int) (ds : List Dr) (v : V), vs = [.int c, .int r, v] ∧ At K H v (pDs ds) ∧ c ≤ 3 ∧ ds.length ≤ 12 ∧ (∀ d, d ∈ ds → VD c r d) ∧ ∀ H', Ev none H H' → Q .non H'
def spFault (K : PySem.W.Frag) : Sp0 := fun vs H Q => ∃ (m : Mc) (vL vD : V), vs = [.int m.c, vL, vD] ∧ At K H vL (pL m.ls) ∧ At K H vD (pDs m.ds) ∧ VM m ∧ ∀ H', Ev none H H' → Q .non H'
def spInit (K : PySem.W.Frag) (C : Addr) : Sp0 := fun vs H Q => ∃ (x dx : Addr) (m : Mc) (vL vD : V), vs = [.ref x, .int m.c, vL, vD] ∧ H x = some (.ins C dx []) ∧ H dx = some (.own x) ∧ dx ≠ x ∧ At K H vL (pL m.ls) ∧ At K H vD (pDs m.ds) ∧ VM m ∧
  ∀ H', MAt K C H' x m → (∀ b u, H b = some u → b ≠ x → b ≠ dx → H' b = some u) → Q .non H'
def spEq (K : PySem.W.Frag) (C : Addr) : Sp0 := fun vs H Q => ∃ (a b : Addr) (m : Mc), vs = [.ref a, .ref b] ∧ MAt K C H a m ∧ MAt K C H b m ∧ ∀ H', Ev none H H' → Q (.bl true) H'
/-- the doors whose place is not in the lot -/
def keptN (lot : List Int) (ds : List Dr) : List Dr := (ds.zipIdx.filter fun p => !lot.contains ((p.2 : Nat) : Int)).map (·.1)
def spWithoutIn (K : PySem.W.Frag) (C : Addr) : Sp0 := fun vs H Q => ∃ (a : Addr) (v : V) (m : Mc) (lot : List Int), vs = [.ref a, v] ∧ MAt K C H a m ∧ VM m ∧ At K H v (pI lot) ∧ ∀ x H', Ev none H H' → MAt K C H' x { m with ds := keptN lot m.ds } → Q (.ref x) H'
def spReqM (K : PySem.W.Frag) (C : Addr) : Sp0 := fun vs H Q => ∃ (a : Addr) (m : Mc), vs = [.ref a] ∧ MAt K C H a m ∧ Q .non H
def spReqLot (K : PySem.W.Frag) (C : Addr) : Sp0 := fun vs H Q => ∃ (a : Addr) (v : V) (m : Mc) (lot : List Int), vs = [.ref a, v] ∧ MAt K C H a m ∧ At K H v (pI lot) ∧ Asc lot m.ds.length ∧ lot.length ≤ 1000 ∧ ∀ H', Ev none H H' → Q .non H'
def spWithout (K : PySem.W.Frag) (C : Addr) : Sp0 := fun vs H Q => ∃ (a : Addr) (v : V) (m : Mc) (lot : List Int), vs = [.ref a, v] ∧ MAt K C H a m ∧ VM m ∧ At K H v (pI lot) ∧ Asc lot m.ds.length ∧ lot.length ≤ 1000 ∧
  ∀ x H', Ev none H H' → MAt K C H' x { m with ds := keptN lot m.ds } → Q (.ref x) H'
/-! ### the kept doors -/
theorem keptN_take {lot : List Int} {ds : List Dr} {i : Nat} {d : Dr} (h : ds[i]? = some d) : keptN lot (ds.take (i + 1)) = keptN lot (ds.take i) ++ (if lot.contains (i : Int) then [] else [d]) := by
  have hi := (List.getElem?_eq_some_iff.mp h).1
  have e : ds.take (i + 1) = ds.take i ++ [d] := by
    rw [List.take_add_one, h]; rfl
  unfold keptN
  rw [e, List.zipIdx_append, List.filter_append, List.map_append, List.length_take, Nat.min_eq_left (by omega), Nat.zero_add]
  congr 1
  cases q : lot.contains (i : Int) with
  | true => simp only [List.zipIdx_cons, List.zipIdx_nil, List.filter_cons, List.filter_nil, q]; rfl
  | false => simp only [List.zipIdx_cons, List.zipIdx_nil, List.filter_cons, List.filter_nil, q]; rfl
theorem keptN_mem {lot : List Int} {ds : List Dr} {d : Dr} (h : d ∈ keptN lot ds) : d ∈ ds := by
  unfold keptN at h
  obtain ⟨p, hp, rfl⟩ := List.mem_map.mp h
  exact List.fst_mem_of_mem_zipIdx (List.mem_filter.mp hp).1
theorem keptN_len (lot : List Int) (ds : List Dr) : (keptN lot ds).length ≤ ds.length := by
  unfold keptN
  rw [List.length_map]
  exact Nat.le_trans (List.length_filter_le _ _) (by simp)
theorem VM.kept {m : Mc} (h : VM m) (lot : List Int) : VM { m with ds := keptN lot m.ds } := ⟨h.c, h.r, h.ls, Nat.le_trans (keptN_len _ _) h.n, fun d hd => h.ds d (keptN_mem hd)⟩
theorem inV_int (n : Int) (ns : List Int) : inV (.int n) (ns.map V.int) = ns.contains n := by
  induction ns with
  | nil => rfl
  | cons a ns ih =>
    show (eqV (.int a) (.int n) || inV (.int n) (ns.map V.int)) = (n == a || ns.contains n)
    rw [ih]
    have : eqV (.int a) (.int n) = (n == a) := by
      show (a == n) = (n == a)
      exact Bool.beq_comm
    rw [this]
theorem flat_ints (ns : List Int) : (ns.map V.int).all flatV = true := by simp [flatV]
/-! ### rooms_fault -/
theorem scRoomsF : FnScope ["clocks", "limits", "wrong", "room", "value"] ["clocks", "limits"] (defScope sRoomsF) := ⟨rfl, rfl, rfl, by decide +kernel, rfl, by decide +kernel, by decide +kernel⟩
theorem ok_roomsF (F : Fun K "rooms_fault" "rooms_fault" sRoomsF f fd) (G : Gs mg) (dL : DefU P w K mg base 3 "are_limits" ["clocks", "value"] (spLimits K)) : FnU P w K mg base 4 f fd ["clocks", "limits"] (spRoomsF K) := by
  refine okU F scRoomsF (fun vs H Q h => by obtain ⟨c, l, v, rfl, _⟩ := h; rfl) fun cm pn cd A outer s H vs Q u hr h => ?_
  obtain ⟨c, ls, v, rfl, hv, hc, hn, hl, q⟩ := h
  refine ⟨_, pss_cons (ps_if (PW.pt (pw_or (pt_not (pt_val (pe_callB cIsi (by rfl) G.isinstance boot_isinstance (pa_cons (pv 1) (pa_cons (pe_bltn (v := .ty "tuple") rfl G.tuple boot_tuple rfl) pa_nil)))))
      (pw_or1 (pt_not (pt_chain oLe oLe pe_int (pe_callB cLen (by rfl) G.len PySem.boot_len (pa_cons (pv 1) pa_nil)) (pe_const rfl G.mRooms)))))) pss_never pss_nil)
    (pss_cons (ps_setLcU (i := 2) (own := [("room", 3), ("value", 4)]) (g := WrG (gTup K 2 (gCons (gName 3) (gCons (gName 4) gNil)))) u scRoomsF.nd rfl rfl (sw_true rfl rfl rfl (by decide +kernel))
      (piU_enum (by rfl) G.enumerate (pa_cons (pv 1) pa_nil)) (blkOk_by (N := ["clocks", "limits", "wrong", "room", "value"]) (sc := defScope sRoomsF) (by decide +kernel))
      (fun _ _ _ _ _ => pg_pairU u (pg_name (i := 3) scRoomsF.nd rfl (Or.inl rfl)) (pg_name (i := 4) scRoomsF.nd rfl (Or.inl rfl))) (fun _ _ _ _ _ => pts_one (pt_not (pt_val (pe_callU u dL hr (pa_cons (pv 0) (pa_cons (pv 4) pa_nil)))))) (fun _ _ _ _ _ => pv 3))
    (pss_one (ps_ret (pe_ifExp (pt_cmpR (op_neD (hu64 hr)) (pv 2) (pe_lst pa_nil) (nomark _)) pe_never pe_non)))), ?_⟩
  refine ⟨_, rfl, isi_tup hv ⟨true, rfl, iteF ⟨_, rfl, len_tup hv (le_rd (by rw [List.length_map]; omega) ⟨true, rfl, iteT (le_rd (by rw [List.length_map]; omega) ⟨true, rfl, iteF ?_⟩)⟩)⟩⟩⟩
  obtain ⟨a, xs, rfl, h1, h2⟩ := hv.tup_inv
  have hlen := h2.length
  rw [List.length_map] at hlen
  refine ⟨_, rfl, a, xs, rfl, h1, lc_run walk_enumU K none .nil (fun H e => e.tp _ _ h1) (fun _ acc _ => acc = []) rfl (fun _ _ _ _ _ h => h) (by omega) ?_ ?_⟩
  · rintro i x acc H1 H2 kt kf hi ev rfl ⟨T, x, y, rfl, hT, rfl, hx, hy⟩ k1 k2
    obtain ⟨d, hd, hat⟩ := h2.get i y hy
    rw [List.getElem?_map] at hd
    obtain ⟨l, hl', rfl⟩ := Option.map_eq_some_iff.mp hd
    have ev2 := (Ev.refl (Ok.nil (H := H1))).then_new (u := .tup [x, y]) hT
    refine rd_pair (.of upd_same) ⟨by rfl, _, rfl, _, rfl, c, l, y, rfl, (hat.ev ev).ev ev2, hl l (List.mem_of_getElem? hl'), ?_, fun H' e' => ⟨true, rfl, iteF (k2 _ (ev2.trans e') rfl)⟩⟩
    have := (hl l (List.mem_of_getElem? hl')).1
    omega
  · rintro D acc H1 hD hacc _ ev rfl
    refine ⟨_, rfl, (by decide), fun p hp => ?_⟩
    have hpD : D ≠ p := ne_of_none hacc hp
    refine ⟨_, _, .lst (.of (by rw [upd_ne hpD]; exact hacc)) .nil, .lst (.of upd_same) .nil, rfl, rfl, false, rfl, iteF (q _ (ev.then_new hp))⟩
/-! ### doors_fault -/
theorem scDoorsF : FnScope ["clocks", "rooms", "doors", "wrong", "index", "value"] ["clocks", "rooms", "doors"] (defScope sDoorsF) := ⟨rfl, rfl, rfl, by decide +kernel, rfl, by decide +kernel, by decide +kernel⟩
theorem ok_doorsF (F : Fun K "doors_fault" "doors_fault" sDoorsF f fd) (G : Gs mg) (dD : DefU P w K mg base 5 "is_door_in" ["clocks", "rooms", "value"] (spDoorIn K)) : FnU P w K mg base 6 f fd ["clocks", "rooms", "doors"] (spDoorsF K) := by
  refine okU F scDoorsF (fun vs H Q h => by obtain ⟨c, r, l, v, rfl, _⟩ := h; rfl) fun cm pn cd A outer s H vs Q u hr h => ?_
  obtain ⟨c, r, ds, v, rfl, hv, hc, hn, hl, q⟩ := h
  refine ⟨_, pss_cons (ps_if (PW.pt (pw_or (pt_not (pt_val (pe_callB cIsi (by rfl) G.isinstance boot_isinstance (pa_cons (pv 2) (pa_cons (pe_bltn (v := .ty "tuple") rfl G.tuple boot_tuple rfl) pa_nil)))))
      (pw_or1 (pt_cmpR oGt (pe_callB cLen (by rfl) G.len PySem.boot_len (pa_cons (pv 2) pa_nil)) (pe_const rfl G.mDoors) (nomark _))))) pss_never pss_nil)
    (pss_cons (ps_setLcU (i := 3) (own := [("index", 4), ("value", 5)]) (g := WrG (gTup K 2 (gCons (gName 4) (gCons (gName 5) gNil)))) u scDoorsF.nd rfl rfl (sw_true rfl rfl rfl (by decide +kernel))
      (piU_enum (by rfl) G.enumerate (pa_cons (pv 2) pa_nil)) (blkOk_by (N := ["clocks", "rooms", "doors", "wrong", "index", "value"]) (sc := defScope sDoorsF) (by decide +kernel))
      (fun _ _ _ _ _ => pg_pairU u (pg_name (i := 4) scDoorsF.nd rfl (Or.inl rfl)) (pg_name (i := 5) scDoorsF.nd rfl (Or.inl rfl))) (fun _ _ _ _ _ => pts_one (pt_not (pt_val (pe_callU u dD hr (pa_cons (pv 0) (pa_cons (pv 1) (pa_cons (pv 5) pa_nil))))))) (fun _ _ _ _ _ => pv 4))
    (pss_one (ps_ret (pe_ifExp (pt_cmpR (op_neD (hu64 hr)) (pv 3) (pe_lst pa_nil) (nomark _)) pe_never pe_non)))), ?_⟩
  refine ⟨_, rfl, isi_tup hv ⟨true, rfl, iteF ⟨_, rfl, len_tup hv (gt_rdF (by rw [List.length_map]; omega) ⟨false, rfl, iteF ?_⟩)⟩⟩⟩
  obtain ⟨a, xs, rfl, h1, h2⟩ := hv.tup_inv
  have hlen := h2.length
  rw [List.length_map] at hlen
  refine ⟨_, rfl, a, xs, rfl, h1, lc_run walk_enumU K none .nil (fun H e => e.tp _ _ h1) (fun _ acc _ => acc = []) rfl (fun _ _ _ _ _ h => h) (by omega) ?_ ?_⟩
  · rintro i x acc H1 H2 kt kf hi ev rfl ⟨T, x, y, rfl, hT, rfl, hx, hy⟩ k1 k2
    obtain ⟨d, hd, hat⟩ := h2.get i y hy
    rw [List.getElem?_map] at hd
    obtain ⟨l, hl', rfl⟩ := Option.map_eq_some_iff.mp hd
    have ev2 := (Ev.refl (Ok.nil (H := H1))).then_new (u := .tup [x, y]) hT
    exact rd_pair (.of upd_same) ⟨by rfl, _, rfl, _, rfl, _, rfl, c, r, l, y, rfl, (hat.ev ev).ev ev2, hl l (List.mem_of_getElem? hl'), hc, fun H' e' => ⟨true, rfl, iteF (k2 _ (ev2.trans e') rfl)⟩⟩
  · rintro D acc H1 hD hacc _ ev rfl
    refine ⟨_, rfl, (by decide), fun p hp => ?_⟩
    have hpD : D ≠ p := ne_of_none hacc hp
    refine ⟨_, _, .lst (.of (by rw [upd_ne hpD]; exact hacc)) .nil, .lst (.of upd_same) .nil, rfl, rfl, false, rfl, iteF (q _ (ev.then_new hp))⟩
/-! ### fault_of -/
theorem scFault : FnScope ["clocks", "limits", "doors", "found"] ["clocks", "limits", "doors"] (defScope sFault) := ⟨rfl, rfl, rfl, by decide +kernel, rfl, by decide +kernel, by decide +kernel⟩
theorem ok_fault (F : Fun K "fault_of" "fault_of" sFault f fd) (G : Gs mg) (dF : DefU P w K mg base 2 "is_from" ["value", "least", "most"] spFrom) (dR : DefU P w K mg base 4 "rooms_fault" ["clocks", "limits"] (spRoomsF K)) (dD : DefU P w K mg base 6 "doors_fault" ["clocks", "rooms", "doors"] (spDoorsF K)) :
    FnU P w K mg base 7 f fd ["clocks", "limits", "doors"] (spFault K) := by
  refine okU F scFault (fun vs H Q h => by obtain ⟨m, l, v, rfl, _⟩ := h; rfl) fun cm pn cd A outer s H vs Q u hr h => ?_
  obtain ⟨m, vL, vD, rfl, hL, hD, hm, q⟩ := h
  refine ⟨_, pss_cons (ps_if (pt_not (pt_val (pe_callU u dF (rh hr (by decide)) (pa_cons (pv 0) (pa_cons pe_int (pa_cons (pe_const rfl G.mClocks) pa_nil)))))) pss_never pss_nil)
    (pss_cons (ps_set (i := 3) scFault.nd rfl (Or.inl rfl) (pe_callU u dR (rh hr (by decide)) (pa_cons (pv 0) (pa_cons (pv 1) pa_nil))))
    (pss_one (ps_ret (pe_ifExp (pt_cmp (pc_notN (pv 3)) rfl) (pv 3) (pe_callU u dD hr (pa_cons (pv 0) (pa_cons (pe_callB cLen (by rfl) G.len PySem.boot_len (pa_cons (pv 1) pa_nil)) (pa_cons (pv 2) pa_nil)))))))), ?_⟩
  refine ⟨_, rfl, _, _, _, rfl, hm.c.1, hm.c.2, true, rfl, iteF ?_⟩
  refine ⟨_, rfl, _, rfl, m.c, m.ls, vL, rfl, hL, hm.c.2, hm.r, hm.ls, fun H1 e1 => ?_⟩
  refine ⟨_, rfl, false, rfl, iteF ⟨_, rfl, _, rfl, len_tup (hL.ev e1) ⟨_, rfl, m.c, _, m.ds, vD, rfl, hD.ev e1, hm.c.2, hm.n, ?_, fun H2 e2 => q _ (e1.trans e2)⟩⟩⟩
  rw [List.length_map]
  exact hm.ds
/-! ### Machine.__init__ -/
theorem scInit : FnScope ["self", "clocks", "limits", "doors"] ["self", "clocks", "limits", "doors"] (defScope sInit) := ⟨rfl, rfl, rfl, by decide +kernel, rfl, by decide +kernel, by decide +kernel⟩
theorem ok_init (F : Fun K "__init__" "Machine.__init__" sInit f fd) (T : MTxt K mg C) (dF : DefU P w K mg base 7 "fault_of" ["clocks", "limits", "doors"] (spFault K)) : FnU P w K mg base 8 f fd ["self", "clocks", "limits", "doors"] (spInit K C) := by
  refine okU F scInit (fun vs H Q h => by obtain ⟨x, dx, m, l, v, rfl, _⟩ := h; rfl) fun cm pn cd A outer s H vs Q u hr h => ?_
  obtain ⟨x, dx, m, vL, vD, rfl, hx, hdx, nx, hL, hD, hm, q⟩ := h
  refine ⟨_, pss_cons (ps_if (pt_cmp (pc_notN (pe_callU u dF hr (pa_cons (pv 1) (pa_cons (pv 2) (pa_cons (pv 3) pa_nil))))) rfl) pss_never pss_nil)
    (pss_cons (ps_sl (pv 0) (pv 1)) (pss_cons (ps_sl (pv 0) (pv 2)) (pss_one (ps_sl (pv 0) (pv 3))))), ?_⟩
  refine ⟨_, rfl, _, rfl, _, rfl, m, vL, vD, rfl, hL, hD, hm, fun H1 e1 => ⟨false, rfl, iteF ?_⟩⟩
  obtain ⟨p0, s0⟩ := T.sc
  obtain ⟨p1, s1⟩ := T.sd
  obtain ⟨p2, s2⟩ := T.sl
  have hx1 : H1 x = some (.ins C dx []) := e1.at_ hx fun _ z => nomatch z
  have hd1 : H1 dx = some (.own x) := e1.at_ hdx fun _ z => nomatch z
  refine ⟨_, rfl, _, rfl, x, C, dx, p0, [], 0, rfl, .inl ⟨hx1, rfl⟩, T.cl, s0, ?_⟩
  refine ⟨_, rfl, _, rfl, x, C, dx, p2, _, 2, rfl, slH_slt nx, T.cl, s2, ?_⟩
  refine ⟨_, rfl, _, rfl, x, C, dx, p1, _, 1, rfl, slH_slt nx, T.cl, s1, ?_⟩
  rw [slH_twice nx, slH_twice nx]
  have tp : Tp K H1 (slH H1 x C dx (putS 1 vD (putS 2 vL (putS 0 (.int m.c) [])))) := fun a xs hq => by
    have : a ≠ x ∧ a ≠ dx ∨ ∃ (o : Obj) (its : Array Value) (n : Nat), K.lookup a = some o ∧ o.cls = .type "tuple" ∧ o.data = .seq its n ∧ its.size ≤ sizeLine ∧ Vals xs its.toList := by
      rcases hq with (z | ⟨w, z⟩) | z
      · exact .inl ⟨ne_of z hx1 (fun z => nomatch z), ne_of z hd1 (fun z => nomatch z)⟩
      · exact .inl ⟨ne_of z hx1 (fun z => nomatch z), ne_of z hd1 (fun z => nomatch z)⟩
      · exact .inr z
    rcases this with ⟨n1, n2⟩ | z
    · rcases hq with (z | ⟨w, z⟩) | z
      · exact .inl (.inl (by rw [slH_ne n1 n2]; exact z))
      · exact .inl (.inr ⟨w, by rw [slH_ne n1 n2]; exact z⟩)
      · exact .inr z
    · exact .inr z
  refine q _ ⟨dx, vL, vD, slH_slt nx, (hL.ev e1).mono tp, (hD.ev e1).mono tp⟩ fun b uu hb n1 n2 => ?_
  rw [slH_ne n1 n2]
  exact e1.k b uu hb (fun z => nomatch z)
/-- Machine(..) -/
theorem make_rd {m : Mc} {vL vD : V} {o : Option Addr} {H : Hp} {Q : VK} (hk : Ok o H) (hL : At K H vL (pL m.ls)) (hD : At K H vD (pDs m.ds)) (hm : VM m) (q : ∀ x H', Ev o H H' → MAt K C H' x m → Q (.ref x) H') :
    ∀ x dx, H x = none → H dx = none → dx ≠ x → spInit K C (.ref x :: [.int m.c, vL, vD]) (upd (upd H dx (.own x)) x (.ins C dx [])) (fun v H2 => v = .non ∧ Q (.ref x) H2) := by
  intro x dx hx hdx nx
  have e1 : Ev o H (upd (upd H dx (.own x)) x (.ins C dx [])) := (Ev.new hk hdx).then_new (by rw [upd_ne (Ne.symm nx)]; exact hx)
  refine ⟨x, dx, m, vL, vD, rfl, upd_same, by rw [upd_ne nx, upd_same], nx, hL.ev e1, hD.ev e1, hm, fun H' M k => ⟨rfl, q x H' ⟨fun b u hb n => ?_, hk, fun d hd => ?_⟩ M⟩⟩
  · exact k b u (e1.k b u hb n) (ne_of_none hb hx) (ne_of_none hb hdx)
  · obtain ⟨l, s, c, z⟩ := hk d hd
    obtain ⟨l', s', c', z'⟩ := e1.b d hd
    exact ⟨l', s', c', k d _ z' (ne_of_none z hx) (ne_of_none z hdx)⟩
end K26

end PartU2

section PartU3
set_option maxRecDepth 100000
set_option maxHeartbeats 4000000
/-! U3: __eq__, without_in, require_machine, require_lot, without_doors. -/
namespace K26
open PySem PySem.Spec PyProof.Rows L2 L2H SlX
variable {P : Program} {w : World} {K : PySem.W.Frag} {mg : Str → Option Value} {base : Heap} {f fI C : Addr} {fd fdI : FuncData}
theorem isi_M {a : Addr} {m : Mc} {H : Hp} {Q : VK} (T : MTxt K mg C) (h : MAt K C H a m) (q : Q (.bl true) H) : Wr1 (rIsiSl K (.ref C)) [.ref a, .ref C] H Q := by
  obtain ⟨dx, vL, vD, h1, _⟩ := h
  exact ⟨⟨a, C, dx, _, _, true, rfl, rfl, fun _ z => z, h1, T.cl, T.si, T.k1, q⟩⟩
theorem eq_rdD {x y : V} {d : PyData} {H : Hp} {Q : VK} (hx : At K H x d) (hy : At K H y d) (hs : Sh 64 d) (q : Q (.bl true) H) : Wr2 (rEqD K) x y H Q := by
  refine ⟨⟨d, d, hx.dp, hy.dp, hs.shaped (Nat.le_refl _), hs.shaped (Nat.le_refl _), ?_⟩⟩
  rw [hs.refl]
  exact q
section
variable {X : Cx}
theorem cIsiM : CallR X (.builtin "isinstance") (Wr1 (rIsiSl X.K (.ref C))) := cr_wr (call_isiSl _)
theorem oEqD (hu : X.A.units + 64 < cLine) : OpR X (compareOp .Eq) (Wr2 (rEqD X.K)) := or_wr (op_eqD hu)
theorem pe_at {i : Nat} {e : Expr} {f : Str} {pos : Pos} (he : PE X e (tVar i)) (hb : attributeBase e f X.env (eval e X.env) = eval e X.env := by rfl) : PE X (.Attribute e f pos) (WrE (SlX.tSl X.K (tVar i) f)) := pe_wr (pe_sl he hb)
end
/-! ### __eq__ -/
theorem scEq : FnScope ["self", "other", "mine"] ["self", "other"] (defScope sEq) := ⟨rfl, rfl, rfl, by decide +kernel, rfl, by decide +kernel, by decide +kernel⟩
theorem ok_eq (F : Fun K "__eq__" "Machine.__eq__" sEq f fd) (G : Gs mg) (T : MTxt K mg C) : FnU P w K mg base 1 f fd ["self", "other"] (spEq K C) := by
  refine okU F scEq (fun vs H Q h => by obtain ⟨a, b, m, rfl, _⟩ := h; rfl) fun cm pn cd A outer s H vs Q u hr h => ?_
  obtain ⟨a, b, m, rfl, ha, hb, q⟩ := h
  refine ⟨_, pss_cons (ps_if (pt_not (pt_val (pe_callB (cIsiM (C := C)) (by rfl) G.isinstance boot_isinstance (pa_cons (pv 1) (pa_cons (pe_glob (v := .ref C) rfl T.mgC rfl) pa_nil))))) pss_never pss_nil)
    (pss_cons (ps_set (i := 2) scEq.nd rfl (Or.inl rfl) (pe_tup (pa_cons (pe_at (pv 0)) (pa_cons (pe_at (pv 0)) (pa_cons (pe_at (pv 0)) pa_nil)))))
    (pss_one (ps_ret (pe_cmpR (oEqD (hu64 hr)) (pv 2) (pe_tup (pa_cons (pe_at (pv 1)) (pa_cons (pe_at (pv 1)) (pa_cons (pe_at (pv 1)) pa_nil)))) (nomark _))))), ?_⟩
  refine ⟨_, rfl, isi_M T hb ⟨true, rfl, iteF ?_⟩⟩
  refine rd_clocks T ha rfl (rd_limits T ha rfl fun vL hL => rd_doors T ha rfl fun vD hD => ⟨(by show 3 ≤ sizeLine; decide), fun p hp => ?_⟩)
  have e1 := (Ev.refl (Ok.nil (H := H))).then_new (u := .tup [.int m.c, vL, vD]) hp
  refine ⟨_, rfl, rd_clocks T (hb.ev e1) rfl (rd_limits T (hb.ev e1) rfl fun vL2 hL2 => rd_doors T (hb.ev e1) rfl fun vD2 hD2 => ⟨(by show 3 ≤ sizeLine; decide), fun p2 hp2 => ?_⟩)⟩
  have e2 := (Ev.refl (Ok.nil (H := upd H p (.tup [.int m.c, vL, vD])))).then_new (u := .tup [.int m.c, vL2, vD2]) hp2
  have d1 : At K (upd H p (.tup [.int m.c, vL, vD])) (.ref p) (pM m) := .new hp (.cons (.int _) (.cons hL (.one hD)))
  have d2 : At K (upd (upd H p (.tup [.int m.c, vL, vD])) p2 (.tup [.int m.c, vL2, vD2])) (.ref p2) (pM m) := .new hp2 (.cons (.int _) (.cons hL2 (.one hD2)))
  exact eq_rdD (d1.ev e2) d2 ((sh_pM m).mono (by decide)) (q _ (e1.trans e2))
/-! ### without_in -/
theorem scWithoutIn : FnScope ["machine", "lot", "doors", "index", "door"] ["machine", "lot"] (defScope sWithoutIn) := ⟨rfl, rfl, rfl, by decide +kernel, rfl, by decide +kernel, by decide +kernel⟩
theorem ok_withoutIn (F : Fun K "without_in" "without_in" sWithoutIn f fd) (G : Gs mg) (T : MTxt K mg C) (M : Mk K C fI) (FI : FnU P w K mg base 8 fI fdI ["self", "clocks", "limits", "doors"] (spInit K C)) (bI : Binds K fdI ["self", "clocks", "limits", "doors"] []) :
    FnU P w K mg base 10 f fd ["machine", "lot"] (spWithoutIn K C) := by
  refine okU F scWithoutIn (fun vs H Q h => by obtain ⟨a, v, m, lot, rfl, _⟩ := h; rfl) fun cm pn cd A outer s H vs Q u hr h => ?_
  obtain ⟨a, v, m, lot, rfl, ha, hm, hv, q⟩ := h
  refine ⟨_, pss_cons (ps_setLcU (i := 2) (own := [("index", 3), ("door", 4)]) (g := WrG (gTup K 2 (gCons (gName 3) (gCons (gName 4) gNil)))) u scWithoutIn.nd rfl rfl (sw_true rfl rfl rfl (by decide +kernel))
      (piU_enum (by rfl) G.enumerate (pa_cons (pe_at (pv 0)) pa_nil)) (blkOk_by (N := ["machine", "lot", "doors", "index", "door"]) (sc := defScope sWithoutIn) (by decide +kernel))
      (fun _ _ _ _ _ => pg_pairU u (pg_name (i := 3) scWithoutIn.nd rfl (Or.inl rfl)) (pg_name (i := 4) scWithoutIn.nd rfl (Or.inl rfl))) (fun _ _ _ _ _ => pts_one (pt_cmpR (r := rIn K true) op_notIn_seq (pv 3) (pv 1) (by rfl))) (fun _ _ _ _ _ => pv 4))
    (pss_one (ps_ret (pe_makeU u M FI hr T.mgC bI (pa_cons (pe_at (pv 0)) (pa_cons (pe_at (pv 0)) (pa_cons (pe_callTy call_tuple_of (by rfl) G.tuple boot_tuple (pa_cons (pv 2) pa_nil)) pa_nil)))))), ?_⟩
  refine rd_doors T ha rfl fun vD hD => ?_
  obtain ⟨d, xs, rfl, h1, h2⟩ := hD.tup_inv
  have hlen := h2.length
  rw [List.length_map] at hlen
  have hn := hm.n
  refine ⟨d, xs, rfl, h1, lc_run walk_enumU K none .nil (fun H e => e.tp _ _ h1) (fun i acc H => AtAll K H acc ((keptN lot (m.ds.take i)).map pD)) .nil (fun _ _ _ _ t l => l.mono t) (by omega) ?_ ?_⟩
  · rintro i x acc H1 H2 kt kf hi ev hacc ⟨T, x, y, rfl, hT, rfl, hx, hy⟩ k1 k2
    obtain ⟨e, hd, hat⟩ := h2.get i y hy
    rw [List.getElem?_map] at hd
    obtain ⟨dr, hdr, rfl⟩ := Option.map_eq_some_iff.mp hd
    cases (show some (V.int (i : Nat)) = some x from hx)
    have ev2 := (Ev.refl (Ok.nil (H := H1))).then_new (u := .tup [.int (i : Nat), y]) hT
    obtain ⟨b, ys, rfl, h3, h4⟩ := ((hv.ev ev).ev ev2).tup_inv
    have e4 := h4.ints_inv
    subst e4
    refine rd_pair (.of upd_same) ⟨by rfl, _, rfl, _, rfl, b, _, rfl, .inr h3, rfl, flat_ints _, _, rfl, ?_⟩
    show if (!inV (V.int (i : Nat)) (lot.map V.int)) = true then _ else _
    rw [inV_int]
    cases q : lot.contains ((i : Nat) : Int) with
    | true =>
      refine iteF (k2 _ ev2 ?_)
      show AtAll K _ acc ((keptN lot (m.ds.take (i + 1))).map pD)
      rw [keptN_take hdr, if_pos q, List.append_nil]
      exact hacc.ev ev2
    | false =>
      refine iteT ⟨_, rfl, k1 _ _ ev2 ?_⟩
      show AtAll K _ (acc ++ [y]) ((keptN lot (m.ds.take (i + 1))).map pD)
      rw [keptN_take hdr, if_neg (by rw [q]; decide), List.map_append]
      exact (hacc.ev ev2).append (.one ((hat.ev ev).ev ev2))
  · rintro D acc H1 hD hacc hle ev l
    have l2 : AtAll K H1 acc ((keptN lot m.ds).map pD) := by
      have z : AtAll K H1 acc ((keptN lot (m.ds.take xs.length)).map pD) := l
      rwa [List.take_of_length_le (by omega)] at z
    refine rd_clocks T (ha.ev ev) rfl (rd_limits T (ha.ev ev) rfl fun vL hL => ⟨_, rfl, D, acc, rfl, .inl ⟨.of hacc, fun p hp => ?_⟩⟩)
    have e2 := (Ev.refl (Ok.nil (H := H1))).then_new (u := .tup acc) hp
    exact make_rd (m := { m with ds := keptN lot m.ds }) .nil (hL.ev e2) (.new hp l2) (hm.kept lot) fun x H' e3 M => q x H' ((ev.trans e2).trans e3) M
/-! ### require_machine -/
theorem scReqM : FnScope ["value"] ["value"] (defScope sReqM) := ⟨rfl, rfl, rfl, by decide +kernel, rfl, by decide +kernel, by decide +kernel⟩
theorem ok_reqM (F : Fun K "require_machine" "require_machine" sReqM f fd) (G : Gs mg) (T : MTxt K mg C) : FnU P w K mg base 1 f fd ["value"] (spReqM K C) := by
  refine okU F scReqM (fun vs H Q h => by obtain ⟨a, m, rfl, _⟩ := h; rfl) fun cm pn cd A outer s H vs Q u hr h => ?_
  obtain ⟨a, m, rfl, ha, q⟩ := h
  refine ⟨_, pss_one (ps_if (pt_not (pt_val (pe_callB (cIsiM (C := C)) (by rfl) G.isinstance boot_isinstance (pa_cons (pv 0) (pa_cons (pe_glob (v := .ref C) rfl T.mgC rfl) pa_nil))))) pss_never pss_nil), ?_⟩
  exact ⟨_, rfl, isi_M T ha ⟨true, rfl, iteF q⟩⟩
/-! ### require_lot -/
theorem scReqLot : FnScope ["machine", "lot"] ["machine", "lot"] (defScope sReqLot) := ⟨rfl, rfl, rfl, by decide +kernel, rfl, by decide +kernel, by decide +kernel⟩
theorem ok_reqLot (F : Fun K "require_lot" "require_lot" sReqLot f fd) (G : Gs mg) (T : MTxt K mg C) (dA : DefU P w K mg base 3 "is_ascending" ["value", "many"] (spAsc K)) : FnU P w K mg base 4 f fd ["machine", "lot"] (spReqLot K C) := by
  refine okU F scReqLot (fun vs H Q h => by obtain ⟨a, v, m, lot, rfl, _⟩ := h; rfl) fun cm pn cd A outer s H vs Q u hr h => ?_
  obtain ⟨a, v, m, lot, rfl, ha, hv, hl, hn, q⟩ := h
  refine ⟨_, pss_one (ps_if (pt_not (pt_val (pe_callU u dA hr (pa_cons (pv 1) (pa_cons (pe_callB cLen (by rfl) G.len PySem.boot_len (pa_cons (pe_at (pv 0)) pa_nil)) pa_nil))))) pss_never pss_nil), ?_⟩
  refine ⟨_, rfl, rd_doors T ha rfl fun vD hD => len_tup hD ⟨_, lot, _, rfl, hv, ?_, hn, fun H' e => ⟨true, rfl, iteF (q H' e)⟩⟩⟩
  rw [List.length_map]
  exact hl
/-! ### without_doors -/
theorem scWithout : FnScope ["machine", "lot"] ["machine", "lot"] (defScope sWithout) := ⟨rfl, rfl, rfl, by decide +kernel, rfl, by decide +kernel, by decide +kernel⟩
theorem ok_without (F : Fun K "without_doors" "without_doors" sWithout f fd) (dM : DefU P w K mg base 1 "require_machine" ["value"] (spReqM K C)) (dL : DefU P w K mg base 4 "require_lot" ["machine", "lot"] (spReqLot K C)) (dI : DefU P w K mg base 10 "without_in" ["machine", "lot"] (spWithoutIn K C)) :
    FnU P w K mg base 11 f fd ["machine", "lot"] (spWithout K C) := by
  refine okU F scWithout (fun vs H Q h => by obtain ⟨a, v, m, lot, rfl, _⟩ := h; rfl) fun cm pn cd A outer s H vs Q u hr h => ?_
  obtain ⟨a, v, m, lot, rfl, ha, hm, hv, hl, hn, q⟩ := h
  refine ⟨_, pss_cons (ps_expr (pe_callU u dM (rh hr (by decide)) (pa_cons (pv 0) pa_nil))) (pss_cons (ps_expr (pe_callU u dL (rh hr (by decide)) (pa_cons (pv 0) (pa_cons (pv 1) pa_nil)))) (pss_one (ps_ret (pe_callU u dI hr (pa_cons (pv 0) (pa_cons (pv 1) pa_nil)))))), ?_⟩
  refine ⟨_, rfl, a, m, rfl, ha, ⟨_, rfl, _, rfl, a, v, m, lot, rfl, ha, hv, hl, hn, fun H1 e1 => ⟨_, rfl, _, rfl, a, v, m, lot, rfl, ha.ev e1, hm, hv.ev e1, fun x H2 e2 M => q x H2 (e1.trans e2) M⟩⟩⟩
end K26

end PartU3

section PartL1
set_option maxRecDepth 100000
set_option maxHeartbeats 4000000
/-! L1: calm defs; keeping_doors, first_ways. -/
namespace K26
open PySem PySem.Spec PyProof.Rows L2 L2H SlX
variable {P : Program} {w : World} {K : PySem.W.Frag} {mg : Str → Option Value} {base : Heap} {f fI C : Addr} {fd fdI : FuncData}
theorem okC {K : PySem.W.Frag} {P : Program} {w : World} {mg : Str → Option Value} {base : Heap} {x qual : Str} {st : Stmt} {f : Addr} {fd : FuncData} {N ps : List Str} {k : Nat} {sp : Sp0} (F : Fun K x qual st f fd) (S : FnScope N ps (defScope st)) (len : ∀ vs H Q, sp vs H Q → vs.length = ps.length)
    (hbody : ∀ (cd : Value) (A : Around) (outer : List Env) (s : Shared) (H : Hp) (vs : List V) (Q : VK), Room k (A.deeper (envU f qual st cd s)) → sp vs H Q →
      ∃ t, PSs (cxU true [] P w K mg base N qual (defScope st) f cd A outer s H) (defBody st) t ∧ t { nx := fun _ H' => Q .non H', rt := Q } (start N vs) H) : FnOk P w K mg base CX0 (k + 1) f fd ps (toSp sp) :=
  F.ok S (fun vs H Q _ h => len vs H Q h) fun cd A outer s H vs Q E hr h => hbody cd A outer s H vs Q hr h
theorem rhR {k : Nat} {A : Around} (r : Room k A) : RoomH k A := ⟨r.dp, r.un⟩
theorem huR {k : Nat} {A : Around} (r : Room k A) : A.units + 64 < cLine := by have := r.un; omega
theorem lc_runD {J : It} {n : Nat} {G : Hp → Prop} {Y : Nat → Hp → V → Hp → Prop} (w : Walk J n G Y) {g : TG} {tt : TT} {te : TE} {vs : List Nat} {σ : L2.St} {H1 : Hp} {D : Addr} {Qd : Hp → Prop} (hD : H1 D = none) (K : PySem.W.Frag) (o : Option Addr) (hk : Ok o H1) (hG : ∀ H, Ev o H1 H → G H)
    (L : Nat → List V → Hp → Prop) (h0 : L 0 [] H1) (hL : ∀ i acc H H', Tp K H H' → L i acc H → L i acc H') (hn : n ≤ 4000000)
    (hs : ∀ i x acc H H' (kt : V → Hp → Prop) (kf : Hp → Prop), i < n → Ev o H1 H → L i acc H → Y i H x H' → (∀ y H4, Ev o H H4 → L (i + 1) (acc ++ [y]) H4 → kt y H4) → (∀ H4, Ev o H H4 → L (i + 1) acc H4 → kf H4) →
      g x (wipe σ vs) H' fun σ2 H2 => wipe σ2 vs = wipe σ vs ∧ tt σ2 H2 fun b H3 => if b = true then te σ2 H3 kt else kf H3)
    (hd : ∀ acc H, H D = some (.lst acc) → acc.length ≤ n → Ev o H1 H → L n acc H → Qd H) :
    ∃ W : Nat → Nat → Hp → Prop, (∃ m, W 0 m (upd H1 D (.lst []))) ∧ ∀ i m H, W i m H →
      (J.stop i H ∧ Qd H) ∨ (J.go i H ∧ ∃ Nx : Hp → Prop, (∀ H', Nx H' → ∃ m', m' < m ∧ W (i + 1) m' H') ∧ ∀ x H', J.yld i H x H' → g x (wipe σ vs) H' fun σ2 H2 => wipe σ2 vs = wipe σ vs ∧ tt σ2 H2 fun b H3 =>
        if b = true then te σ2 H3 fun y H4 => ∃ acc, H4 D = some (.lst acc) ∧ acc.length < sizeLine ∧ Nx (upd H4 D (.lst (acc ++ [y]))) else Nx H3) := by
  refine lc_it w (Qd := Qd) (fun i H => ∃ acc, H D = some (.lst acc) ∧ acc.length ≤ i ∧ Ev o H1 H ∧ L i acc H) ⟨[], upd_same, Nat.zero_le _, .new hk hD, hL _ _ _ _ (.new hD) h0⟩ (fun i H _ ⟨_, _, _, e, _⟩ => hG H e) ?_ ?_
  · rintro i x H H' hi ⟨acc, hacc, hlen, ev, l⟩ y
    have hnD : o ≠ some D := ev.ne hD
    refine hs i x acc H H' _ _ hi ev l y (fun y H4 e4 l4 => ?_) (fun H4 e4 l4 => ?_)
    · have q := e4.lst hacc hnD
      refine ⟨acc, q, ?_, acc ++ [y], upd_same, by simp; omega, (ev.trans e4).put hD, hL _ _ _ _ (.lst q) l4⟩
      have z : (4000000 : Nat) < sizeLine := by decide
      omega
    · exact ⟨acc, e4.lst hacc hnD, by omega, ev.trans e4, l4⟩
  · rintro H ⟨acc, hacc, hlen, ev, l⟩
    exact hd acc H hacc hlen ev l
/-! ### the mathematics of rounds -/
/-- the doors that do not put the clock c back -/
def ed (d : Dr) : Int × Int := (d.src, d.goal)
def edges (ds : List Dr) (c : Int) : List (Int × Int) := (ds.filter fun d => !d.rs.contains c).map ed
inductive Reach (E : List (Int × Int)) (r : Int) : Nat → Int → Prop
  | here : Reach E r 0 r
  | step {t : Nat} {a b : Int} : Reach E r t a → (a, b) ∈ E → Reach E r (t + 1) b
def NoRound (E : List (Int × Int)) (r : Int) (n : Nat) : Prop := ∀ t a, t < n → Reach E r t a → (a, r) ∉ E
theorem Reach.mono {E E' : List (Int × Int)} (h : ∀ e, e ∈ E' → e ∈ E) {r : Int} {t : Nat} {a : Int} (q : Reach E' r t a) : Reach E r t a := by
  induction q with
  | here => exact .here
  | step _ e ih => exact .step ih (h _ e)
theorem NoRound.mono {E E' : List (Int × Int)} (h : ∀ e, e ∈ E' → e ∈ E) {r : Int} {n : Nat} (q : NoRound E r n) : NoRound E' r n := fun t a ht hr he => q t a ht (hr.mono h) (h _ he)
def Tight (m : Mc) : Prop := ∀ c r : Int, 0 ≤ c → c < m.c → 0 ≤ r → r < m.ls.length → NoRound (edges m.ds c) r m.ls.length
theorem edges_kept {lot : List Int} {ds : List Dr} {c : Int} : ∀ e, e ∈ edges (keptN lot ds) c → e ∈ edges ds c := by
  intro e he
  unfold edges at he ⊢
  obtain ⟨d, hd, rfl⟩ := List.mem_map.mp he
  have z := List.mem_filter.mp hd
  exact List.mem_map.mpr ⟨d, List.mem_filter.mpr ⟨keptN_mem z.1, z.2⟩, rfl⟩
theorem Tight.kept {m : Mc} (h : Tight m) (lot : List Int) : Tight { m with ds := keptN lot m.ds } := fun c r h1 h2 h3 h4 => (h c r h1 h2 h3 h4).mono edges_kept
theorem edges_take {ds : List Dr} {c : Int} {i : Nat} {d : Dr} (h : ds[i]? = some d) : edges (ds.take (i + 1)) c = edges (ds.take i) c ++ (if d.rs.contains c then [] else [ed d]) := by
  have e : ds.take (i + 1) = ds.take i ++ [d] := by rw [List.take_add_one, h]; rfl
  unfold edges
  rw [e, List.filter_append, List.map_append]
  congr 1
  cases q : d.rs.contains c with
  | true => simp only [List.filter_cons, List.filter_nil, q]; rfl
  | false => simp only [List.filter_cons, List.filter_nil, q]; rfl
/-! ### keeping_doors -/
def pPair (p : Int × Dr) : PyData := .tuple [.int p.1, pD p.2]
def spKeeping (K : PySem.W.Frag) (C : Addr) : Sp0 := fun vs H Q => ∃ (a : Addr) (m : Mc) (c : Int), vs = [.ref a, .int c] ∧ MAt K C H a m ∧ m.ds.length ≤ 12 ∧
  ∀ D acc (ps : List (Int × Dr)) H', Ev none H H' → H D = none → H' D = some (.lst acc) → AtAll K H' acc (ps.map pPair) → ps.length ≤ 12 → ps.map (fun p => ed p.2) = edges m.ds c → Q (.ref D) H'
theorem scKeeping : FnScope ["machine", "clock", "index", "door"] ["machine", "clock"] (defScope sKeeping) := ⟨rfl, rfl, rfl, by decide +kernel, rfl, by decide +kernel, by decide +kernel⟩
theorem ok_keeping (F : Fun K "keeping_doors" "keeping_doors" sKeeping f fd) (G : Gs mg) (T : MTxt K mg C) : FnOk P w K mg base CX0 1 f fd ["machine", "clock"] (toSp (spKeeping K C)) := by
  refine okC F scKeeping (fun vs H Q h => by obtain ⟨a, m, c, rfl, _⟩ := h; rfl) fun cd A outer s H vs Q hr h => ?_
  obtain ⟨a, m, c, rfl, ha, hn, q⟩ := h
  have u : U (cxU true [] P w K mg base ["machine", "clock", "index", "door"] "keeping_doors" (defScope sKeeping) f cd A outer s H) := .inl rfl
  refine ⟨_, pss_one (ps_ret (pe_lcU (own := [("index", 2), ("door", 3)]) (g := WrG (gTup K 2 (gCons (gName 2) (gCons (gName 3) gNil)))) u scKeeping.nd
      (piU_enum (by rfl) G.enumerate (pa_cons (pe_at (pv 0)) pa_nil)) (blkOk_by (N := ["machine", "clock", "index", "door"]) (sc := defScope sKeeping) (by decide +kernel))
      (fun _ _ _ _ _ => pg_pairU u (pg_name (i := 2) scKeeping.nd rfl (Or.inl rfl)) (pg_name (i := 3) scKeeping.nd rfl (Or.inl rfl)))
      (fun _ _ _ _ _ => pts_one (pt_cmpR (r := rIn K true) op_notIn_seq (pv 1) (pe_ix (r := Wr2 (rIxT K)) iTup (pv 3) pe_int (fun _ _ => rfl)) (by rfl))) (fun _ _ _ _ _ => pe_tup (pa_cons (pv 2) (pa_cons (pv 3) pa_nil))))), ?_⟩
  refine rd_doors T ha rfl fun vD hD => ?_
  obtain ⟨d, xs, rfl, h1, h2⟩ := hD.tup_inv
  have hlen := h2.length
  rw [List.length_map] at hlen
  refine ⟨d, xs, rfl, h1, lc_run walk_enumU K none .nil (fun H e => e.tp _ _ h1) (fun i acc H => ∃ ps : List (Int × Dr), AtAll K H acc (ps.map pPair) ∧ ps.length ≤ i ∧ ps.map (fun p => ed p.2) = edges (m.ds.take i) c) ⟨[], .nil, Nat.le_refl _, rfl⟩ (fun _ _ _ _ t ⟨ps, l, e⟩ => ⟨ps, l.mono t, e⟩) (by omega) ?_ ?_⟩
  · rintro i x acc H1 H2 kt kf hi ev ⟨ps, hacc, hpl, hps⟩ ⟨T, x, y, rfl, hT, rfl, hx, hy⟩ k1 k2
    obtain ⟨e, hd, hat⟩ := h2.get i y hy
    rw [List.getElem?_map] at hd
    obtain ⟨dr, hdr, rfl⟩ := Option.map_eq_some_iff.mp hd
    cases (show some (V.int (i : Nat)) = some x from hx)
    have ev2 := (Ev.refl (Ok.nil (H := H1))).then_new (u := .tup [.int (i : Nat), y]) hT
    have hy2 := (hat.ev ev).ev ev2
    refine rd_pair (.of upd_same) ⟨by rfl, _, rfl, _, rfl, ix_at 2 hy2 rfl rfl fun z hz => ?_⟩
    obtain ⟨b, ys, rfl, h3, h4⟩ := hz.tup_inv
    have e4 := h4.ints_inv
    subst e4
    refine ⟨b, _, rfl, .inr h3, rfl, flat_ints _, _, rfl, ?_⟩
    show if (!inV (V.int c) (dr.rs.map V.int)) = true then _ else _
    rw [inV_int]
    cases q : dr.rs.contains c with
    | true =>
      refine iteF (k2 _ ev2 ⟨ps, hacc.ev ev2, by omega, ?_⟩)
      rw [edges_take hdr, if_pos q, List.append_nil]
      exact hps
    | false =>
      refine iteT ⟨_, rfl, _, rfl, (by show 2 ≤ sizeLine; decide), fun p hp => k1 _ _ (ev2.then_new hp) ⟨ps ++ [((i : Int), dr)], ?_, by simp; omega, ?_⟩⟩
      · rw [List.map_append]
        exact ((hacc.ev ev2).ev (.new .nil hp)).append (.one (.new hp (.cons (.int _) (.one hy2))))
      · rw [edges_take hdr, if_neg (by rw [q]; decide), List.map_append, hps]
        rfl
  · rintro D acc H1 hD hacc hle ev ⟨ps, l, hpl, hps⟩
    rw [List.take_of_length_le (by omega)] at hps
    exact q D acc ps H1 ev hD hacc l (by omega) hps
end K26

end PartL1

section PartL2a
set_option maxRecDepth 100000
set_option maxHeartbeats 4000000
/-! L2a: first_ways. -/
namespace K26
open PySem PySem.Spec PyProof.Rows L2 L2H SlX
variable {P : Program} {w : World} {K : PySem.W.Frag} {mg : Str → Option Value} {base : Heap} {f fI C : Addr} {fd fdI : FuncData}
theorem AtAll.two {H : Hp} {ys : List V} {d e : PyData} (h : AtAll K H ys [d, e]) : ∃ x y, ys = [x, y] ∧ At K H x d ∧ At K H y e := by
  cases h with
  | cons a r =>
    cases r with
    | cons b r =>
      cases r
      exact ⟨_, _, rfl, a, b⟩
theorem valV_mem {kvs : List (Key × V)} {k : Key} {v : V} (h : valV kvs k = some v) : k ∈ kvs.map (·.1) := by
  unfold valV at h
  obtain ⟨kv, h1, _⟩ := Option.map_eq_some_iff.mp h
  have h2 := List.find?_some h1
  exact List.mem_map.mpr ⟨kv, List.mem_of_find?_eq_some h1, of_decide_eq_true h2⟩
theorem putK_new {kvs : List (Key × V)} {k : Key} {z : V} (h : valV kvs k = none) : putK kvs k z = kvs ++ [(k, z)] := by
  unfold valV at h
  have h1 := Option.map_eq_none_iff.mp h
  have h2 := List.find?_eq_none.mp h1
  unfold putK
  rw [if_neg]
  intro q
  obtain ⟨kv, m, e⟩ := List.any_eq_true.mp q
  exact h2 kv m e
abbrev Rw := List Int × Int
def pRow (p : Rw) : PyData := .tuple [pI p.1, .int p.2]
def spFirst (K : PySem.W.Frag) : Sp0 := fun vs H Q => ∃ (a : Addr) (xs : List V) (rs : List Rw), vs = [.ref a] ∧ H a = some (.lst xs) ∧ AtAll K H xs (rs.map pRow) ∧ rs.length ≤ 4000000 ∧
  ∀ D acc (rs' : List Rw) H', Ev none H H' → H D = none → H' D = some (.lst acc) → AtAll K H' acc (rs'.map pRow) → rs'.length ≤ rs.length → (∀ p, p ∈ rs' → p ∈ rs) → (∀ p, p ∈ rs → ∃ p', p' ∈ rs' ∧ p'.2 = p.2) → Q (.ref D) H'
theorem scFirst : FnScope ["rows", "found", "row", "room"] ["rows"] (defScope sFirst) := ⟨rfl, rfl, rfl, by decide +kernel, rfl, by decide +kernel, by decide +kernel⟩
theorem ok_first (F : Fun K "first_ways" "first_ways" sFirst f fd) : FnOk P w K mg base CX0 1 f fd ["rows"] (toSp (spFirst K)) := by
  refine okC F scFirst (fun vs H Q h => by obtain ⟨a, m, c, rfl, _⟩ := h; rfl) fun cd A outer s H vs Q hr h => ?_
  obtain ⟨a, xs, rs, rfl, hl, ha, hn, q⟩ := h
  have u : U (cxU true [] P w K mg base ["rows", "found", "row", "room"] "first_ways" (defScope sFirst) f cd A outer s H) := .inl rfl
  refine ⟨_, pss_cons (ps_set (i := 1) scFirst.nd rfl (Or.inl rfl) pe_dnewK)
    (pss_cons (ps_for PassesOwn.never rfl (pi_list (pv 0)) (pg_pairU u (pg_name (i := 2) scFirst.nd rfl (Or.inl rfl)) (pg_name (i := 3) scFirst.nd rfl (Or.inl rfl))) (pss_one (ps_expr (pe_dsetd (pv 1) (pv 3) (pv 2) ⟨rfl, rfl, rfl, rfl⟩))))
    (pss_one (ps_ret (pe_lock (pe_lc (own := [("room", 3), ("row", 2)]) (g := WrG (gTup K 2 (gCons (gName 3) (gCons (gName 2) gNil)))) (tt := tYes) rfl scFirst.nd (pi_items (pv 1)) (blkOk_by (N := ["rows", "found", "row", "room"]) (sc := defScope sFirst) (by decide +kernel))
      (fun _ _ _ _ _ => pg_pairU (.inl rfl) (pg_name (i := 3) scFirst.nd rfl (Or.inl rfl)) (pg_name (i := 2) scFirst.nd rfl (Or.inl rfl))) (fun _ _ _ _ _ => pts_nil) (fun _ _ _ _ _ => pe_tup (pa_cons (pv 2) (pa_cons (pv 3) pa_nil)))))))), ?_⟩
  intro d hd
  have hlen := ha.length
  rw [List.length_map] at hlen
  have had : a ≠ d := ne_of_none hl hd
  refine ⟨_, rfl, a, rfl, ⟨xs, .of (by rw [upd_ne had]; exact hl)⟩, ?_⟩
  refine for_it (walk_list (xs := xs)) (fun i σ H' => ∃ (s2 s3 : Option V) (kvs : List (Key × V)) (rs' : List Rw), σ = [some (.ref a), some (.ref d), s2, s3] ∧ H' d = some (.dK kvs) ∧ Ev none H H' ∧ kvs.map (·.1) = rs'.map (fun p => Sum.inl p.2) ∧ AtAll K H' (kvs.map (·.2)) (rs'.map fun p => pI p.1) ∧
      rs'.length ≤ i ∧ (∀ p, p ∈ rs' → p ∈ rs) ∧ ∀ j p, j < i → rs[j]? = some p → ∃ p', p' ∈ rs' ∧ p'.2 = p.2)
    ⟨none, none, [], [], rfl, upd_same, .new .nil hd, rfl, .nil, Nat.le_refl _, (fun _ h => by cases h), (fun _ _ h => absurd h (Nat.not_lt_zero _))⟩ (fun i σ H' _ ⟨_, _, _, _, _, _, e, _⟩ => .of (e.k _ _ hl (fun z => nomatch z))) ?_ ?_
  · rintro i x σ H1 H2 hi ⟨s2, s3, kvs, rs', rfl, hdk, ev, hk, hv, hle, hsub, hcov⟩ ⟨rfl, hx⟩
    obtain ⟨e, hd', hat⟩ := ha.get i x hx
    rw [List.getElem?_map] at hd'
    obtain ⟨p, hp, rfl⟩ := Option.map_eq_some_iff.mp hd'
    obtain ⟨T, ys, rfl, hT, hys⟩ := (hat.ev ev).tup_inv
    obtain ⟨row, z, rfl, hrow, hroom⟩ := hys.two
    cases hroom.int_inv
    have kl : kvs.length = rs'.length := by have := congrArg List.length hk; simpa using this
    refine rd_pair hT ⟨_, rfl, d, rfl, .inl ⟨kvs, .inl hdk⟩, _, rfl, _, rfl, kvs, .inl p.2, hdk, rfl, ?_, fun v hval => ?_, fun hval => ?_⟩
    · have z : (4000000 : Nat) < sizeLine := by decide
      omega
    · refine ⟨_, _, kvs, rs', rfl, hdk, ev, hk, hv, by omega, hsub, fun j p' hj hp' => ?_⟩
      by_cases hji : j = i
      · subst hji
        rw [hp] at hp'
        cases hp'
        have z := valV_mem hval
        rw [hk] at z
        obtain ⟨p2, m2, e2⟩ := List.mem_map.mp z
        exact ⟨p2, m2, Sum.inl.inj e2⟩
      · exact hcov j p' (by omega) hp'
    · rw [putK_new hval]
      refine ⟨_, _, _, rs' ++ [p], rfl, upd_same, ev.put hd, ?_, ?_, by simp; omega, fun p' hp' => ?_, fun j p' hj hp' => ?_⟩
      · rw [List.map_append, List.map_append, hk]
        rfl
      · rw [List.map_append, List.map_append]
        have tp : Tp K H2 (upd H2 d (.dK (kvs ++ [(.inl p.2, row)]))) := .put (fun _ z => by rw [hdk] at z; cases z) (fun _ _ z => by rw [hdk] at z; cases z)
        exact (hv.mono tp).append (.one (hrow.mono tp))
      · rcases List.mem_append.mp hp' with z | z
        · exact hsub p' z
        · rw [List.mem_singleton.mp z]
          exact List.mem_of_getElem? hp
      · by_cases hji : j = i
        · subst hji
          rw [hp] at hp'
          cases hp'
          exact ⟨p, by simp, rfl⟩
        · obtain ⟨p2, m2, e2⟩ := hcov j p' (by omega) hp'
          exact ⟨p2, by simp [m2], e2⟩
  · rintro σ H1 ⟨s2, s3, kvs, rs', rfl, hdk, ev, hk, hv, hle, hsub, hcov⟩
    have kl : kvs.length = rs'.length := by have := congrArg List.length hk; simpa using this
    refine ⟨d, .dK kvs, hdk, trivial, fun od => ⟨_, rfl, d, od, kvs, rfl, upd_same, fun D hD => ?_⟩⟩
    have tp1 : Tp K H1 (upd H1 d (.frz od (.dK kvs))) := .put (fun _ z => by rw [hdk] at z; cases z) (fun _ _ z => by rw [hdk] at z; cases z)
    have ev1 : Ev none H (upd H1 d (.frz od (.dK kvs))) := ev.put hd
    have hv1 := hv.mono tp1
    refine lc_runD walk_items hD K none .nil (fun H' e => e.at_ upd_same (fun _ z => nomatch z)) (fun i acc H' => AtAll K H' acc ((rs'.take i).map pRow)) .nil (fun _ _ _ _ t l => l.mono t) (by omega) ?_ ?_
    · rintro i x acc H2 H3 kt kf hi ev2 hacc ⟨T, x, y, rfl, hT, rfl, hx, hy⟩ k1 k2
      obtain ⟨kv, hkv⟩ : ∃ kv, kvs[i]? = some kv := ⟨kvs[i], List.getElem?_eq_getElem hi⟩
      replace hx : (kvs[i]?).map (fun kv => kV kv.1) = some x := hx
      replace hy : (kvs[i]?).map Prod.snd = some y := hy
      rw [hkv] at hx hy
      cases (show some (kV kv.1) = some x from hx)
      cases (show some kv.2 = some y from hy)
      obtain ⟨p, hp⟩ : ∃ p, rs'[i]? = some p := ⟨rs'[i]'(by omega), List.getElem?_eq_getElem (by omega)⟩
      have e1 : (kvs.map (·.1))[i]? = (rs'.map (fun p => (Sum.inl p.2 : Key)))[i]? := by rw [hk]
      rw [List.getElem?_map, List.getElem?_map, hkv, hp] at e1
      have e1' : kv.1 = Sum.inl p.2 := Option.some.inj e1
      obtain ⟨z, hz, hat⟩ := hv1.get i kv.2 (by rw [List.getElem?_map, hkv]; rfl)
      rw [List.getElem?_map, hp] at hz
      cases (show some (pI p.1) = some z from hz)
      rw [e1']
      have e3 := (Ev.refl (Ok.nil (H := H2))).then_new (u := .tup [kV (Sum.inl p.2), kv.2]) hT
      refine rd_pair (.of upd_same) ⟨by rfl, ?_⟩
      show tTup (tCons (tVar 2) (tCons (tVar 3) tNil)) _ _ kt
      refine ⟨_, rfl, _, rfl, (by show 2 ≤ sizeLine; decide), fun q hq => k1 _ _ (e3.then_new hq) ?_⟩
      have e4 : rs'.take (i + 1) = rs'.take i ++ [p] := by rw [List.take_add_one, hp]; rfl
      show AtAll K _ _ ((rs'.take (i + 1)).map pRow)
      rw [e4, List.map_append]
      exact ((hacc.ev e3).ev (.new .nil hq)).append (.one (.new hq (.cons ((hat.ev ev2).ev e3) (.one (.int _)))))
    · intro acc H2 hacc hle2 ev2 l
      have l2 : AtAll K H2 acc ((rs'.take kvs.length).map pRow) := l
      rw [List.take_of_length_le (by omega)] at l2
      have hd2 : H2 d = some (.frz od (.dK kvs)) := ev2.at_ upd_same (fun _ z => nomatch z)
      refine ⟨hd2, q D acc rs' _ ((ev1.trans ev2).put hd) (ev1.free hD) ?_ ?_ (by omega) hsub fun p hp => ?_⟩
      · rw [upd_ne (ne_of hacc hd2 (fun z => nomatch z))]
        exact hacc
      · exact l2.mono (.put (fun _ z => by rw [hd2] at z; cases z) (fun _ _ z => by rw [hd2] at z; cases z))
      · obtain ⟨j, hj⟩ := List.mem_iff_getElem?.mp hp
        exact hcov j p (by have := (List.getElem?_eq_some_iff.mp hj).1; omega) hj
end K26

end PartL2a

section PartL3
set_option maxRecDepth 100000
set_option maxHeartbeats 4000000
/-! L3: round_from. -/
namespace K26
open PySem PySem.Spec PyProof.Rows L2 L2H SlX
variable {P : Program} {w : World} {K : PySem.W.Frag} {mg : Str → Option Value} {base : Heap} {f fI C : Addr} {fd fdI : FuncData}
theorem eq_rd2 {a b : Int} {Q : VK} {H : Hp} (h1 : a = b → Q (.bl true) H) (h2 : a ≠ b → Q (.bl false) H) : Wr2 rEq (.int a) (.int b) H Q := by
  by_cases h : a = b
  · exact eq_rdT h (h1 h)
  · exact eq_rdF h (h2 h)
def spRound (K : PySem.W.Frag) (C : Addr) : Sp0 := fun vs H Q => ∃ (a : Addr) (m : Mc) (c r : Int), vs = [.ref a, .int c, .int r] ∧ MAt K C H a m ∧ VM m ∧
  ∀ v H', Ev none H H' → (v = .non ↔ NoRound (edges m.ds c) r m.ls.length) → Q v H'
theorem scRound : FnScope ["machine", "clock", "room", "doors", "rows", "turn", "longer", "row", "here", "index", "door"] ["machine", "clock", "room"] (defScope sRound) := ⟨rfl, rfl, rfl, by decide +kernel, rfl, by decide +kernel, by decide +kernel⟩
theorem ok_round (F : Fun K "round_from" "round_from" sRound f fd) (G : Gs mg) (T : MTxt K mg C) (dK : DefC P w K mg base 1 "keeping_doors" ["machine", "clock"] (spKeeping K C)) (dF : DefC P w K mg base 1 "first_ways" ["rows"] (spFirst K)) :
    FnOk P w K mg base CX0 2 f fd ["machine", "clock", "room"] (toSp (spRound K C)) := by
  refine okC F scRound (fun vs H Q h => by obtain ⟨a, m, c, r, rfl, _⟩ := h; rfl) fun cd A outer s H vs Q hr h => ?_
  obtain ⟨a, m, c, r, rfl, ha, hm, q⟩ := h
  have u : U (cxU true [] P w K mg base ["machine", "clock", "room", "doors", "rows", "turn", "longer", "row", "here", "index", "door"] "round_from" (defScope sRound) f cd A outer s H) := .inl rfl
  refine ⟨_, pss_cons (ps_par (i := 3) (j := 4) rfl scRound.nd rfl rfl (by decide) rfl rfl (pa_cons (pe_callC dK hr (pa_cons (pv 0) (pa_cons (pv 1) pa_nil))) (pa_cons (pe_lst (pa_cons (pe_tup (pa_cons (pe_tup pa_nil) (pa_cons (pv 2) pa_nil))) pa_nil)) pa_nil)) (by rfl))
    (pss_cons (ps_for PassesOwn.never rfl (pi_range1 (by rfl) G.range (pa_cons (pe_callB cLen (by rfl) G.len PySem.boot_len (pa_cons (pe_at (pv 0)) pa_nil)) pa_nil)) (pg_name (i := 5) scRound.nd rfl (Or.inl rfl))
      (pss_cons (ps_set (i := 6) scRound.nd rfl (Or.inl rfl) (pe_lst pa_nil))
      (pss_cons (ps_for PassesOwn.never rfl (pi_list (pv 4)) (pg_pairU u (pg_name (i := 7) scRound.nd rfl (Or.inl rfl)) (pg_name (i := 8) scRound.nd rfl (Or.inl rfl)))
        (pss_one (ps_for PassesOwn.never rfl (pi_list (pv 3)) (pg_pairU u (pg_name (i := 9) scRound.nd rfl (Or.inl rfl)) (pg_name (i := 10) scRound.nd rfl (Or.inl rfl)))
          (pss_cons (ps_if (PW.pt (pw_and (pt_cmpR oEq (pe_ix iTup (pv 10) pe_int (fun _ _ => rfl)) (pv 8) (nomark _)) (pw_and1 (pt_cmpR oEq (pe_ix iTup (pv 10) pe_int (fun _ _ => rfl)) (pv 2) (nomark _)))))
              (pss_one (ps_ret (pe_tup (StX.pa_star (pv 7) (pa_cons (pv 9) pa_nil))))) pss_nil)
            (pss_one (ps_if (pt_cmpR oEq (pe_ix iTup (pv 10) pe_int (fun _ _ => rfl)) (pv 8) (nomark _))
              (pss_one (ps_expr (pe_bm PySem.F.plainAttrs_list PySem.F.slot_list_append PySem.F.type_list_append mt_append (pv 6) (pa_cons (pe_tup (pa_cons (pe_tup (StX.pa_star (pv 7) (pa_cons (pv 9) pa_nil))) (pa_cons (pe_ix iTup (pv 10) pe_int (fun _ _ => rfl)) pa_nil))) pa_nil)))) pss_nil))))))
      (pss_one (ps_set (i := 4) scRound.nd rfl (Or.inl rfl) (pe_callC dF hr (pa_cons (pv 6) pa_nil)))))))
    (pss_one (ps_ret pe_non))), ?_⟩
  -- doors, rows = keeping_doors(machine, clock), [((), room)]
  refine ⟨_, rfl, _, rfl, a, m, c, rfl, ha, hm.n, fun Ld dvs ps H1 ev1 hLd0 hLd hps hpl hE => ?_⟩
  refine ⟨(by decide), fun p0 hp0 => ⟨_, rfl, (by show 2 ≤ sizeLine; decide), fun p1 hp1 => ⟨(by show 1 ≤ sizeLine; decide), fun Lr0 hLr0 => ⟨_, _, rfl, ?_⟩⟩⟩⟩
  have evA : Ev none H1 (upd (upd (upd H1 p0 (.tup [])) p1 (.tup [.ref p0, .int r])) Lr0 (.lst [.ref p1])) := ((Ev.new .nil hp0).then_new hp1).then_new hLr0
  have row0 : At K (upd (upd (upd H1 p0 (.tup [])) p1 (.tup [.ref p0, .int r])) Lr0 (.lst [.ref p1])) (.ref p1) (pRow ([], r)) :=
    (At.new (ds := [pI [], .int r]) hp1 (.cons (.new hp0 .nil) (.one (.int _)))).ev (.new .nil hLr0)
  have hLr1 : (upd (upd (upd H1 p0 (.tup [])) p1 (.tup [.ref p0, .int r])) Lr0 (.lst [.ref p1])) Lr0 = some (.lst [.ref p1]) := upd_same
  generalize upd (upd (upd H1 p0 (.tup [])) p1 (.tup [.ref p0, .int r])) Lr0 (.lst [.ref p1]) = H2 at evA row0 hLr1 ⊢
  have ev2 := ev1.trans evA
  have hLd2 : H2 Ld = some (.lst dvs) := evA.k _ _ hLd (fun z => nomatch z)
  have hps2 := hps.ev evA
  have hn := hm.r
  have dlen : dvs.length = ps.length := by have := hps.length; rwa [List.length_map] at this
  obtain ⟨E, hE'⟩ : ∃ E, E = edges m.ds c := ⟨_, rfl⟩
  rw [← hE'] at hE q
  -- for turn in range(len(machine.own_limits)):
  refine rd_limits T (ha.ev ev2) rfl fun vL hL => len_tup hL ⟨_, rfl, by omega, by rw [List.length_map]; omega, ?_⟩
  have eN : (((m.ls.map pI).length : Nat) : Int).toNat = m.ls.length := by rw [List.length_map]; exact Int.toNat_natCast _
  rw [eN]
  refine for_it (walk_range (lo := 0) (n := m.ls.length)) (fun t σ H' => ∃ (Lr : Addr) (rvs : List V) (rs : List Rw) (s5 s6 s7 s8 s9 s10 : Option V), σ = [some (.ref a), some (.int c), some (.int r), some (.ref Ld), some (.ref Lr), s5, s6, s7, s8, s9, s10] ∧ Ev none H2 H' ∧
      H' Lr = some (.lst rvs) ∧ AtAll K H' rvs (rs.map pRow) ∧ rs.length ≤ 12 ^ t ∧ (∀ p, p ∈ rs → p.1.length ≤ t ∧ Reach E r t p.2) ∧ (∀ h, Reach E r t h → ∃ p, p ∈ rs ∧ p.2 = h) ∧ NoRound E r t)
    ⟨Lr0, _, [([], r)], none, none, none, none, none, none, rfl, .refl .nil, hLr1, .one row0, Nat.le_refl 1, (fun p hp => by rw [List.mem_singleton.mp hp]; exact ⟨Nat.le_refl _, .here⟩), (fun h hh => by cases hh; exact ⟨_, List.mem_singleton.mpr rfl, rfl⟩), (fun t a ht => absurd ht (Nat.not_lt_zero _))⟩ (fun _ _ _ _ _ => trivial) ?_ ?_
  · rintro t x σ H3x H3 ht ⟨Lr, rvs, rs, s5, s6, s7, s8, s9, s10, rfl, ev3, hLr, hrs, hrl, hsound, hcov, hno⟩ ⟨rfl, rfl⟩
    have hpow : 12 ^ t ≤ 12 ^ 5 := Nat.pow_le_pow_right (by decide) (by omega)
    have h125 : (12 : Nat) ^ 5 = 248832 := by decide
    have rlen : rvs.length = rs.length := by have := hrs.length; rwa [List.length_map] at this
    -- longer = []
    refine ⟨(by decide), fun Lg hLg => ?_⟩
    refine ⟨_, rfl, Lr, rfl, ⟨rvs, .of (by rw [upd_ne (ne_of_none hLr hLg)]; exact hLr)⟩, ?_⟩
    refine for_it (walk_list (xs := rvs)) (fun i σ H' => ∃ (gvs : List V) (gs : List Rw) (s7 s8 s9 s10 : Option V), σ = [some (.ref a), some (.int c), some (.int r), some (.ref Ld), some (.ref Lr), some (.int (0 + t)), some (.ref Lg), s7, s8, s9, s10] ∧ Ev none H3 H' ∧
        H' Lg = some (.lst gvs) ∧ AtAll K H' gvs (gs.map pRow) ∧ gs.length ≤ i * 12 ∧ (∀ p, p ∈ gs → p.1.length ≤ t + 1 ∧ Reach E r (t + 1) p.2) ∧
        ∀ j p, j < i → rs[j]? = some p → ∀ b, (p.2, b) ∈ E → b ≠ r ∧ ∃ p', p' ∈ gs ∧ p'.2 = b)
      ⟨[], [], s7, s8, s9, s10, rfl, .new .nil hLg, upd_same, .nil, Nat.zero_le _, (fun _ h => by cases h), fun _ _ h => absurd h (Nat.not_lt_zero _)⟩ (fun i σ H' _ ⟨_, _, _, _, _, _, _, e, _⟩ => .of (e.k _ _ hLr (fun z => nomatch z))) ?_ ?_
    · rintro i x σ H4x H4 hi ⟨gvs, gs, s7, s8, s9, s10, rfl, ev4, hLgA, hgs, hgl, hgsound, hgcov⟩ ⟨rfl, hx⟩
      obtain ⟨e, hd', hat⟩ := hrs.get i x hx
      rw [List.getElem?_map] at hd'
      obtain ⟨p, hp, rfl⟩ := Option.map_eq_some_iff.mp hd'
      obtain ⟨T1, ys, rfl, hT1, hys⟩ := hat.tup_inv
      obtain ⟨row, z, rfl, hrow, hroom⟩ := hys.two
      cases hroom.int_inv
      obtain ⟨rb, ri, rfl, hrb, hri⟩ := hrow.tup_inv
      have eri := hri.ints_inv
      subst eri
      have hpin := hsound p (List.mem_of_getElem? hp)
      have hLd4 : H4 Ld = some (.lst dvs) := (ev3.trans ev4).k _ _ hLd2 (fun z => nomatch z)
      refine rd_pair (ev4.tp _ _ hT1) ⟨_, rfl, Ld, rfl, ⟨dvs, .of hLd4⟩, ?_⟩
      refine for_it (walk_list (xs := dvs)) (fun k σ H' => ∃ (gvs : List V) (gs : List Rw) (s9 s10 : Option V), σ = [some (.ref a), some (.int c), some (.int r), some (.ref Ld), some (.ref Lr), some (.int (0 + t)), some (.ref Lg), some (.ref rb), some (.int p.2), s9, s10] ∧ Ev none H3 H' ∧
          H' Lg = some (.lst gvs) ∧ AtAll K H' gvs (gs.map pRow) ∧ gs.length ≤ i * 12 + k ∧ (∀ p, p ∈ gs → p.1.length ≤ t + 1 ∧ Reach E r (t + 1) p.2) ∧
          (∀ j p, j < i → rs[j]? = some p → ∀ b, (p.2, b) ∈ E → b ≠ r ∧ ∃ p', p' ∈ gs ∧ p'.2 = b) ∧
          ∀ k' pr, k' < k → ps[k']? = some pr → pr.2.src = p.2 → pr.2.goal ≠ r ∧ ∃ p', p' ∈ gs ∧ p'.2 = pr.2.goal)
        ⟨gvs, gs, s9, s10, rfl, ev4, hLgA, hgs, by omega, hgsound, hgcov, fun _ _ h => absurd h (Nat.not_lt_zero _)⟩ (fun k σ H' _ ⟨_, _, _, _, _, e, _⟩ => .of ((ev3.trans e).k _ _ hLd2 (fun z => nomatch z))) ?_ ?_
      · rintro k x σ H5x H5 hk ⟨gvs, gs, s9, s10, rfl, ev5, hLg5, hgs5, hgl5, hs5, hc5, hk5⟩ ⟨rfl, hxk⟩
        obtain ⟨e, hd', hatk⟩ := hps2.get k x hxk
        rw [List.getElem?_map] at hd'
        obtain ⟨pr, hpr, rfl⟩ := Option.map_eq_some_iff.mp hd'
        obtain ⟨T2, ys, rfl, hT2, hys⟩ := hatk.tup_inv
        obtain ⟨idx, dv, rfl, hidx, hdv⟩ := hys.two
        cases hidx.int_inv
        have ev25 := ev3.trans ev5
        have hd5 := hdv.ev ev25
        have hin : (pr.2.src, pr.2.goal) ∈ E := by
          rw [← hE]
          exact List.mem_map.mpr ⟨pr, List.mem_of_getElem? hpr, rfl⟩
        have hrow5 : SqT K H5 rb (p.1.map V.int) := ev5.tp _ _ hrb
        have hsmall : (3000000 : Nat) < sizeLine := by decide
        refine rd_pair (ev25.tp _ _ hT2) ⟨_, rfl, ix_at 0 hd5 rfl rfl fun z hz => ?_⟩
        cases hz.int_inv
        refine ⟨_, rfl, eq_rd2 (fun e1 => ⟨true, rfl, iteT ⟨_, rfl, ix_at 3 hd5 rfl rfl fun z hz => ?_⟩⟩) fun n1 => ⟨false, rfl, iteF (iteF ⟨_, rfl, ix_at 0 hd5 rfl rfl fun z hz => ?_⟩)⟩⟩
        · cases hz.int_inv
          refine ⟨_, rfl, eq_rd2 (fun e2 => ⟨true, rfl, iteT ?_⟩) fun n2 => ⟨false, rfl, iteF ⟨_, rfl, ix_at 0 hd5 rfl rfl fun z hz => ?_⟩⟩⟩
          · refine ⟨_, rfl, rb, _, rfl, .inl hrow5, _, rfl, ?_, fun p1 hp1 => q _ _ ((ev2.trans ev25).then_new hp1) ⟨(fun z => nomatch z), fun z => ?_⟩⟩
            · simp only [List.length_append, List.length_map, List.length_cons, List.length_nil]
              omega
            · refine absurd hin ?_
              rw [e1, e2]
              exact z t p.2 ht hpin.2
          · cases hz.int_inv
            refine ⟨_, rfl, eq_rd2 (fun _ => ⟨true, rfl, iteT ?_⟩) fun n => absurd e1 n⟩
            refine ⟨_, rfl, .inl ⟨rfl, _, Or.inl (Or.inl hLg5)⟩, _, rfl, rb, _, rfl, .inl hrow5, _, rfl, ?_, fun p1 hp1 => ?_⟩
            · simp only [List.length_append, List.length_map, List.length_cons, List.length_nil]
              omega
            have ev6 : Ev none H5 _ := Ev.new (u := .tup (p.1.map V.int ++ [V.int pr.1])) .nil hp1
            refine ⟨_, rfl, ix_at 3 (hd5.ev ev6) rfl rfl fun z hz => ?_⟩
            cases hz.int_inv
            refine ⟨(by show 2 ≤ sizeLine; decide), fun p2 hp2 => ?_⟩
            have ev7 := ev6.then_new (u := .tup [.ref p1, .int pr.2.goal]) hp2
            have hrowN : At K _ (.ref p2) (pRow (p.1 ++ [pr.1], pr.2.goal)) := At.new (ds := [pI (p.1 ++ [pr.1]), .int pr.2.goal]) hp2 (.cons (At.new hp1 (by rw [List.map_append]; exact (AtAll.ints _).append (.one (.int _)))) (.one (.int _)))
            have hLg7 := ev7.k _ _ hLg5 (fun z => nomatch z)
            have hgs7 := hgs5.ev ev7
            have ev37 := ev5.trans ev7
            generalize upd (upd H5 p1 (.tup (p.1.map V.int ++ [V.int pr.1]))) p2 (.tup [.ref p1, .int pr.2.goal]) = H7 at ev7 hrowN hLg7 hgs7 ev37 ⊢
            have gl : gvs.length = gs.length := by have := hgs7.length; rwa [List.length_map] at this
            have hi12 : i * 12 ≤ rs.length * 12 := Nat.mul_le_mul_right _ (by omega)
            refine ⟨Lg, gvs, _, rfl, rfl, hLg7, by omega, gvs ++ [.ref p2], gs ++ [(p.1 ++ [pr.1], pr.2.goal)], _, _, rfl, ev37.put hLg, upd_same, ?_, ?_, ?_, ?_, ?_⟩
            · rw [List.map_append]
              exact (hgs7.append (.one hrowN)).mono (.lst hLg7)
            · rw [List.length_append, List.length_singleton]
              omega
            · intro p' hp'
              rcases List.mem_append.mp hp' with z | z
              · exact hs5 p' z
              · rw [List.mem_singleton.mp z]
                refine ⟨?_, .step hpin.2 (by rw [← e1]; exact hin)⟩
                rw [List.length_append, List.length_singleton]
                omega
            · intro j p' hj hp' b hb
              obtain ⟨w1, p3, w2, w3⟩ := hc5 j p' hj hp' b hb
              exact ⟨w1, p3, by simp [w2], w3⟩
            · intro k' pr' hk' hpr' hsrc
              by_cases hkk : k' = k
              · subst hkk
                rw [hpr] at hpr'
                cases hpr'
                exact ⟨n2, _, List.mem_append_right _ (List.mem_singleton.mpr rfl), rfl⟩
              · obtain ⟨w1, p3, w2, w3⟩ := hk5 k' pr' (by omega) hpr' hsrc
                exact ⟨w1, p3, by simp [w2], w3⟩
        · cases hz.int_inv
          refine ⟨_, rfl, eq_rd2 (fun e => absurd e n1) fun _ => ⟨false, rfl, iteF ?_⟩⟩
          refine ⟨gvs, gs, _, _, rfl, ev5, hLg5, hgs5, by omega, hs5, hc5, fun k' pr' hk' hpr' hsrc => ?_⟩
          by_cases hkk : k' = k
          · subst hkk
            rw [hpr] at hpr'
            cases hpr'
            exact absurd hsrc n1
          · exact hk5 k' pr' (by omega) hpr' hsrc
      · rintro σ H5 ⟨gvs, gs, s9, s10, rfl, ev5, hLg5, hgs5, hgl5, hs5, hc5, hk5⟩
        refine ⟨gvs, gs, _, _, _, _, rfl, ev5, hLg5, hgs5, by omega, hs5, fun j p' hj hp' b hb => ?_⟩
        by_cases hji : j = i
        · subst hji
          rw [hp] at hp'
          cases hp'
          rw [← hE] at hb
          obtain ⟨pr, hpr, e⟩ := List.mem_map.mp hb
          obtain ⟨k', hk'⟩ := List.mem_iff_getElem?.mp hpr
          have e1 : pr.2.src = p.2 := congrArg Prod.fst e
          have e2 : pr.2.goal = b := congrArg Prod.snd e
          have z := hk5 k' pr (by have := (List.getElem?_eq_some_iff.mp hk').1; omega) hk' e1
          rw [e2] at z
          exact z
        · exact hc5 j p' (by omega) hp' b hb
    · rintro σ H4 ⟨gvs, gs, s7, s8, s9, s10, rfl, ev4, hLg4, hgs4, hgl4, hs4, hc4⟩
      refine ⟨_, rfl, Lg, gvs, gs, rfl, hLg4, hgs4, by omega, fun D acc rs' H5 ev5 hD5 hD hacc hlen' hsub hcov' => ?_⟩
      refine ⟨D, acc, rs', _, _, _, _, _, _, rfl, ev3.trans (ev4.trans ev5), hD, hacc, ?_, fun p hp => hs4 p (hsub p hp), fun h hh => ?_, fun t' a' ht' hr' he' => ?_⟩
      · rw [Nat.pow_succ]
        have : gs.length ≤ rs.length * 12 := by rw [← rlen]; exact hgl4
        have : rs.length * 12 ≤ 12 ^ t * 12 := Nat.mul_le_mul_right _ hrl
        omega
      · cases hh with
        | step h1 h2 =>
          obtain ⟨p, hp, e⟩ := hcov _ h1
          obtain ⟨j, hj⟩ := List.mem_iff_getElem?.mp hp
          rw [← e] at h2
          obtain ⟨_, p', w1, w2⟩ := hc4 j p (by have := (List.getElem?_eq_some_iff.mp hj).1; omega) hj _ h2
          obtain ⟨p2, w3, w4⟩ := hcov' p' w1
          exact ⟨p2, w3, w4.trans w2⟩
      · by_cases htt : t' = t
        · subst htt
          obtain ⟨p, hp, e⟩ := hcov _ hr'
          obtain ⟨j, hj⟩ := List.mem_iff_getElem?.mp hp
          rw [← e] at he'
          exact (hc4 j p (by have := (List.getElem?_eq_some_iff.mp hj).1; omega) hj _ he').1 rfl
        · exact hno t' a' (by omega) hr' he'
  · rintro σ H3 ⟨Lr, rvs, rs, s5, s6, s7, s8, s9, s10, rfl, ev3, hLr, hrs, hrl, hsound, hcov, hno⟩
    exact q _ _ (ev2.trans ev3) ⟨fun _ => hno, fun _ => rfl⟩
end K26

end PartL3

section PartL4
set_option maxRecDepth 100000
set_option maxHeartbeats 4000000
/-! L4: loose_round, with_limits, with_door, the properties. -/
namespace K26
open PySem PySem.Spec PyProof.Rows L2 L2H SlX
variable {P : Program} {w : World} {K : PySem.W.Frag} {mg : Str → Option Value} {base : Heap} {f fI C CT fT : Addr} {fd fdI : FuncData}
/-! ### loose_round_of -/
def spLoose (K : PySem.W.Frag) (C : Addr) : Sp0 := fun vs H Q => ∃ (a : Addr) (m : Mc), vs = [.ref a] ∧ MAt K C H a m ∧ VM m ∧ ∀ v H', Ev none H H' → (v = .non ↔ Tight m) → Q v H'
theorem scLooseOf : FnScope ["machine", "clock", "room", "doors"] ["machine"] (defScope sLooseOf) := ⟨rfl, rfl, rfl, by decide +kernel, rfl, by decide +kernel, by decide +kernel⟩
theorem ok_looseOf (F : Fun K "loose_round_of" "loose_round_of" sLooseOf f fd) (G : Gs mg) (T : MTxt K mg C) (dR : DefC P w K mg base 2 "round_from" ["machine", "clock", "room"] (spRound K C)) : FnOk P w K mg base CX0 3 f fd ["machine"] (toSp (spLoose K C)) := by
  refine okC F scLooseOf (fun vs H Q h => by obtain ⟨a, m, rfl, _⟩ := h; rfl) fun cd A outer s H vs Q hr h => ?_
  obtain ⟨a, m, rfl, ha, hm, q⟩ := h
  refine ⟨_, pss_cons (ps_for PassesOwn.never rfl (pi_range1 (by rfl) G.range (pa_cons (pe_at (pv 0)) pa_nil)) (pg_name (i := 1) scLooseOf.nd rfl (Or.inl rfl))
      (pss_one (ps_for PassesOwn.never rfl (pi_range1 (by rfl) G.range (pa_cons (pe_callB cLen (by rfl) G.len PySem.boot_len (pa_cons (pe_at (pv 0)) pa_nil)) pa_nil)) (pg_name (i := 2) scLooseOf.nd rfl (Or.inl rfl))
        (pss_cons (ps_set (i := 3) scLooseOf.nd rfl (Or.inl rfl) (pe_callC dR hr (pa_cons (pv 0) (pa_cons (pv 1) (pa_cons (pv 2) pa_nil)))))
          (pss_one (ps_if (pt_cmp (pc_notN (pv 3)) rfl) (pss_one (ps_ret (pe_tup (pa_cons (pv 3) (pa_cons (pv 1) pa_nil))))) pss_nil))))))
    (pss_one (ps_ret pe_non)), ?_⟩
  have hc := hm.c
  have hn := hm.r
  refine rd_clocks T ha rfl ⟨_, rfl, by omega, by omega, ?_⟩
  refine for_it (walk_range (lo := 0) (n := m.c.toNat)) (fun i σ H' => ∃ (s1 s2 s3 : Option V), σ = [some (.ref a), s1, s2, s3] ∧ Ev none H H' ∧ ∀ c r : Int, 0 ≤ c → c < i → 0 ≤ r → r < m.ls.length → NoRound (edges m.ds c) r m.ls.length)
    ⟨none, none, none, rfl, .refl .nil, fun c r h1 h2 => absurd h2 (by omega)⟩ (fun _ _ _ _ _ => trivial) ?_ ?_
  · rintro i x σ H1x H1 hi ⟨s1, s2, s3, rfl, ev, hno⟩ ⟨rfl, rfl⟩
    refine rd_limits T (ha.ev ev) rfl fun vL hL => len_tup hL ⟨_, rfl, by omega, by rw [List.length_map]; omega, ?_⟩
    have eN : (((m.ls.map pI).length : Nat) : Int).toNat = m.ls.length := by rw [List.length_map]; exact Int.toNat_natCast _
    rw [eN]
    refine for_it (walk_range (lo := 0) (n := m.ls.length)) (fun j σ H' => ∃ (s2 s3 : Option V), σ = [some (.ref a), some (.int (0 + i)), s2, s3] ∧ Ev none H H' ∧ (∀ c r : Int, 0 ≤ c → c < i → 0 ≤ r → r < m.ls.length → NoRound (edges m.ds c) r m.ls.length) ∧ ∀ r : Int, 0 ≤ r → r < j → NoRound (edges m.ds (0 + i)) r m.ls.length)
      ⟨s2, s3, rfl, ev, hno, fun r h1 h2 => absurd h2 (by omega)⟩ (fun _ _ _ _ _ => trivial) ?_ ?_
    · rintro j x σ H2x H2 hj ⟨s2, s3, rfl, ev2, hno, hno2⟩ ⟨rfl, rfl⟩
      refine ⟨_, rfl, _, rfl, _, rfl, a, m, _, _, rfl, ha.ev ev2, hm, fun v H3 ev3 hv => ?_⟩
      refine ⟨v, rfl, _, rfl, ?_⟩
      by_cases hz : v = .non
      · rw [decide_eq_true hz]
        refine iteF ⟨_, _, rfl, ev2.trans ev3, hno, fun r h1 h2 => ?_⟩
        by_cases hrj : r = j
        · have z := hv.mp hz
          rw [hrj]
          rwa [Int.zero_add (j : Int)] at z
        · exact hno2 r h1 (by omega)
      · rw [decide_eq_false hz]
        refine iteT ⟨_, rfl, _, rfl, (by show 2 ≤ sizeLine; decide), fun p hp => q _ _ ((ev2.trans ev3).then_new hp) ⟨(fun z => nomatch z), fun t => absurd (hv.mpr (t _ _ (by omega) (by omega) (by omega) (by omega))) hz⟩⟩
    · rintro σ H2 ⟨s2, s3, rfl, ev2, hno, hno2⟩
      refine ⟨_, _, _, rfl, ev2, fun c r h1 h2 h3 h4 => ?_⟩
      by_cases hci : c = i
      · have z := hno2 r h3 h4
        rw [hci]
        rwa [Int.zero_add] at z
      · exact hno c r h1 (by omega) h3 h4
  · rintro σ H1 ⟨s1, s2, s3, rfl, ev, hno⟩
    exact q _ _ ev ⟨fun _ c r h1 h2 h3 h4 => hno c r h1 (by omega) h3 h4, fun _ => rfl⟩
/-! ### loose_round -/
theorem scLoose : FnScope ["machine"] ["machine"] (defScope sLoose) := ⟨rfl, rfl, rfl, by decide +kernel, rfl, by decide +kernel, by decide +kernel⟩
theorem ok_loose (F : Fun K "loose_round" "loose_round" sLoose f fd) (dM : DefU P w K mg base 1 "require_machine" ["value"] (spReqM K C)) (dL : DefC P w K mg base 3 "loose_round_of" ["machine"] (spLoose K C)) : FnOk P w K mg base CX0 4 f fd ["machine"] (toSp (spLoose K C)) := by
  refine okC F scLoose (fun vs H Q h => by obtain ⟨a, m, rfl, _⟩ := h; rfl) fun cd A outer s H vs Q hr h => ?_
  obtain ⟨a, m, rfl, ha, hm, q⟩ := h
  have u : U (cxU true [] P w K mg base ["machine"] "loose_round" (defScope sLoose) f cd A outer s H) := .inl rfl
  refine ⟨_, pss_cons (ps_expr (pe_callU u dM (rh (rhR hr) (by decide)) (pa_cons (pv 0) pa_nil))) (pss_one (ps_ret (pe_callC dL hr (pa_cons (pv 0) pa_nil)))), ?_⟩
  exact ⟨_, rfl, a, m, rfl, ha, ⟨_, rfl, a, m, rfl, ha, hm, q⟩⟩
/-! ### require_room -/
def spReqRoom (K : PySem.W.Frag) (C : Addr) : Sp0 := fun vs H Q => ∃ (a : Addr) (m : Mc) (r : Int), vs = [.ref a, .int r] ∧ MAt K C H a m ∧ 0 ≤ r ∧ r < m.ls.length ∧ Q .non H
theorem scReqRoom : FnScope ["machine", "room"] ["machine", "room"] (defScope sReqRoom) := ⟨rfl, rfl, rfl, by decide +kernel, rfl, by decide +kernel, by decide +kernel⟩
theorem ok_reqRoom (F : Fun K "require_room" "require_room" sReqRoom f fd) (G : Gs mg) (T : MTxt K mg C) (dF : DefU P w K mg base 3 "require_from" ["value", "least", "most"] spReqFrom) : FnOk P w K mg base CX0 4 f fd ["machine", "room"] (toSp (spReqRoom K C)) := by
  refine okC F scReqRoom (fun vs H Q h => by obtain ⟨a, m, r, rfl, _⟩ := h; rfl) fun cd A outer s H vs Q hr h => ?_
  obtain ⟨a, m, r, rfl, ha, h1, h2, q⟩ := h
  have u : U (cxU true [] P w K mg base ["machine", "room"] "require_room" (defScope sReqRoom) f cd A outer s H) := .inl rfl
  refine ⟨_, pss_one (ps_expr (pe_callU u dF (rhR hr) (pa_cons (pv 1) (pa_cons pe_int (pa_cons (pe_op op_sub (pe_callB cLen (by rfl) G.len PySem.boot_len (pa_cons (pe_at (pv 0)) pa_nil)) pe_int) pa_nil))))), ?_⟩
  exact ⟨_, rfl, rd_limits T ha rfl fun vL hL => len_tup hL ⟨_, _, rfl, rfl, r, 0, _, rfl, h1, by rw [List.length_map]; omega, q⟩⟩
/-! ### slices -/
theorem sl_at {v : V} {ds : List PyData} {H : Hp} {Q : VK} {lo hi : Option Int} (h : At K H v (.tuple ds)) (q : ∀ x H', Ev none H H' → At K H' x (.tuple ((ds.drop (HT.sIx ds.length 0 lo)).take (HT.sIx ds.length ds.length hi - HT.sIx ds.length 0 lo))) → Q x H') : WrS (rSlA K) v lo hi H Q := by
  obtain ⟨a, xs, rfl, h1, h2⟩ := h.tup_inv
  have hl := h2.length
  refine ⟨⟨a, xs, rfl, h1, fun z => ?_, fun z p hp => ?_⟩⟩
  · rw [hl] at z
    have e : (ds.drop (HT.sIx ds.length 0 lo)).take (HT.sIx ds.length ds.length hi - HT.sIx ds.length 0 lo) = ds := by
      rw [z.1, z.2, List.drop_zero, Nat.sub_zero, List.take_length]
    refine q _ _ (.refl .nil) ?_
    rw [e]
    exact .tup h1 h2
  · have e : cutV xs lo hi = (xs.drop (HT.sIx ds.length 0 lo)).take (HT.sIx ds.length ds.length hi - HT.sIx ds.length 0 lo) := by
      unfold cutV
      rw [hl]
    rw [e]
    exact q _ _ (.new .nil hp) (.new hp ((h2.drop _).take _))
/-- t[:n] -/
theorem sl_to {v : V} {ds : List PyData} {H : Hp} {Q : VK} {i : Int} (n : Nat) (h : At K H v (.tuple ds)) (hi : i = n) (q : ∀ x H', Ev none H H' → At K H' x (.tuple (ds.take n)) → Q x H') : WrS (rSlA K) v none (some i) H Q := by
  refine sl_at h fun x H' e hx => q x H' e ?_
  have e1 : (ds.drop (HT.sIx ds.length 0 none)).take (HT.sIx ds.length ds.length (some i) - HT.sIx ds.length 0 none) = ds.take n := by
    rw [hi, HT.sIx_nat, HT.sIx_none, List.drop_zero, Nat.sub_zero]
    by_cases hz : n ≤ ds.length
    · rw [Nat.min_eq_left hz]
    · rw [Nat.min_eq_right (by omega), List.take_length, List.take_of_length_le (by omega)]
  rw [e1] at hx
  exact hx
/-- t[n:] -/
theorem sl_from {v : V} {ds : List PyData} {H : Hp} {Q : VK} {i : Int} (n : Nat) (h : At K H v (.tuple ds)) (hi : i = n) (q : ∀ x H', Ev none H H' → At K H' x (.tuple (ds.drop n)) → Q x H') : WrS (rSlA K) v (some i) none H Q := by
  refine sl_at h fun x H' e hx => q x H' e ?_
  have e1 : (ds.drop (HT.sIx ds.length 0 (some i))).take (HT.sIx ds.length ds.length none - HT.sIx ds.length 0 (some i)) = ds.drop n := by
    rw [hi, HT.sIx_nat, HT.sIx_none]
    by_cases hz : n ≤ ds.length
    · rw [Nat.min_eq_left hz]
      exact List.take_of_length_le (by rw [List.length_drop]; exact Nat.le_refl _)
    · rw [Nat.min_eq_right (by omega), List.drop_of_length_le (Nat.le_refl _), List.drop_of_length_le (by omega)]
      exact List.take_nil
  rw [e1] at hx
  exact hx
/-! ### with_limits -/
def putL (ls : List (List Int)) (r : Nat) (l : List Int) : List (List Int) := ls.take r ++ [l] ++ ls.drop (r + 1)
theorem putL_len {ls : List (List Int)} {r : Nat} {l : List Int} (h : r < ls.length) : (putL ls r l).length = ls.length := by
  unfold putL
  simp only [List.length_append, List.length_take, List.length_drop, List.length_singleton]
  omega
theorem VM.putL {m : Mc} (h : VM m) {r : Nat} {l : List Int} (hr : r < m.ls.length) (hl : VL m.c l) : VM { m with ls := putL m.ls r l } := by
  refine ⟨h.c, by show 1 ≤ (K26.putL m.ls r l).length ∧ (K26.putL m.ls r l).length ≤ 6; rw [putL_len hr]; exact h.r, fun x hx => ?_, h.n, fun d hd => by show VD m.c (K26.putL m.ls r l).length d; rw [putL_len hr]; exact h.ds d hd⟩
  have hx' : x ∈ m.ls.take r ++ [l] ++ m.ls.drop (r + 1) := hx
  rcases List.mem_append.mp hx' with z | z
  · rcases List.mem_append.mp z with z | z
    · exact h.ls x (List.mem_of_mem_take z)
    · rw [List.mem_singleton.mp z]
      exact hl
  · exact h.ls x (List.mem_of_mem_drop z)
def spWithLim (K : PySem.W.Frag) (C : Addr) : Sp0 := fun vs H Q => ∃ (a : Addr) (m : Mc) (r : Nat) (v : V) (l : List Int), vs = [.ref a, .int r, v] ∧ MAt K C H a m ∧ VM m ∧ r < m.ls.length ∧ At K H v (pI l) ∧ VL m.c l ∧ ∀ x H', Ev none H H' → MAt K C H' x { m with ls := putL m.ls r l } → Q (.ref x) H'
theorem scWithLim : FnScope ["machine", "room", "limits", "later"] ["machine", "room", "limits"] (defScope sWithLim) := ⟨rfl, rfl, rfl, by decide +kernel, rfl, by decide +kernel, by decide +kernel⟩
theorem ok_withLim (F : Fun K "with_limits" "with_limits" sWithLim f fd) (G : Gs mg) (T : MTxt K mg C) (dM : DefU P w K mg base 1 "require_machine" ["value"] (spReqM K C)) (dR : DefC P w K mg base 4 "require_room" ["machine", "room"] (spReqRoom K C)) (dL : DefU P w K mg base 3 "are_limits" ["clocks", "value"] (spLimits K))
    (M : Mk K C fI) (FI : FnU P w K mg base 8 fI fdI ["self", "clocks", "limits", "doors"] (spInit K C)) (bI : Binds K fdI ["self", "clocks", "limits", "doors"] []) : FnOk P w K mg base CX0 10 f fd ["machine", "room", "limits"] (toSp (spWithLim K C)) := by
  refine okC F scWithLim (fun vs H Q h => by obtain ⟨a, m, r, v, l, rfl, _⟩ := h; rfl) fun cd A outer s H vs Q hr h => ?_
  obtain ⟨a, m, r, v, l, rfl, ha, hm, hrl, hv, hl, q⟩ := h
  have u : U (cxU true [] P w K mg base ["machine", "room", "limits", "later"] "with_limits" (defScope sWithLim) f cd A outer s H) := .inl rfl
  refine ⟨_, pss_cons (ps_expr (pe_callU u dM (rh (rhR hr) (by decide)) (pa_cons (pv 0) pa_nil))) (pss_cons (ps_expr (pe_callC dR (hr.mono (by decide)) (pa_cons (pv 0) (pa_cons (pv 1) pa_nil))))
    (pss_cons (ps_if (pt_not (pt_val (pe_callU u dL (rh (rhR hr) (by decide)) (pa_cons (pe_at (pv 0)) (pa_cons (pv 2) pa_nil))))) pss_never pss_nil)
    (pss_cons (ps_set (i := 3) scWithLim.nd rfl (Or.inl rfl) (pe_tup (StX.pa_star (pe_slice (sl_wr sl_tupA) (pe_at (pv 0)) po_none (po_some (pv 1))) (pa_cons (pv 2) (StX.pa_star (pe_slice (sl_wr sl_tupA) (pe_at (pv 0)) (po_some (pe_op op_add (pv 1) pe_int)) po_none) pa_nil)))))
    (pss_one (ps_ret (pe_makeU u M FI (rhR hr) T.mgC bI (pa_cons (pe_at (pv 0)) (pa_cons (pv 3) (pa_cons (pe_at (pv 0)) pa_nil))))))))), ?_⟩
  have hc := hm.c
  have hn := hm.r
  refine ⟨_, rfl, a, m, rfl, ha, ⟨_, rfl, _, rfl, a, m, r, rfl, ha, by omega, by omega, ?_⟩⟩
  refine rd_clocks T ha rfl ⟨_, rfl, m.c, l, v, rfl, hv, hl, (by have := hl.1; omega), fun H1 e1 => ⟨true, rfl, iteF ?_⟩⟩
  refine rd_limits T (ha.ev e1) rfl fun vL hL => ⟨_, rfl, _, rfl, sl_to r hL rfl fun x H2 e2 hx => ?_⟩
  obtain ⟨b, xs, rfl, hb, hxs⟩ := hx.tup_inv
  refine ⟨b, xs, rfl, .inl hb, _, rfl, rd_limits T ((ha.ev e1).ev e2) rfl fun vL2 hL2 => ⟨_, rfl, _, _, rfl, rfl, _, rfl, sl_from (r + 1) hL2 (by omega) fun y H3 e3 hy => ?_⟩⟩
  obtain ⟨b2, ys, rfl, hb2, hys⟩ := hy.tup_inv
  refine ⟨b2, ys, rfl, .inl hb2, ?_⟩
  have e13 := (e1.trans e2).trans e3
  have hall : AtAll K H3 (xs ++ v :: (ys ++ [])) ((putL m.ls r l).map pI) := by
    have z := (hxs.ev e3).append ((AtAll.one (hv.ev e13)).append hys)
    rw [← List.map_take, ← List.map_drop] at z
    unfold putL
    rw [List.append_assoc, List.map_append, List.map_append, List.append_nil]
    exact z
  have hlen := hall.length
  rw [List.length_map, putL_len hrl] at hlen
  refine ⟨(by have z : (6 : Nat) ≤ sizeLine := by decide
              omega), fun p hp => ?_⟩
  have e4 := e13.then_new (u := .tup (xs ++ v :: (ys ++ []))) hp
  refine rd_clocks T (ha.ev e4) rfl ⟨_, rfl, rd_doors T (ha.ev e4) rfl fun vD hD => ?_⟩
  exact make_rd (m := { m with ls := putL m.ls r l }) .nil (.new hp hall) hD (hm.putL hrl hl) fun x H5 e5 M5 => q x H5 (e4.trans e5) M5
/-! ### with_door -/
theorem okN {K : PySem.W.Frag} {P : Program} {w : World} {mg : Str → Option Value} {base : Heap} {x qual : Str} {st : Stmt} {f : Addr} {fd : FuncData} {N ps : List Str} {k : Nat} {sp : Sp} (F : Fun K x qual st f fd) (S : FnScope N ps (defScope st)) (len : ∀ vs H Q E, sp vs H Q E → vs.length = ps.length)
    (hbody : ∀ (cdv : Value) (A : Around) (outer : List Env) (s : Shared) (H : Hp) (vs : List V) (Q : VK) (E : XK), Room k (A.deeper (envOfC qual (defScope st) s.heap.objs.size f cdv)) → sp vs H Q E →
      ∃ t, PSs (cxOf (L2N.CX P w) P w K mg base N qual (defScope st) f cdv A outer s H E) (defBody st) t ∧ t { nx := fun _ H' => Q .non H', rt := Q } (start N vs) H) : FnOk P w K mg base (L2N.CX P w) (k + 1) f fd ps sp := by
  obtain ⟨oc, od, kV, doc, pm, an, cdv, ct, osl, rfl, lk, hcd⟩ := F.ex
  exact fn_of lk hcd S len fun A outer s H vs Q E hr hsp => hbody cdv A outer s H vs Q E hr hsp
def limF (n : Int) : HO := .xd [(("limit" : Str), .int n)]
def spWithDoor (K : PySem.W.Frag) (C CT : Addr) : Sp := fun vs H Q E => ∃ (a : Addr) (v : V) (m : Mc) (d : Dr), vs = [.ref a, v] ∧ MAt K C H a m ∧ VM m ∧ At K H v (pD d) ∧ VD m.c m.ls.length d ∧
  (m.ds.length < 12 → ∀ x H', Ev none H H' → MAt K C H' x { m with ds := m.ds ++ [d] } → Q (.ref x) H') ∧ (m.ds.length = 12 → ∀ dd H', Ev none H H' → H' dd = some (limF 12) → E (.ref CT) (some dd) H')
theorem VM.more {m : Mc} (h : VM m) {d : Dr} (hd : VD m.c m.ls.length d) (hn : m.ds.length < 12) : VM { m with ds := m.ds ++ [d] } :=
  ⟨h.c, h.r, h.ls, by show (m.ds ++ [d]).length ≤ 12; rw [List.length_append, List.length_singleton]; omega, fun x hx => by
    have hx' : x ∈ m.ds ++ [d] := hx
    rcases List.mem_append.mp hx' with z | z
    · exact h.ds x z
    · rw [List.mem_singleton.mp z]; exact hd⟩
theorem scWithDoor : FnScope ["machine", "door"] ["machine", "door"] (defScope sWithDoor) := ⟨rfl, rfl, rfl, by decide +kernel, rfl, by decide +kernel, by decide +kernel⟩
theorem ok_withDoor (F : Fun K "with_door" "with_door" sWithDoor f fd) (G : Gs mg) (T : MTxt K mg C) (TT : TmTxt P K mg CT fT) (dM : DefU P w K mg base 1 "require_machine" ["value"] (spReqM K C)) (dD : DefU P w K mg base 5 "is_door_in" ["clocks", "rooms", "value"] (spDoorIn K))
    (M : Mk K C fI) (FI : FnU P w K mg base 8 fI fdI ["self", "clocks", "limits", "doors"] (spInit K C)) (bI : Binds K fdI ["self", "clocks", "limits", "doors"] []) : FnOk P w K mg base (L2N.CX P w) 10 f fd ["machine", "door"] (spWithDoor K C CT) := by
  refine okN F scWithDoor (fun vs H Q E h => by obtain ⟨a, v, m, d, rfl, _⟩ := h; rfl) fun cd A outer s H vs Q E hr h => ?_
  obtain ⟨a, v, m, d, rfl, ha, hm, hv, hd, q1, q2⟩ := h
  have u : U (cxOf (L2N.CX P w) P w K mg base ["machine", "door"] "with_door" (defScope sWithDoor) f cd A outer s H E) := .inl rfl
  refine ⟨_, pss_cons (ps_expr (pe_callU u dM (rh (rhR hr) (by decide)) (pa_cons (pv 0) pa_nil)))
    (pss_cons (ps_if (pt_not (pt_val (pe_callU u dD (rh (rhR hr) (by decide)) (pa_cons (pe_at (pv 0)) (pa_cons (pe_callB cLen (by rfl) G.len PySem.boot_len (pa_cons (pe_at (pv 0)) pa_nil)) (pa_cons (pv 1) pa_nil)))))) pss_never pss_nil)
    (pss_cons (ps_if (pt_cmpR oEq (pe_callB cLen (by rfl) G.len PySem.boot_len (pa_cons (pe_at (pv 0)) pa_nil)) (pe_const rfl G.mDoors) (nomark _)) (pss_one (ps_raiseTm rfl TT hr (L2N.takes_of rfl rfl rfl rfl) (pa_cons (pe_const rfl G.mDoors) pa_nil))) pss_nil)
    (pss_one (ps_ret (pe_makeU u M FI (rhR hr) T.mgC bI (pa_cons (pe_at (pv 0)) (pa_cons (pe_at (pv 0)) (pa_cons (pe_tup (StX.pa_star (pe_at (pv 0)) (pa_cons (pv 1) pa_nil))) pa_nil)))))))), ?_⟩
  have hc := hm.c
  have hn := hm.n
  refine ⟨_, rfl, a, m, rfl, ha, ?_⟩
  refine rd_clocks T ha rfl (rd_limits T ha rfl fun vL hL => len_tup hL ⟨_, rfl, m.c, _, d, v, rfl, hv, ?_, hc.2, fun H1 e1 => ⟨true, rfl, iteF ?_⟩⟩)
  · rw [List.length_map]
    exact hd
  refine rd_doors T (ha.ev e1) rfl fun vD hD => len_tup hD (eq_rd2 (fun z => ⟨true, rfl, iteT ?_⟩) fun z => ⟨false, rfl, iteF ?_⟩)
  · rw [List.length_map] at z
    exact ⟨_, rfl, fun dd hdd => q2 (by omega) dd _ (e1.then_new hdd) upd_same⟩
  · rw [List.length_map] at z
    refine rd_clocks T (ha.ev e1) rfl (rd_limits T (ha.ev e1) rfl fun vL2 hL2 => rd_doors T (ha.ev e1) rfl fun vD2 hD2 => ?_)
    obtain ⟨b, xs, rfl, hb, hxs⟩ := hD2.tup_inv
    have hall : AtAll K H1 (xs ++ [v]) ((m.ds ++ [d]).map pD) := by
      rw [List.map_append]
      exact hxs.append (.one (hv.ev e1))
    have hlen := hxs.length
    rw [List.length_map] at hlen
    refine ⟨b, xs, rfl, .inl hb, _, rfl, (by have z : (13 : Nat) ≤ sizeLine := by decide
                                             rw [List.length_append, List.length_singleton]
                                             omega), fun p hp => ?_⟩
    have e2 := (Ev.refl (Ok.nil (H := H1))).then_new (u := .tup (xs ++ [v])) hp
    exact make_rd (m := { m with ds := m.ds ++ [d] }) .nil (hL2.ev e2) (.new hp hall) (hm.more hd (by omega)) fun x H3 e3 M3 => q1 (by omega) x H3 ((e1.trans e2).trans e3) M3
end K26

end PartL4

section PartN0
set_option maxRecDepth 100000
set_option maxHeartbeats 4000000
/-! N0: x != y where the class has __eq__ alone; properties; calls of with_door that raise nothing. -/
namespace K26
open PySem PySem.W PyProof.Rows
section
variable {prog : Program} {w : World} {A : Around} {E : Value → Shared → Prop} {s : Shared} {K : Frag} {x C L f : Addr} {h₀ : Heap} {m : Str → Option Value} {ox : Obj} {od : Option Obj} {b tb : Value}
theorem objNe_K {Q : PySem.Fin → Shared → Prop} (X : K.In s.heap) (I : InstAt s.heap x ox C od) (hs : findIn K (.ref C) "__eq__" = some (some (.ref f))) (hf : isFn K (.ref f) = true) (hu : A.units < cLine)
    (h : wpAny (model prog w) A (call (.ref f) [.ref x, b]) (fun v s' => ∃ k, v = .bool k ∧ Q (.done (.ret (.bool (!k)))) s') E s) : wpAny (model prog w) A (Builtin.«object.__ne__» ⟨[.ref x, b], []⟩) Q E s := by
  unfold Builtin.«object.__ne__»
  repeat (first
    | with_reducible refine wpAny_cRoomFor hu ?_
    | (refine wpAny_bind (m := callSpecialIfBound? (.ref x) (Str.ofString "__eq__") [b])
        (ifBound_K X I hs hf (wpAny_mono h (fun r s' hr => by
          obtain ⟨k, rfl, hq⟩ := hr
          repeat (first | exact hq | exact wpAny_pure hq | exact wpAny_truthy_bool hq | (refine wpAny_bind (m := truthy (.bool _)) (wpAny_truthy_bool ?_)) | wp_step)) fun _ _ e => e)))
    | wp_step)
theorem neBound_K {Q : Option Value → Shared → Prop} (X : K.In s.heap) (I : InstAt s.heap x ox C od) (hs : findIn K (.ref C) "__ne__" = some (some (.builtin "object.__ne__")))
    (h : wpAny (model prog w) A (call (.builtin "object.__ne__") (.ref x :: [b])) (fun v => Q (some v)) E s) : wpAny (model prog w) A (callSpecialIfBound? (.ref x) "__ne__" [b]) Q E s := by
  simp only [callSpecialIfBound?, bindSpecialIfBound?]
  refine wpAny_holding (wpAny_bind (wpAny_bind (wpAny_bind (I.type.here ((looks_findIn X hs).here ?_)))))
  simp only [PySem.F.cmp_object.ne.bind]
  refine wpAny_bind (wpAny_askSetting (wpAny_ite ?_))
  have fin : wpAny (model prog w) A (call (.builtin "object.__ne__") ([.ref x] ++ [b]) >>= fun v => pure (some v)) Q E s := wpAny_bind (wpAny_mono h (fun v s' h' => wpAny_pure h') fun _ _ h' => h')
  split
  · exact wpAny_bind (wpAny_pure (wpAny_pure fin))
  · exact wpAny_tryCatch (wpAny_bind (wpAny_pure (wpAny_pure fin)))
theorem ne_K {Q : Value → Shared → Prop} (hu : A.units + 1 < cLine) (F : Fr h₀ L s.heap m) (X₀ : K.In h₀) (I : InstAt s.heap x ox C od) (hb : Looks (model prog w) s.heap (typeOf b) tb) (hn : notFirst K C tb = true)
    (hne : findIn K (.ref C) "__ne__" = some (some (.builtin "object.__ne__"))) (ho : mroIn K C (.type "object") = some true) (hs : findIn K (.ref C) "__eq__" = some (some (.ref f))) (hf : isFn K (.ref f) = true)
    (h : wpAny (model prog w) A.in1 (call (.ref f) [.ref x, b]) (fun v s' => ∃ k, v = .bool k ∧ Q (.bool (!k)) s') E s) : wpAny (model prog w) A (richCompare .NotEq (.ref x) b) Q E s := by
  have X := X₀.keeps F.keep
  have one : wpAny (model prog w) A (tryCompare (.ref x) "__ne__" b) (fun r s' => ∃ v, r = some v ∧ Q v s') E s := by
    unfold tryCompare
    refine wpAny_bind (neBound_K X I hne (wpAny_call (codeAny_call_builtin PySem.F.cmp_object.ne.plain PySem.F.cmpEntry_ne
      (check_slot PySem.F.cmpKind_ne PySem.F.cmpSplit_ne (I.type.andThen (looks_mroIn X ho)) (PySem.F.cmpArgs_ne _ _) (objNe_K (A := A.in1) X I hs hf hu (wpAny_mono h (fun v s' hv => ?_) fun _ _ e => e))))))
    obtain ⟨k, rfl, hq⟩ := hv
    first | exact ⟨k, rfl, wpAny_pure ⟨_, rfl, hq⟩⟩ | exact ⟨k, rfl, wpAny_pure (wpAny_pure ⟨_, rfl, hq⟩)⟩ | exact ⟨k, rfl, ⟨_, rfl, hq⟩⟩
  unfold richCompare
  simp only [oneThing_ref]
  refine wpAny_holding (wpAny_bind (wpAny_cRoomFor (Nat.lt_of_succ_lt hu) ?_))
  rw [cmpInfo_NotEq]
  dsimp only
  refine wpAny_bind (I.type.here (wpAny_bind (hb.here ?_)))
  split
  · rename_i q
    have e : subIn K tb (.ref C) = some false := by
      rcases Bool.or_eq_true_iff.mp hn with e | e
      · rw [beq_iff_eq.mp e] at q; simp at q
      · exact beq_iff_eq.mp e
    refine wpAny_bind ((looks_subIn X e).here ?_)
    simp only [Bool.false_eq_true, if_false]
    refine wpAny_bind (wpAny_mono one (fun r s' z => ?_) fun _ _ e => e)
    obtain ⟨v, rfl, hq⟩ := z
    exact wpAny_pure hq
  · refine wpAny_bind (wpAny_pure ?_)
    simp only [Bool.false_eq_true, if_false]
    refine wpAny_bind (wpAny_mono one (fun r s' z => ?_) fun _ _ e => e)
    obtain ⟨v, rfl, hq⟩ := z
    exact wpAny_pure hq
end
end K26
namespace K26
open PySem PySem.Spec PyProof.Rows L2 L2H SlX
section
variable {X : Cx} {C g : Addr} {fd : FuncData} {ps : List Str} {sp : Sp0} {n : Nat}
def rNeOwn (K : PySem.W.Frag) (C : Addr) (sp : Sp0) : R2 := fun x y H Q => ∃ a dx vs b C' dy ws, x = .ref a ∧ y = .ref b ∧ Slt H a C dx vs ∧ Slt H b C' dy ws ∧ PySem.W.notFirst K C (.ref C') = true ∧ sp [x, y] H fun v H' => ∃ k, v = .bl k ∧ Q (.bl (!k)) H'
theorem op_neOwn (hne : PySem.W.findIn X.K (.ref C) "__ne__" = some (some (.builtin "object.__ne__"))) (ho : PySem.W.mroIn X.K C (.type "object") = some true) (hs : PySem.W.findIn X.K (.ref C) "__eq__" = some (some (.ref g))) (hf : PySem.W.isFn X.K (.ref g) = true)
    (F : FnU X.prog X.w X.K X.mg X.base n g fd ps sp) (hb : Binds X.K fd ps []) (hr : Room (n + 1) X.A) : OpR X (compareOp .NotEq) (rNeOwn X.K C sp) := by
  intro pins s σ H x y v u Q I rx ry h
  obtain ⟨a, dx, vs, b, C', dy, ws, rfl, rfl, ha, hb', hn, q⟩ := h
  cases (show v = Value.ref a from rx)
  cases (show u = Value.ref b from ry)
  obtain ⟨sl, od, _, J, _⟩ := slt_inst I ha
  obtain ⟨sl', od', _, J', _⟩ := slt_inst I hb'
  obtain ⟨m, hF⟩ := I.fr
  show wpAny _ _ (richCompare .NotEq (.ref a) (.ref b)) _ _ _
  refine ne_K (tb := .ref C') (hu_of hr) hF I.ok.mod.kin J J'.type hn hne ho hs hf ?_
  refine wpAny_mono (wpAny_call (run_at (E := E0) (us := [.ref a, .ref b]) (ws := [.ref a, .ref b]) (F.c.raw hb .nil) hr.in1 I.env0.in1 pass0 I (.cons rfl (.cons rfl .nil)) q)) (fun w s' z => ?_) fun _ _ x => x
  obtain ⟨z', H', I', rz, k, ek, qz⟩ := z
  subst ek
  cases (show w = Value.bool k from rz)
  exact ⟨k, rfl, .bl _, H', I', rfl, qz⟩
end
end K26

end PartN0

section PartW1
set_option maxRecDepth 100000
set_option maxHeartbeats 4000000
/-! W1: the dice. -/
namespace K26
open PySem PySem.Spec PyProof.Rows L2 L2H SlX
variable {P : Program} {w : World} {K : PySem.W.Frag} {mg : Str → Option Value} {base : Heap} {f C : Addr} {fd : FuncData}
theorem gt_rd2 {a b : Int} {Q : VK} {H : Hp} (h1 : b < a → Q (.bl true) H) (h2 : ¬ b < a → Q (.bl false) H) : Wr2 (rI0 fun i j => .bl (decide (j < i))) (.int a) (.int b) H Q := by
  refine ⟨⟨a, b, rfl, rfl, ?_⟩⟩
  show Q (.bl (decide (b < a))) H
  by_cases h : b < a
  · rw [decide_eq_true h]; exact h1 h
  · rw [decide_eq_false h]; exact h2 h
theorem lt_rd2 {a b : Int} {Q : VK} {H : Hp} (h1 : a < b → Q (.bl true) H) (h2 : ¬ a < b → Q (.bl false) H) : Wr2 (rI0 fun i j => .bl (decide (i < j))) (.int a) (.int b) H Q := by
  refine ⟨⟨a, b, rfl, rfl, ?_⟩⟩
  show Q (.bl (decide (a < b))) H
  by_cases h : a < b
  · rw [decide_eq_true h]; exact h1 h
  · rw [decide_eq_false h]; exact h2 h
theorem len_lst {H : Hp} {a : Addr} {xs : List V} {Q : VK} (h : SqL K H a xs) (q : Q (.int xs.length) H) : Wr1 (rLen K) [.ref a] H Q := ⟨⟨a, xs, rfl, .inl h, q⟩⟩
/-! ### _law_dice -/
def spDice (K : PySem.W.Frag) : Sp0 := fun vs H Q => ∃ (a : Addr) (ns : List Int) (i : Nat), vs = [.ref a, .int i] ∧ SqL K H a (ns.map V.int) ∧ ∀ D H', Ev none H H' → H D = none → DiceAt H' D → Q (.ref D) H'
theorem scDice : FnScope ["_law_script", "_law_spot", "_law_cell", "_law_left"] ["_law_script", "_law_spot"] (defScope sDice) := ⟨rfl, rfl, rfl, by decide +kernel, rfl, by decide +kernel, by decide +kernel⟩
theorem ok_dice (F : Fun K "_law_dice" "_law_dice" sDice f fd) (G : Gs mg) : FnOk P w K mg base CX0 1 f fd ["_law_script", "_law_spot"] (toSp (spDice K)) := by
  refine okC F scDice (fun vs H Q h => by obtain ⟨a, ns, i, rfl, _⟩ := h; rfl) fun cd A outer s H vs Q hr h => ?_
  obtain ⟨a, ns, i, rfl, hS, q⟩ := h
  refine ⟨_, pss_cons (ps_set (i := 2) scDice.nd rfl (Or.inl rfl) (pe_ifExp (pt_cmpR oLt (pv 1) (pe_callB cLen (by rfl) G.len PySem.boot_len (pa_cons (pv 0) pa_nil)) (nomark _))
      (pe_callTy call_int1 (by rfl) G.int boot_int (pa_cons (pe_ix ix_list (pv 0) (pv 1) (fun _ _ => rfl)) pa_nil)) (pe_op op_add (pe_op op_mul pe_int (pv 1)) pe_int)))
    (pss_cons (ps_set (i := 3) scDice.nd rfl (Or.inl rfl) (pe_op op_mod (pe_callB (call_max2 rfl) (by rfl) G.max boot_max (pa_cons pe_int (pa_cons (pe_op op_sub (pe_callB call_abs (by rfl) G.abs boot_abs (pa_cons (pv 2) pa_nil)) (pe_op op_pow pe_int pe_int)) pa_nil)))
      (pe_op op_mulW (pe_op op_pow pe_int pe_int) (pe_op op_pow pe_int pe_int))))
    (pss_one (ps_ret (pe_lst (pa_cons (pv 3) (pa_cons (pe_op op_add (pe_op op_add (pe_op op_add (pe_op op_mul (pe_op op_mod (pe_callB call_abs (by rfl) G.abs boot_abs (pa_cons (pv 2) pa_nil)) pe_int) pe_int) (pe_op op_mul pe_int (pv 1)))
      (pe_op op_mul pe_int (pe_callTy call_int1 (by rfl) G.int boot_int (pa_cons (pe_cmpR op_lt (pv 2) pe_int (nomark _)) pa_nil)))) pe_int) (pa_cons pe_int pa_nil))))))), ?_⟩
  refine ⟨_, rfl, _, rfl, len_lst hS (lt_rd2 (fun z => ⟨true, rfl, iteT ?_⟩) fun z => ⟨false, rfl, iteF ?_⟩)⟩
  rw [List.length_map] at z
  obtain ⟨n, hn⟩ : ∃ n, ns[i]? = some n := ⟨ns[i]'(by omega), List.getElem?_eq_getElem (by omega)⟩
  refine ⟨_, rfl, _, rfl, a, _, i, .int n, rfl, rfl, hS, atI_nat (by rw [List.getElem?_map, hn]; rfl), .inl ⟨n, rfl, ?_⟩⟩
  rotate_left 1
  refine ⟨_, rfl, _, _, rfl, rfl, .inl ⟨by decide, by decide⟩, _, _, rfl, rfl, ?_⟩
  all_goals
    refine ⟨_, rfl, _, rfl, _, _, rfl, rfl, ⟨by decide, by decide, by decide⟩, _, _, rfl, rfl, _, _, rfl, _, _, rfl, rfl, ⟨by decide, by decide, by decide⟩, _, _, rfl, rfl, ⟨by decide, by decide, by decide⟩, _, _, rfl, rfl, (show CMulW _ _ by unfold CMulW; decide +kernel), _, _, rfl, rfl, (by show (0 : Int) < 10 ^ Int.toNat 57 * 10 ^ Int.toNat 59; decide +kernel), ?_⟩
    refine ⟨_, rfl, _, rfl, _, rfl, _, _, rfl, rfl, (by show (0 : Int) < 1152921504606846869; decide), _, _, rfl, rfl, .inr ⟨by decide, by decide⟩, _, rfl, _, _, rfl, rfl, .inl ⟨by decide, by decide⟩, _, _, rfl, rfl, _, rfl, _, _, rfl, rfl, .inr ⟨_, rfl, _, _, rfl, rfl, .inl ⟨by decide, by decide⟩, _, _, rfl, rfl, _, _, rfl, rfl, (by show 3 ≤ sizeLine; decide), fun p hp => ?_⟩⟩
    exact q p _ (.new .nil hp) hp ⟨_, _, _, upd_same⟩
/-! ### _law_roll -/
def spRoll : Sp0 := fun vs H Q => ∃ (D : Addr) (n : Int), vs = [.ref D, .int n] ∧ DiceAt H D ∧ 1 ≤ n ∧ n ≤ 1000 ∧ ∀ k H', Ev (some D) H H' → 0 ≤ k → k < n → Q (.int k) H'
theorem Ev.dice {D : Addr} {H : Hp} (h : DiceAt H D) {l s c : Int} : Ev (some D) H (upd H D (.lst [.int l, .int s, .int c])) :=
  ⟨fun b u e n => by rw [upd_ne (fun z => n (by rw [z]))]; exact e, fun d hd => (Option.some.inj hd) ▸ h, fun d hd => (Option.some.inj hd) ▸ ⟨l, s, c, upd_same⟩⟩
theorem okD {D : Addr} {H : Hp} (h : DiceAt H D) : Ok (some D) H := fun _ hd => (Option.some.inj hd) ▸ h
theorem scRoll : FnScope ["_law_dice_here", "_law_most", "_law_found", "_law_one", "_law_two"] ["_law_dice_here", "_law_most"] (defScope sRoll) := ⟨rfl, rfl, rfl, by decide +kernel, rfl, by decide +kernel, by decide +kernel⟩
theorem ok_roll (F : Fun K "_law_roll" "_law_roll" sRoll f fd) (G : Gs mg) : FnOk P w K mg base CX0 1 f fd ["_law_dice_here", "_law_most"] (toSp spRoll) := by
  refine okC F scRoll (fun vs H Q h => by obtain ⟨a, n, rfl, _⟩ := h; rfl) fun cd A outer s H vs Q hr h => ?_
  obtain ⟨D, n, rfl, hD, h1, h2, q⟩ := h
  refine ⟨_, pss_cons (ps_if (pt_cmpR oGt (pe_ix ix_list (pv 0) pe_int (fun _ _ => rfl)) pe_int (nomark _))
      (pss_cons (ps_set (i := 2) scRoll.nd rfl (Or.inl rfl) (pe_op op_mod (pe_callTy call_int1 (by rfl) G.int boot_int (pa_cons (pe_ix ix_list (pv 0) pe_int (fun _ _ => rfl)) pa_nil)) (pv 1)))
      (pss_cons (ps_asg (pe_op op_fdiv (pe_ix ix_list (pv 0) pe_int (fun _ _ => rfl)) (pv 1)) (pg_sub (pv 0) pe_int set_list)) (pss_one (ps_ret (pv 2))))) pss_nil)
    (pss_cons (ps_asg (pe_op op_add (pe_ix ix_list (pv 0) pe_int (fun _ _ => rfl)) pe_int) (pg_sub (pv 0) pe_int set_list))
    (pss_cons (ps_set (i := 3) scRoll.nd rfl (Or.inl rfl) (pe_op op_mod (pe_callTy call_int1 (by rfl) G.int boot_int (pa_cons (pe_op op_add (pe_ix ix_list (pv 0) pe_int (fun _ _ => rfl)) (pe_op op_mul pe_int (pe_ix ix_list (pv 0) pe_int (fun _ _ => rfl)))) pa_nil)) pe_int))
    (pss_cons (ps_set (i := 4) scRoll.nd rfl (Or.inl rfl) (pe_op op_add (pe_op op_mul (pe_op op_mod (pe_callTy call_int1 (by rfl) G.int boot_int (pa_cons (pe_op op_add (pe_op op_mul (pv 3) (pv 3)) (pe_op op_mul pe_int (pe_ix ix_list (pv 0) pe_int (fun _ _ => rfl)))) pa_nil)) pe_int) pe_int) (pv 3)))
    (pss_one (ps_ret (pe_op op_mod (pe_callTy call_int1 (by rfl) G.int boot_int (pa_cons (pe_op op_fdiv (pv 4) pe_int) pa_nil)) (pv 1))))))), ?_⟩
  obtain ⟨l, s0, c, hd⟩ := hD
  refine ⟨_, rfl, D, _, 0, .int l, rfl, rfl, .of hd, atI_nat (j := 0) rfl, gt_rd2 (fun z => ⟨true, rfl, iteT ?_⟩) fun z => ⟨false, rfl, iteF ?_⟩⟩
  · refine ⟨_, rfl, D, _, 0, .int l, rfl, rfl, .of hd, atI_nat (j := 0) rfl, .inl ⟨l, rfl, _, rfl, _, _, rfl, rfl, (by omega), ?_⟩⟩
    refine ⟨_, rfl, D, _, 0, .int l, rfl, rfl, .of hd, atI_nat (j := 0) rfl, _, rfl, _, _, rfl, rfl, ⟨by omega, by omega⟩, _, rfl, D, _, 0, 0, rfl, rfl, hd, rfl, ?_⟩
    exact ⟨_, rfl, q _ _ (.dice ⟨l, s0, c, hd⟩) (Int.emod_nonneg _ (by omega)) (Int.emod_lt_of_pos _ (by omega))⟩
  · refine ⟨_, rfl, D, _, 2, .int c, rfl, rfl, .of hd, atI_nat (j := 2) rfl, _, _, rfl, rfl, _, rfl, D, _, 2, 2, rfl, rfl, hd, rfl, ?_⟩
    have hd2 : (upd H D (.lst [.int l, .int s0, .int (c + 1)])) D = some (.lst [.int l, .int s0, .int (c + 1)]) := upd_same
    have ev := Ev.dice (l := l) (s := s0) (c := c + 1) ⟨l, s0, c, hd⟩
    show tSeq _ _ _ _ (upd H D (.lst [.int l, .int s0, .int (c + 1)]))
    generalize upd H D (.lst [.int l, .int s0, .int (c + 1)]) = H2 at hd2 ev ⊢
    refine ⟨_, rfl, D, _, 1, .int s0, rfl, rfl, .of hd2, atI_nat (j := 1) rfl, _, rfl, D, _, 2, .int (c + 1), rfl, rfl, .of hd2, atI_nat (j := 2) rfl, _, _, rfl, rfl, .inl ⟨by decide, by decide⟩, _, _, rfl, rfl, .inl ⟨_, rfl, _, _, rfl, rfl, (by show (0 : Int) < 2305843009213693421; decide), ?_⟩⟩
    have b1 := Int.emod_nonneg (s0 + 71828177 * (c + 1)) (show (2305843009213693421 : Int) ≠ 0 by decide)
    have b2 := Int.emod_lt_of_pos (s0 + 71828177 * (c + 1)) (show (0 : Int) < 2305843009213693421 by decide)
    refine ⟨_, rfl, _, rfl, _, _, rfl, rfl, .inl ⟨by omega, by omega⟩, _, rfl, D, _, 2, .int (c + 1), rfl, rfl, .of hd2, atI_nat (j := 2) rfl, _, _, rfl, rfl, .inl ⟨by decide, by decide⟩, _, _, rfl, rfl, .inl ⟨_, rfl, _, _, rfl, rfl, (by show (0 : Int) < 2305843009213693381; decide), ?_⟩⟩
    refine ⟨_, _, rfl, rfl, .inr ⟨by decide, by decide⟩, _, rfl, _, _, rfl, rfl, ?_⟩
    exact ⟨_, rfl, _, _, rfl, rfl, ⟨by decide, by decide⟩, .inl ⟨_, rfl, _, rfl, _, _, rfl, rfl, by omega, q _ _ ev (Int.emod_nonneg _ (by omega)) (Int.emod_lt_of_pos _ (by omega))⟩⟩
end K26

end PartW1

section PartW2
set_option maxRecDepth 100000
set_option maxHeartbeats 4000000
/-! W2: drawn guards, lots, doors. -/
namespace K26
open PySem PySem.Spec PyProof.Rows L2 L2H SlX
variable {P : Program} {w : World} {K : PySem.W.Frag} {mg : Str → Option Value} {base : Heap} {f C : Addr} {fd : FuncData}
theorem yes_rd {σ : L2.St} {H : Hp} {te : TE} {kt : V → Hp → Prop} {kf : Hp → Prop} (h : te σ H kt) : tYes σ H fun b H3 => if b = true then te σ H3 kt else kf H3 := by
  show if true = true then te σ H kt else kf H
  rw [if_pos rfl]
  exact h
/-! ### _law_pick -/
def spPick : Sp0 := fun vs H Q => ∃ (D L : Addr) (xs : List V), vs = [.ref D, .ref L] ∧ DiceAt H D ∧ H L = some (.lst xs) ∧ L ≠ D ∧ 1 ≤ xs.length ∧ xs.length ≤ 1000 ∧ ∀ v H', Ev (some D) H H' → v ∈ xs → Q v H'
theorem scPick : FnScope ["_law_dice_here", "_law_items"] ["_law_dice_here", "_law_items"] (defScope sPick) := ⟨rfl, rfl, rfl, by decide +kernel, rfl, by decide +kernel, by decide +kernel⟩
theorem ok_pick (F : Fun K "_law_pick" "_law_pick" sPick f fd) (G : Gs mg) (dR : DefC P w K mg base 1 "_law_roll" ["_law_dice_here", "_law_most"] spRoll) : FnOk P w K mg base CX0 2 f fd ["_law_dice_here", "_law_items"] (toSp spPick) := by
  refine okC F scPick (fun vs H Q h => by obtain ⟨D, L, xs, rfl, _⟩ := h; rfl) fun cd A outer s H vs Q hr h => ?_
  obtain ⟨D, L, xs, rfl, hD, hL, hn, h1, h2, q⟩ := h
  refine ⟨_, pss_one (ps_ret (pe_ix ix_list (pv 1) (pe_callC dR hr (pa_cons (pv 0) (pa_cons (pe_callB cLen (by rfl) G.len PySem.boot_len (pa_cons (pv 1) pa_nil)) pa_nil))) (fun _ _ => rfl))), ?_⟩
  refine ⟨_, rfl, _, rfl, _, rfl, len_lst (.of hL) ⟨D, _, rfl, hD, by omega, by omega, fun k H' ev hk0 hk => ?_⟩⟩
  obtain ⟨j, rfl⟩ : ∃ j : Nat, k = j := ⟨k.toNat, by omega⟩
  have hj : j < xs.length := by omega
  exact ⟨L, xs, j, xs[j], rfl, rfl, .of (ev.lst hL (fun z => hn (Option.some.inj z).symm)), atI_nat (List.getElem?_eq_getElem hj), q _ _ ev (List.getElem_mem hj)⟩
/-! ### _law_ma_guard -/
def spMaGuard (K : PySem.W.Frag) : Sp0 := fun vs H Q => ∃ (D : Addr), vs = [.ref D, .int 3] ∧ DiceAt H D ∧ ∀ v g H', Ev (some D) H H' → At K H' v (pG g) → VG g → Q v H'
theorem scMaGuard : FnScope ["_law_dice_here", "_law_most", "_law_low"] ["_law_dice_here", "_law_most"] (defScope sMaGuard) := ⟨rfl, rfl, rfl, by decide +kernel, rfl, by decide +kernel, by decide +kernel⟩
theorem ok_maGuard (F : Fun K "_law_ma_guard" "_law_ma_guard" sMaGuard f fd) (dR : DefC P w K mg base 1 "_law_roll" ["_law_dice_here", "_law_most"] spRoll) : FnOk P w K mg base CX0 2 f fd ["_law_dice_here", "_law_most"] (toSp (spMaGuard K)) := by
  refine okC F scMaGuard (fun vs H Q h => by obtain ⟨D, rfl, _⟩ := h; rfl) fun cd A outer s H vs Q hr h => ?_
  obtain ⟨D, rfl, hD, q⟩ := h
  refine ⟨_, pss_cons (ps_set (i := 2) scMaGuard.nd rfl (Or.inl rfl) (pe_callC dR hr (pa_cons (pv 0) (pa_cons (pe_op op_add (pv 1) pe_int) pa_nil))))
    (pss_one (ps_ret (pe_tup (pa_cons (pv 2) (pa_cons (pe_op op_add (pv 2) (pe_callC dR hr (pa_cons (pv 0) (pa_cons (pe_op op_sub (pe_op op_add (pv 1) pe_int) (pv 2)) pa_nil)))) pa_nil))))), ?_⟩
  refine ⟨_, rfl, _, rfl, _, _, rfl, rfl, D, _, rfl, hD, by omega, by omega, fun k H1 e1 hk0 hk1 => ?_⟩
  refine ⟨_, rfl, _, rfl, _, rfl, _, rfl, _, _, rfl, rfl, _, rfl, _, _, rfl, rfl, D, _, rfl, e1.b.at_, by omega, by omega, fun k2 H2 e2 h20 h21 => ⟨_, _, rfl, rfl, (by show 2 ≤ sizeLine; decide), fun p hp => ?_⟩⟩
  exact q _ (k, k + k2) _ ((e1.trans e2).then_new hp) (.new hp (.cons (.int _) (.one (.int _)))) ⟨hk0, by show k ≤ k + k2; omega, by show k + k2 ≤ 4; omega⟩
/-! ### _law_ma_lot -/
theorem Asc.up {ns : List Int} {i : Nat} (h : Asc ns i) : Asc ns ((i + 1 : Nat) : Int) := ⟨fun n hn => ⟨(h.b n hn).1, by have := (h.b n hn).2; omega⟩, h.lt⟩
theorem Asc.snoc {ns : List Int} {i : Nat} (h : Asc ns i) : Asc (ns ++ [(i : Int)]) ((i + 1 : Nat) : Int) := by
  refine ⟨fun n hn => ?_, fun j x y hx hy => ?_⟩
  · rcases List.mem_append.mp hn with z | z
    · exact ⟨(h.b n z).1, by have := (h.b n z).2; omega⟩
    · rw [List.mem_singleton.mp z]
      omega
  · by_cases hj : j + 1 < ns.length
    · rw [List.getElem?_append_left (by omega)] at hx
      rw [List.getElem?_append_left hj] at hy
      exact h.lt j x y hx hy
    · have h2 := (List.getElem?_eq_some_iff.mp hy).1
      rw [List.length_append, List.length_singleton] at h2
      have e : j + 1 = ns.length := by omega
      rw [List.getElem?_append_left (by omega)] at hx
      rw [List.getElem?_append_right (by omega), e, Nat.sub_self] at hy
      cases (show some (i : Int) = some y from hy)
      have := (h.b x (List.mem_of_getElem? hx)).2
      omega
def spMaLot (K : PySem.W.Frag) : Sp0 := fun vs H Q => ∃ (D : Addr) (c : Int), vs = [.ref D, .int c] ∧ DiceAt H D ∧ 0 ≤ c ∧ c ≤ 1000 ∧ ∀ v ns H', Ev (some D) H H' → At K H' v (pI ns) → Asc ns c → Q v H'
theorem scMaLot : FnScope ["_law_dice_here", "_law_clocks", "_law_clock"] ["_law_dice_here", "_law_clocks"] (defScope sMaLot) := ⟨rfl, rfl, rfl, by decide +kernel, rfl, by decide +kernel, by decide +kernel⟩
theorem ok_maLot (F : Fun K "_law_ma_lot" "_law_ma_lot" sMaLot f fd) (G : Gs mg) (dR : DefC P w K mg base 1 "_law_roll" ["_law_dice_here", "_law_most"] spRoll) : FnOk P w K mg base CX0 2 f fd ["_law_dice_here", "_law_clocks"] (toSp (spMaLot K)) := by
  refine okC F scMaLot (fun vs H Q h => by obtain ⟨D, c, rfl, _⟩ := h; rfl) fun cd A outer s H vs Q hr h => ?_
  obtain ⟨D, c, rfl, hD, h1, h2, q⟩ := h
  refine ⟨_, pss_one (ps_ret (pe_callTy call_tuple_of (by rfl) G.tuple boot_tuple (pa_cons (pe_lc (own := [("_law_clock", 2)]) (g := gName 2) rfl scMaLot.nd (pi_range1 (by rfl) G.range (pa_cons (pv 1) pa_nil)) (blkOk_by (N := ["_law_dice_here", "_law_clocks", "_law_clock"]) (sc := defScope sMaLot) (by decide +kernel))
      (fun _ _ _ _ _ => pg_name (i := 2) scMaLot.nd rfl (Or.inl rfl)) (fun _ _ _ _ _ => pts_one (pt_cmpR oEq (pe_callC dR hr (pa_cons (pv 0) (pa_cons pe_int pa_nil))) pe_int (nomark _))) (fun _ _ _ _ _ => pv 2)) pa_nil))), ?_⟩
  refine ⟨_, rfl, _, rfl, by omega, by omega, fun L hL => lc_runD (walk_range (lo := 0)) hL K (some D) (okD hD) (fun _ _ => trivial) (fun i acc _ => ∃ ns : List Int, acc = ns.map V.int ∧ Asc ns i) ⟨[], rfl, .nil _⟩ (fun _ _ _ _ _ h => h) (by omega) ?_ ?_⟩
  · rintro i x acc H1 H2 kt kf hi ev ⟨ns, rfl, hasc⟩ ⟨rfl, rfl⟩ k1 k2
    refine ⟨rfl, _, rfl, D, 2, rfl, ev.b.at_, by decide, by decide, fun k H3 e3 hk0 hk1 => eq_rd2 (fun z => ⟨true, rfl, iteT ⟨_, rfl, k1 _ _ e3 ⟨ns ++ [(i : Int)], ?_, hasc.snoc⟩⟩⟩) fun z => ⟨false, rfl, iteF (k2 _ e3 ⟨ns, rfl, hasc.up⟩)⟩⟩
    rw [List.map_append]
    show _ ++ [V.int (0 + (i : Int))] = _ ++ [V.int i]
    rw [Int.zero_add]
  · rintro acc H1 hacc hle ev ⟨ns, rfl, hasc⟩
    refine ⟨L, _, rfl, .inl ⟨.of hacc, fun p hp => q _ ns _ (ev.then_new hp) (.new hp (.ints ns)) ?_⟩⟩
    rwa [Int.toNat_of_nonneg h1] at hasc
/-! ### _law_ma_door -/
def spMaDoor (K : PySem.W.Frag) : Sp0 := fun vs H Q => ∃ (D : Addr) (c r : Int), vs = [.ref D, .int c, .int r] ∧ DiceAt H D ∧ (1 ≤ c ∧ c ≤ 3) ∧ (1 ≤ r ∧ r ≤ 6) ∧ ∀ v d H', Ev (some D) H H' → At K H' v (pD d) → VD c r d → Q v H'
theorem scMaDoor : FnScope ["_law_dice_here", "_law_clocks", "_law_rooms", "_law_guards", "_law_clock"] ["_law_dice_here", "_law_clocks", "_law_rooms"] (defScope sMaDoor) := ⟨rfl, rfl, rfl, by decide +kernel, rfl, by decide +kernel, by decide +kernel⟩
theorem ok_maDoor (F : Fun K "_law_ma_door" "_law_ma_door" sMaDoor f fd) (G : Gs mg) (dR : DefC P w K mg base 1 "_law_roll" ["_law_dice_here", "_law_most"] spRoll) (dG : DefC P w K mg base 2 "_law_ma_guard" ["_law_dice_here", "_law_most"] (spMaGuard K)) (dL : DefC P w K mg base 2 "_law_ma_lot" ["_law_dice_here", "_law_clocks"] (spMaLot K)) :
    FnOk P w K mg base CX0 3 f fd ["_law_dice_here", "_law_clocks", "_law_rooms"] (toSp (spMaDoor K)) := by
  refine okC F scMaDoor (fun vs H Q h => by obtain ⟨D, c, r, rfl, _⟩ := h; rfl) fun cd A outer s H vs Q hr h => ?_
  obtain ⟨D, c, r, rfl, hD, hc, hrr, q⟩ := h
  have hr1 := hr.mono (show 1 ≤ 2 by decide)
  refine ⟨_, pss_cons (ps_set (i := 3) scMaDoor.nd rfl (Or.inl rfl) (pe_callTy call_tuple_of (by rfl) G.tuple boot_tuple (pa_cons (pe_lc (own := [("_law_clock", 4)]) (g := gName 4) (tt := tYes) rfl scMaDoor.nd (pi_range1 (by rfl) G.range (pa_cons (pv 1) pa_nil)) (blkOk_by (N := ["_law_dice_here", "_law_clocks", "_law_rooms", "_law_guards", "_law_clock"]) (sc := defScope sMaDoor) (by decide +kernel))
      (fun _ _ _ _ _ => pg_name (i := 4) scMaDoor.nd rfl (Or.inl rfl)) (fun _ _ _ _ _ => pts_nil)
      (fun _ _ _ _ _ => pe_ifExp (pt_cmpR oGt (pe_callC dR hr1 (pa_cons (pv 0) (pa_cons pe_int pa_nil))) pe_int (nomark _)) (pe_callC dG hr (pa_cons (pv 0) (pa_cons pe_int pa_nil))) (pe_tup (pa_cons pe_int (pa_cons pe_int pa_nil))))) pa_nil)))
    (pss_one (ps_ret (pe_tup (pa_cons (pe_callC dR hr1 (pa_cons (pv 0) (pa_cons (pv 2) pa_nil))) (pa_cons (pv 3) (pa_cons (pe_callC dL hr (pa_cons (pv 0) (pa_cons (pv 1) pa_nil))) (pa_cons (pe_callC dR hr1 (pa_cons (pv 0) (pa_cons (pv 2) pa_nil))) pa_nil))))))), ?_⟩
  refine ⟨_, rfl, _, rfl, by omega, by omega, fun L hL => lc_runD (walk_range (lo := 0)) hL K (some D) (okD hD) (fun _ _ => trivial) (fun i acc H => ∃ gs : List Gd, AtAll K H acc (gs.map pG) ∧ gs.length = i ∧ ∀ g, g ∈ gs → VG g) ⟨[], .nil, rfl, fun _ h => (by cases h)⟩ (fun _ _ _ _ t ⟨gs, l, e⟩ => ⟨gs, l.mono t, e⟩) (by omega) ?_ ?_⟩
  · rintro i x acc H1 H2 kt kf hi ev ⟨gs, hgs, hgl, hgv⟩ ⟨rfl, rfl⟩ k1 k2
    have step : ∀ y g H4, Ev (some D) H2 H4 → At K H4 y (pG g) → VG g → kt y H4 := fun y g H4 e4 hy hg => k1 y H4 e4 ⟨gs ++ [g], by rw [List.map_append]; exact (hgs.ev e4).append (.one hy), by rw [List.length_append, hgl]; rfl, fun g' hg' => by
      rcases List.mem_append.mp hg' with z | z
      · exact hgv g' z
      · rw [List.mem_singleton.mp z]; exact hg⟩
    refine ⟨rfl, yes_rd ?_⟩
    refine ⟨_, rfl, D, 3, rfl, ev.b.at_, by decide, by decide, fun k H3 e3 hk0 hk1 => gt_rd2 (fun z => ⟨true, rfl, iteT ⟨_, rfl, D, rfl, e3.b.at_, fun v g H4 e4 hv hg => step v g H4 (e3.trans e4) hv hg⟩⟩) fun z => ⟨false, rfl, iteF ⟨(by show 2 ≤ sizeLine; decide), fun p hp => ?_⟩⟩⟩
    exact step _ (0, 4) _ (e3.then_new hp) (.new hp (.cons (.int _) (.one (.int _)))) ⟨by decide, by decide, by decide⟩
  · rintro acc H1 hacc hle ev ⟨gs, hgs, hgl, hgv⟩
    refine ⟨L, _, rfl, .inl ⟨.of hacc, fun p hp => ?_⟩⟩
    have e1 := ev.then_new (u := .tup acc) hp
    have hg1 : At K (upd H1 p (.tup acc)) (.ref p) (.tuple (gs.map pG)) := .new hp hgs
    generalize upd H1 p (.tup acc) = H2 at e1 hg1 ⊢
    refine ⟨_, rfl, _, rfl, D, r, rfl, e1.b.at_, hrr.1, by omega, fun k3 H3 e3 hk30 hk31 => ?_⟩
    refine ⟨_, rfl, _, rfl, _, rfl, D, c, rfl, e3.b.at_, by omega, by omega, fun lv ns H4 e4 hl hns => ?_⟩
    refine ⟨_, rfl, _, rfl, D, r, rfl, e4.b.at_, hrr.1, by omega, fun k5 H5 e5 hk50 hk51 => ?_⟩
    refine ⟨(by show 4 ≤ sizeLine; decide), fun p6 hp6 => q _ ⟨k3, gs, ns, k5⟩ _ ((e1.trans (e3.trans (e4.trans e5))).then_new hp6) (.new hp6 (.cons (.int _) (.cons (hg1.ev (e3.trans (e4.trans e5))) (.cons (hl.ev e5) (.one (.int _)))))) ⟨⟨hk30, by show k3 ≤ r - 1; omega⟩, ?_, hgv, hns, ⟨hk50, by show k5 ≤ r - 1; omega⟩⟩⟩
    show (gs.length : Int) = c
    omega
end K26

end PartW2

section PartW3
set_option maxRecDepth 100000
set_option maxHeartbeats 4000000
/-! W3: the base, bent doors. -/
namespace K26
open PySem PySem.Spec PyProof.Rows L2 L2H SlX
variable {P : Program} {w : World} {K : PySem.W.Frag} {mg : Str → Option Value} {base : Heap} {f C : Addr} {fd : FuncData}
/-! ### written data -/
def Lay (K : PySem.W.Frag) (t : TE) (d : PyData) : Prop := ∀ σ H Q, (∀ v H', Ev none H H' → At K H' v d → Q v H') → t σ H Q
def LayA (K : PySem.W.Frag) (t : TA) (ds : List PyData) : Prop := ∀ σ H Q, (∀ vs H', Ev none H H' → AtAll K H' vs ds → Q vs H') → t σ H Q
theorem lay_int (n : Int) : Lay K (tC (.int n)) (.int n) := fun _ H _ h => h _ H (.refl .nil) (.int n)
theorem lay_nil : LayA K tNil [] := fun _ H _ h => h _ H (.refl .nil) .nil
theorem lay_cons {te : TE} {t : TA} {d : PyData} {ds : List PyData} (h1 : Lay K te d) (h2 : LayA K t ds) : LayA K (tCons te t) (d :: ds) := fun σ H Q h => h1 σ H _ fun v H1 e1 a1 => h2 σ H1 _ fun vs H2 e2 a2 => h _ H2 (e1.trans e2) (.cons (a1.ev e2) a2)
theorem sz {n : Nat} (h : n ≤ 1000) : n ≤ sizeLine := Nat.le_trans h (by decide)
theorem lay_tup {t : TA} {ds : List PyData} (h : LayA K t ds) (hn : ds.length ≤ 1000) : Lay K (tTup t) (.tuple ds) := fun σ H _ q => h σ H _ fun vs H1 e a => ⟨sz (by rw [a.length]; exact hn), fun p hp => q _ _ (e.then_new hp) (.new hp a)⟩
theorem lay_w {t : TE} {d : PyData} {σ : L2.St} {H : Hp} {Q : VK} (h : Lay K t d) (q : ∀ v H', Ev none H H' → At K H' v d → Q v H') : WrE t σ H Q := ⟨h σ H Q q⟩
theorem lay_lst {t : TA} {ds : List PyData} {σ : L2.St} {H : Hp} {Q : VK} (h : LayA K t ds) (hn : ds.length ≤ 1000) (q : ∀ L xs H', Ev none H H' → H L = none → H' L = some (.lst xs) → xs.length = ds.length → AtAll K H' xs ds → Q (.ref L) H') : WrE (tLst t) σ H Q :=
  ⟨h σ H _ fun vs H1 e a => ⟨sz (by rw [a.length]; exact hn), fun p hp => q p vs _ (e.then_new hp) (e.free hp) upd_same a.length (a.ev (.new .nil hp))⟩⟩
theorem lay_two {a b : Int} : Lay K (tTup (tCons (tC (.int a)) (tCons (tC (.int b)) tNil))) (pG (a, b)) := lay_tup (lay_cons (lay_int a) (lay_cons (lay_int b) lay_nil)) (Nat.le_of_ble_eq_true rfl)
theorem lay_door0 {s g a b c d : Int} : Lay K (tTup (tCons (tC (.int s)) (tCons (tTup (tCons (tTup (tCons (tC (.int a)) (tCons (tC (.int b)) tNil))) (tCons (tTup (tCons (tC (.int c)) (tCons (tC (.int d)) tNil))) tNil))) (tCons (tTup tNil) (tCons (tC (.int g)) tNil))))) (pD ⟨s, [(a, b), (c, d)], [], g⟩) :=
  lay_tup (lay_cons (lay_int s) (lay_cons (lay_tup (lay_cons lay_two (lay_cons lay_two lay_nil)) (Nat.le_of_ble_eq_true rfl)) (lay_cons (lay_tup lay_nil (Nat.zero_le _)) (lay_cons (lay_int g) lay_nil)))) (Nat.le_of_ble_eq_true rfl)
theorem lay_door1 {s g a b c d r : Int} : Lay K (tTup (tCons (tC (.int s)) (tCons (tTup (tCons (tTup (tCons (tC (.int a)) (tCons (tC (.int b)) tNil))) (tCons (tTup (tCons (tC (.int c)) (tCons (tC (.int d)) tNil))) tNil))) (tCons (tTup (tCons (tC (.int r)) tNil)) (tCons (tC (.int g)) tNil))))) (pD ⟨s, [(a, b), (c, d)], [r], g⟩) :=
  lay_tup (lay_cons (lay_int s) (lay_cons (lay_tup (lay_cons lay_two (lay_cons lay_two lay_nil)) (Nat.le_of_ble_eq_true rfl)) (lay_cons (lay_tup (lay_cons (lay_int r) lay_nil) (Nat.le_of_ble_eq_true rfl)) (lay_cons (lay_int g) lay_nil)))) (Nat.le_of_ble_eq_true rfl)
def baseD : List Dr := [⟨0, [(1, 1), (0, 4)], [1], 1⟩, ⟨1, [(0, 2), (0, 4)], [0], 2⟩, ⟨2, [(0, 4), (2, 4)], [1], 1⟩, ⟨2, [(0, 0), (2, 4)], [], 3⟩]
def baseM : Mc := ⟨2, [[3, 3], [3, 3], [3, 3], [3, 3]], baseD⟩
theorem Asc.one {n c : Int} (h : 0 ≤ n ∧ n ≤ c - 1) : Asc [n] c := ⟨fun m hm => by rw [List.mem_singleton.mp hm]; exact h, fun i x y _ hy => by simp at hy⟩
theorem VG.mk2 {a b : Int} (h1 : 0 ≤ a) (h2 : a ≤ b) (h3 : b ≤ 4) : VG (a, b) := ⟨h1, h2, h3⟩
theorem vm_base : VM baseM := by
  refine ⟨⟨by decide, by decide⟩, ⟨by decide, by decide⟩, fun l hl => ?_, by decide, fun d hd => ?_⟩
  · have : l = [3, 3] := by
      simp [baseM] at hl
      exact hl
    subst this
    exact ⟨rfl, fun n hn => by simp at hn; subst hn; exact ⟨by decide, by decide⟩⟩
  · have hd' : d = ⟨0, [(1, 1), (0, 4)], [1], 1⟩ ∨ d = ⟨1, [(0, 2), (0, 4)], [0], 2⟩ ∨ d = ⟨2, [(0, 4), (2, 4)], [1], 1⟩ ∨ d = ⟨2, [(0, 0), (2, 4)], [], 3⟩ := by
      simp [baseM, baseD] at hd
      exact hd
    have two : ∀ (a b c d : Int), VG (a, b) → VG (c, d) → ∀ g : Gd, g ∈ [(a, b), (c, d)] → VG g := fun a b c d h1 h2 g hg => by
      rcases List.mem_cons.mp hg with z | z
      · rw [z]; exact h1
      · rw [List.mem_singleton.mp z]; exact h2
    rcases hd' with rfl | rfl | rfl | rfl
    · exact ⟨⟨by decide, by decide⟩, rfl, two _ _ _ _ (.mk2 (by decide) (by decide) (by decide)) (.mk2 (by decide) (by decide) (by decide)), .one ⟨by decide, by decide⟩, ⟨by decide, by decide⟩⟩
    · exact ⟨⟨by decide, by decide⟩, rfl, two _ _ _ _ (.mk2 (by decide) (by decide) (by decide)) (.mk2 (by decide) (by decide) (by decide)), .one ⟨by decide, by decide⟩, ⟨by decide, by decide⟩⟩
    · exact ⟨⟨by decide, by decide⟩, rfl, two _ _ _ _ (.mk2 (by decide) (by decide) (by decide)) (.mk2 (by decide) (by decide) (by decide)), .one ⟨by decide, by decide⟩, ⟨by decide, by decide⟩⟩
    · exact ⟨⟨by decide, by decide⟩, rfl, two _ _ _ _ (.mk2 (by decide) (by decide) (by decide)) (.mk2 (by decide) (by decide) (by decide)), .nil _, ⟨by decide, by decide⟩⟩
/-! ### _law_ma_base -/
def spMaBase (K : PySem.W.Frag) : Sp0 := fun vs H Q => vs = [] ∧ ∀ p vL vD H', Ev none H H' → H' p = some (.tup [.int 2, vL, vD]) → At K H' vL (pL baseM.ls) → At K H' vD (pDs baseD) → Q (.ref p) H'
theorem scMaBase : FnScope ["_law_doors"] [] (defScope sBase) := ⟨rfl, rfl, rfl, by decide +kernel, rfl, by decide +kernel, by decide +kernel⟩
theorem ok_maBase (F : Fun K "_law_ma_base" "_law_ma_base" sBase f fd) (G : Gs mg) : FnOk P w K mg base CX0 1 f fd [] (toSp (spMaBase K)) := by
  refine okC F scMaBase (fun vs H Q h => by obtain ⟨rfl, _⟩ := h; rfl) fun cd A outer s H vs Q hr h => ?_
  obtain ⟨rfl, q⟩ := h
  refine ⟨_, pss_cons (ps_set (i := 0) scMaBase.nd rfl (Or.inl rfl) (pe_wr (pe_lst (pa_cons (pe_tup (pa_cons pe_int (pa_cons (pe_tup (pa_cons (pe_tup (pa_cons pe_int (pa_cons pe_int pa_nil))) (pa_cons (pe_tup (pa_cons pe_int (pa_cons pe_int pa_nil))) pa_nil))) (pa_cons (pe_tup (pa_cons pe_int pa_nil)) (pa_cons pe_int pa_nil)))))
      (pa_cons (pe_tup (pa_cons pe_int (pa_cons (pe_tup (pa_cons (pe_tup (pa_cons pe_int (pa_cons pe_int pa_nil))) (pa_cons (pe_tup (pa_cons pe_int (pa_cons pe_int pa_nil))) pa_nil))) (pa_cons (pe_tup (pa_cons pe_int pa_nil)) (pa_cons pe_int pa_nil)))))
      (pa_cons (pe_tup (pa_cons pe_int (pa_cons (pe_tup (pa_cons (pe_tup (pa_cons pe_int (pa_cons pe_int pa_nil))) (pa_cons (pe_tup (pa_cons pe_int (pa_cons pe_int pa_nil))) pa_nil))) (pa_cons (pe_tup (pa_cons pe_int pa_nil)) (pa_cons pe_int pa_nil))))) pa_nil))))))
    (pss_one (ps_ret (pe_tup (pa_cons pe_int (pa_cons (pe_op op_repT (pe_wr (pe_tup (pa_cons (pe_tup (pa_cons pe_int (pa_cons pe_int pa_nil))) pa_nil))) pe_int)
      (pa_cons (pe_callTy call_tuple_of (by rfl) G.tuple boot_tuple (pa_cons (pe_op op_cat (pv 0) (pe_wr (pe_lst (pa_cons (pe_tup (pa_cons pe_int (pa_cons (pe_tup (pa_cons (pe_tup (pa_cons pe_int (pa_cons pe_int pa_nil))) (pa_cons (pe_tup (pa_cons pe_int (pa_cons pe_int pa_nil))) pa_nil))) (pa_cons (pe_tup pa_nil) (pa_cons pe_int pa_nil))))) pa_nil)))) pa_nil)) pa_nil)))))), ?_⟩
  refine lay_lst (K := K) (lay_cons lay_door1 (lay_cons lay_door1 (lay_cons lay_door1 lay_nil))) (Nat.le_of_ble_eq_true rfl) fun L xs H1 e1 _ hL1 len1 a1 => ?_
  replace len1 : xs.length = 3 := len1
  refine lay_w (K := K) (lay_tup (lay_cons lay_two lay_nil) (Nat.le_of_ble_eq_true rfl)) fun v H3 e3 hv => ?_
  obtain ⟨b, ys, rfl, hb, hys⟩ := hv.tup_inv
  have len3 : ys.length = 1 := hys.length
  refine ⟨b, 4, ys, rfl, rfl, hb, (fun z => by rw [z] at len3; cases len3), by decide, by decide, by omega, fun p hp => ?_⟩
  have e4 := e3.then_new (u := .tup (List.replicate (Int.toNat 4) ys).flatten) hp
  have hL4 : At K (upd H3 p (.tup (List.replicate (Int.toNat 4) ys).flatten)) (.ref p) (pL baseM.ls) := .new hp (by
    show AtAll K H3 (List.replicate 4 ys).flatten _
    have r2 := hys.append (hys.append (hys.append (hys.append .nil)))
    exact r2)
  generalize upd H3 p (.tup (List.replicate (Int.toNat 4) ys).flatten) = H4 at e4 hL4 ⊢
  have hLl : H4 L = some (.lst xs) := e4.k _ _ hL1 (fun z => nomatch z)
  refine ⟨_, rfl, ?_⟩
  refine lay_lst (K := K) (lay_cons lay_door0 lay_nil) (Nat.le_of_ble_eq_true rfl) fun L2 zs H5 e5 _ hL5 len5 a5 => ?_
  replace len5 : zs.length = 1 := len5
  refine ⟨L, L2, xs, zs, rfl, rfl, e5.k _ _ hLl (fun z => nomatch z), hL5, sz (by omega), fun L3 hL3 => ⟨L3, xs ++ zs, rfl, .inl ⟨.of upd_same, fun p7 hp7 => ⟨sz (Nat.le_of_ble_eq_true rfl), fun p8 hp8 => ?_⟩⟩⟩⟩
  have e7 := (e5.then_new (u := .lst (xs ++ zs)) hL3).then_new (u := .tup (xs ++ zs)) hp7
  have e8 := e7.then_new (u := .tup [.int 2, .ref p, .ref p7]) hp8
  refine q p8 _ _ _ ((e1.trans e4).trans e8) upd_same (hL4.ev e8) ?_
  have hD : AtAll K H5 (xs ++ zs) (baseD.map pD) := ((a1.ev e4).ev e5).append a5
  exact (At.new hp7 (hD.ev (.new .nil hL3))).ev (.new .nil hp8)
end K26

end PartW3

section PartW4
set_option maxRecDepth 100000
set_option maxHeartbeats 4000000
/-! W4: bent doors. -/
namespace K26
open PySem PySem.Spec PyProof.Rows L2 L2H SlX
variable {P : Program} {w : World} {K : PySem.W.Frag} {mg : Str → Option Value} {base : Heap} {f C : Addr} {fd : FuncData}
section
variable {X : Cx}
theorem oCat : OpR X (binaryOp .Add) (Wr2 (rCatA X.K)) := or_wr op_catA
end
theorem cat_at {x y : V} {ds es : List PyData} {H : Hp} {Q : VK} (hx : At K H x (.tuple ds)) (hy : At K H y (.tuple es)) (hn : ds.length + es.length ≤ 1000) (q : ∀ z H', Ev none H H' → At K H' z (.tuple (ds ++ es)) → Q z H') : Wr2 (rCatA K) x y H Q := by
  obtain ⟨a, xs, rfl, h1, h2⟩ := hx.tup_inv
  obtain ⟨b, ys, rfl, h3, h4⟩ := hy.tup_inv
  refine ⟨⟨a, b, xs, ys, rfl, rfl, h1, h3, sz (by rw [h2.length, h4.length]; exact hn), fun z => ?_, fun _ z => ?_, fun _ _ p hp => ?_⟩⟩
  · subst z
    cases h2
    exact q _ _ (.refl .nil) (.tup h3 h4)
  · subst z
    cases h4
    exact q _ _ (.refl .nil) (by rw [List.append_nil]; exact .tup h1 h2)
  · exact q _ _ (.new .nil hp) (.new hp (h2.append h4))
theorem pick_rd {D : Addr} {σ : L2.St} {H : Hp} {Q : VK} (h0 : σ[0]? = some (some (.ref D))) (hD : DiceAt H D) (q : ∀ e H', Ev (some D) H H' → (e = -1 ∨ e = 1) → Q (.int e) H') :
    WrE (tCallU spPick (tCons (tVar 0) (tCons (tLst (tCons (tUn (rU fun i => .int (-i)) (tC (.int 1))) (tCons (tC (.int 1)) tNil))) tNil))) σ H Q := by
  refine ⟨_, h0, 1, rfl, sz (Nat.le_of_ble_eq_true rfl), fun L hL => ?_⟩
  have ev := Ev.new (o := some D) (u := .lst [.int (-1), .int 1]) (okD hD) hL
  refine ⟨D, L, [.int (-1), .int 1], rfl, ev.b.at_, upd_same, (fun z => ?_), (Nat.le_of_ble_eq_true rfl), (Nat.le_of_ble_eq_true rfl), fun v H' e hv => ?_⟩
  · obtain ⟨l, s, c, q⟩ := hD
    rw [z, q] at hL
    cases hL
  · have hv' : v = .int (-1) ∨ v = .int 1 := by simpa using hv
    rcases hv' with rfl | rfl
    · exact q _ _ (ev.trans e) (.inl rfl)
    · exact q _ _ (ev.trans e) (.inr rfl)
theorem AtAll.four {H : Hp} {ys : List V} {a b c d : PyData} (h : AtAll K H ys [a, b, c, d]) : ∃ x y z w, ys = [x, y, z, w] ∧ At K H x a ∧ At K H y b ∧ At K H z c ∧ At K H w d := by
  cases h with
  | cons a r =>
    cases r with
    | cons b r =>
      cases r with
      | cons c r =>
        cases r with
        | cons d r =>
          cases r
          exact ⟨_, _, _, _, rfl, a, b, c, d⟩
theorem low_ok {lo hi e : Int} (h0 : 0 ≤ lo) (h1 : lo ≤ hi) (h2 : hi ≤ 4) : VG (if (if lo + e < hi then lo + e else hi) > 0 then (if lo + e < hi then lo + e else hi) else 0, hi) := by
  refine ⟨?_, ?_, h2⟩
  · show 0 ≤ (if (if lo + e < hi then lo + e else hi) > 0 then (if lo + e < hi then lo + e else hi) else 0)
    split <;> split <;> omega
  · show (if (if lo + e < hi then lo + e else hi) > 0 then (if lo + e < hi then lo + e else hi) else 0) ≤ hi
    split <;> split <;> omega
theorem high_ok {lo hi e : Int} (h0 : 0 ≤ lo) (h1 : lo ≤ hi) (h2 : hi ≤ 4) : VG (lo, if (if hi + e < 4 then hi + e else 4) > lo then (if hi + e < 4 then hi + e else 4) else lo) := by
  refine ⟨h0, ?_, ?_⟩
  · show lo ≤ (if (if hi + e < 4 then hi + e else 4) > lo then (if hi + e < 4 then hi + e else 4) else lo)
    split <;> split <;> omega
  · show (if (if hi + e < 4 then hi + e else 4) > lo then (if hi + e < 4 then hi + e else 4) else lo) ≤ 4
    split <;> split <;> omega
def putG (gs : List Gd) (n : Nat) (g : Gd) : List Gd := gs.take n ++ [g] ++ gs.drop (n + 1)
theorem VD.putG {c r : Int} {d : Dr} (h : VD c r d) {n : Nat} {g : Gd} (hn : n < d.gs.length) (hg : VG g) : VD c r { d with gs := putG d.gs n g } := by
  refine ⟨h.src, ?_, fun x hx => ?_, h.rs, h.goal⟩
  · show ((K26.putG d.gs n g).length : Int) = c
    unfold K26.putG
    simp only [List.length_append, List.length_take, List.length_drop, List.length_singleton]
    have := h.gl
    omega
  · have hx' : x ∈ d.gs.take n ++ [g] ++ d.gs.drop (n + 1) := hx
    rcases List.mem_append.mp hx' with z | z
    · rcases List.mem_append.mp z with z | z
      · exact h.gs x (List.mem_of_mem_take z)
      · rw [List.mem_singleton.mp z]; exact hg
    · exact h.gs x (List.mem_of_mem_drop z)
def spBent (K : PySem.W.Frag) : Sp0 := fun vs H Q => ∃ (D : Addr) (v : V) (c r : Int) (d : Dr), vs = [.ref D, v, .int c, .int r] ∧ DiceAt H D ∧ At K H v (pD d) ∧ VD c r d ∧ (1 ≤ c ∧ c ≤ 3) ∧ (1 ≤ r ∧ r ≤ 6) ∧ ∀ v' d' H', Ev (some D) H H' → At K H' v' (pD d') → VD c r d' → Q v' H'
abbrev nBent : List Str := ["_law_dice_here", "_law_door", "_law_clocks", "_law_rooms", "_law_room", "_law_guards", "_law_resets", "_law_goal", "_law_way", "_law_clock", "_law_low", "_law_high", "_law_pair", "_law_one"]
theorem scBent : FnScope nBent ["_law_dice_here", "_law_door", "_law_clocks", "_law_rooms"] (defScope sBent) := ⟨rfl, rfl, rfl, by decide +kernel, rfl, by decide +kernel, by decide +kernel⟩
theorem ok_bent (F : Fun K "_law_ma_bent_door" "_law_ma_bent_door" sBent f fd) (G : Gs mg) (dR : DefC P w K mg base 1 "_law_roll" ["_law_dice_here", "_law_most"] spRoll) (dP : DefC P w K mg base 2 "_law_pick" ["_law_dice_here", "_law_items"] spPick) :
    FnOk P w K mg base CX0 3 f fd ["_law_dice_here", "_law_door", "_law_clocks", "_law_rooms"] (toSp (spBent K)) := by
  refine okC F scBent (fun vs H Q h => by obtain ⟨D, v, c, r, d, rfl, _⟩ := h; rfl) fun cd A outer s H vs Q hr h => ?_
  obtain ⟨D, v, c, r, d, rfl, hD, hv, hd, hc, hrr, q⟩ := h
  have hr1 := hr.mono (show 1 ≤ 2 by decide)
  have u : U (cxU true [] P w K mg base nBent "_law_ma_bent_door" (defScope sBent) f cd A outer s H) := .inl rfl
  refine ⟨_, pss_cons (ps_asg (pv 1) (pg_tup rfl (pgs_cons (pg_name (i := 4) scBent.nd rfl (Or.inl rfl)) (pgs_cons (pg_name (i := 5) scBent.nd rfl (Or.inl rfl)) (pgs_cons (pg_name (i := 6) scBent.nd rfl (Or.inr rfl)) (pgs_cons (pg_name (i := 7) scBent.nd rfl (Or.inl rfl)) pgs_nil))))))
    (pss_cons (ps_asg (pe_tup (pa_cons (pe_callC dR hr1 (pa_cons (pv 0) (pa_cons pe_int pa_nil))) (pa_cons (pe_callC dR hr1 (pa_cons (pv 0) (pa_cons (pv 2) pa_nil))) pa_nil))) (pg_pairU u (pg_name (i := 8) scBent.nd rfl (Or.inl rfl)) (pg_name (i := 9) scBent.nd rfl (Or.inr rfl))))
    (pss_cons (ps_asg (pe_ix iTup (pv 5) (pv 9) (fun _ _ => rfl)) (pg_pairU u (pg_name (i := 10) scBent.nd rfl (Or.inl rfl)) (pg_name (i := 11) scBent.nd rfl (Or.inl rfl))))
    (pss_cons (ps_if (pt_cmpR oLt (pv 8) pe_int (nomark _))
      (pss_cons (ps_set (i := 12) scBent.nd rfl (Or.inl rfl) (pe_tup (pa_cons (pe_callB (call_max2 rfl) (by rfl) G.max boot_max (pa_cons pe_int (pa_cons (pe_callB (call_min2 rfl) (by rfl) G.min boot_min (pa_cons (pv 11) (pa_cons (pe_op op_add (pv 10) (pe_wr (pe_callC dP hr (pa_cons (pv 0) (pa_cons (pe_lst (pa_cons (pe_un un_neg pe_int) (pa_cons pe_int pa_nil))) pa_nil))))) pa_nil))) pa_nil))) (pa_cons (pv 11) pa_nil))))
      (pss_cons (ps_if (pt_cmpR oGt (pv 8) pe_int (nomark _))
        (pss_one (ps_set (i := 12) scBent.nd rfl (Or.inl rfl) (pe_tup (pa_cons (pv 10) (pa_cons (pe_callB (call_max2 rfl) (by rfl) G.max boot_max (pa_cons (pv 10) (pa_cons (pe_callB (call_min2 rfl) (by rfl) G.min boot_min (pa_cons pe_int (pa_cons (pe_op op_add (pv 11) (pe_wr (pe_callC dP hr (pa_cons (pv 0) (pa_cons (pe_lst (pa_cons (pe_un un_neg pe_int) (pa_cons pe_int pa_nil))) pa_nil))))) pa_nil))) pa_nil))) pa_nil))))) pss_nil)
      (pss_one (ps_ret (pe_wr (pe_tup (pa_cons (pv 4) (pa_cons (pe_op oCat (pe_op oCat (pe_slice (sl_wr sl_tupA) (pv 5) po_none (po_some (pv 9))) (pe_tup (pa_cons (pv 12) pa_nil))) (pe_slice (sl_wr sl_tupA) (pv 5) (po_some (pe_op op_add (pv 9) pe_int)) po_none)) (pa_cons (pv 6) (pa_cons (pv 7) pa_nil)))))))))) pss_nil)
    (pss_cons (ps_if (pt_cmpR oEq (pv 8) pe_int (nomark _)) (pss_one (ps_ret (pe_tup (pa_cons (pv 4) (pa_cons (pv 5) (pa_cons (pe_callTy call_tuple_of (by rfl) G.tuple boot_tuple (pa_cons (pe_lc (own := [("_law_one", 13)]) (g := gName 13) rfl scBent.nd (pi_range1 (by rfl) G.range (pa_cons (pv 2) pa_nil)) (blkOk_by (N := nBent) (sc := defScope sBent) (by decide +kernel))
      (fun _ _ _ _ _ => pg_name (i := 13) scBent.nd rfl (Or.inl rfl)) (fun _ _ _ _ _ => pts_one (pt_cmpR oNe (pe_cmpR (r := rIn K false) op_in_seq (pv 13) (pv 6) (by rfl)) (pe_cmpR oEq (pv 13) (pv 9) (nomark _)) (nomark _))) (fun _ _ _ _ _ => pv 13)) pa_nil)) (pa_cons (pv 7) pa_nil))))))) pss_nil)
    (pss_one (ps_ret (pe_tup (pa_cons (pv 4) (pa_cons (pv 5) (pa_cons (pv 6) (pa_cons (pe_callC dR hr1 (pa_cons (pv 0) (pa_cons (pv 3) pa_nil))) pa_nil))))))))))), ?_⟩
  obtain ⟨da, dvs, rfl, hda, hdvs⟩ := hv.tup_inv
  obtain ⟨v1, gv, rv, v4, rfl, a1, hgv, hrv, a4⟩ := hdvs.four
  cases a1.int_inv
  cases a4.int_inv
  refine ⟨_, rfl, da, _, rfl, hda, rfl, _, _, rfl, _, _, rfl, _, _, rfl, _, _, rfl, rfl, ?_⟩
  refine ⟨_, rfl, D, 5, rfl, hD, by decide, by decide, fun kw H1 e1 hw0 hw1 => ⟨_, rfl, _, rfl, D, c, rfl, e1.b.at_, hc.1, by omega, fun kc H2 e2 hc0 hc1 => ⟨sz (Nat.le_of_ble_eq_true rfl), fun p0 hp0 => rd_pair (.of upd_same) ?_⟩⟩⟩
  have e3 := (e1.trans e2).then_new (u := .tup [.int kw, .int kc]) hp0
  generalize upd H2 p0 (.tup [.int kw, .int kc]) = H3 at e3 ⊢
  obtain ⟨n, rfl⟩ : ∃ n : Nat, kc = n := ⟨kc.toNat, by omega⟩
  have hgl := hd.gl
  have hnl : n < d.gs.length := by omega
  obtain ⟨gd, hgd⟩ : ∃ g, d.gs[n]? = some g := ⟨d.gs[n], List.getElem?_eq_getElem hnl⟩
  have hgdv := hd.gs gd (List.mem_of_getElem? hgd)
  have hgv3 := hgv.ev e3
  have hrv3 := hrv.ev e3
  refine ⟨_, rfl, _, rfl, ix_at n hgv3 rfl (by rw [List.getElem?_map, hgd]; rfl) fun g hg => ?_⟩
  obtain ⟨ga, gvs, rfl, hga, hgvs⟩ := hg.tup_inv
  obtain ⟨lo, hi, rfl, al, ah⟩ := hgvs.two
  cases al.int_inv
  cases ah.int_inv
  refine rd_pair hga ⟨_, rfl, lt_rd2 (fun z => ⟨true, rfl, iteT ?_⟩) fun z => ⟨false, rfl, iteF ?_⟩⟩
  · -- the pair
    refine ⟨_, rfl, _, rfl, pick_rd rfl e3.b.at_ fun e H4 e4 _ => ⟨_, _, rfl, rfl, _, _, rfl, _, _, rfl, _, rfl, sz (Nat.le_of_ble_eq_true rfl), fun p5 hp5 => ?_⟩⟩
    have hp : At K _ (.ref p5) (pG (if (if gd.1 + e < gd.2 then gd.1 + e else gd.2) > 0 then (if gd.1 + e < gd.2 then gd.1 + e else gd.2) else 0, gd.2)) := At.new hp5 (.cons (.int _) (.one (.int _)))
    have hpv := low_ok (e := e) hgdv.1 hgdv.2.1 hgdv.2.2
    have e5 := (e3.trans e4).then_new (u := .tup [.int (if (if gd.1 + e < gd.2 then gd.1 + e else gd.2) > 0 then (if gd.1 + e < gd.2 then gd.1 + e else gd.2) else 0), .int gd.2]) hp5
    generalize (if (if gd.1 + e < gd.2 then gd.1 + e else gd.2) > 0 then (if gd.1 + e < gd.2 then gd.1 + e else gd.2) else 0) = lo' at hp hpv e5 ⊢
    have fin : ∀ (σ : L2.St) (H : Hp) (Q : VK) (pp : V) (g' : Gd), σ[4]? = some (some (.int d.src)) → σ[5]? = some (some gv) → σ[9]? = some (some (.int n)) → σ[12]? = some (some pp) → σ[6]? = some (some rv) → σ[7]? = some (some (.int d.goal)) → At K H gv (.tuple (d.gs.map pG)) → At K H rv (pI d.rs) → At K H pp (pG g') →
        (∀ p H', Ev none H H' → At K H' (.ref p) (pD { d with gs := putG d.gs n g' }) → Q (.ref p) H') →
        WrE (tTup (tCons (tVar 4) (tCons (tOp (Wr2 (rCatA K)) (tOp (Wr2 (rCatA K)) (L2.tSl (WrS (rSlA K)) (tVar 5) tNoPart (tPart (tVar 9))) (tTup (tCons (tVar 12) tNil))) (L2.tSl (WrS (rSlA K)) (tVar 5) (tPart (tOp (rI0 fun i j => .int (i + j)) (tVar 9) (tC (.int 1)))) tNoPart)) (tCons (tVar 6) (tCons (tVar 7) tNil))))) σ H Q := by
      intro σ H Q pp g' h4 h5 h9 h12 h6 h7 hg hr' hpp qq
      refine ⟨_, h4, _, h5, _, h9, _, rfl, sl_to n hg rfl fun x1 H1 e1 hx1 => ⟨_, h12, sz (Nat.le_of_ble_eq_true rfl), fun p2 hp2 => ?_⟩⟩
      have e2 := e1.then_new (u := .tup [pp]) hp2
      refine cat_at (hx1.ev (Ev.new .nil hp2)) (.new hp2 (.one (hpp.ev e1))) ?_ fun z1 H3 e3 hz1 => ?_
      · rw [List.length_take, List.length_map, List.length_singleton]
        have := hc.2
        omega
      refine ⟨_, h5, _, h9, _, _, rfl, rfl, _, rfl, sl_from (n + 1) ((hg.ev e2).ev e3) (by omega) fun x4 H4 e4 hx4 => cat_at (hz1.ev e4) hx4 ?_ fun z5 H5 e5 hz5 => ?_⟩
      · rw [List.length_append, List.length_take, List.length_drop, List.length_map, List.length_singleton]
        have := hc.2
        omega
      have e25 := ((e2.trans e3).trans e4).trans e5
      refine ⟨_, h6, _, h7, sz (Nat.le_of_ble_eq_true rfl), fun p6 hp6 => qq p6 _ (e25.then_new hp6) (.new hp6 (.cons (.int _) (.cons ?_ (.cons (hr'.ev e25) (.one (.int _))))))⟩
      show At K H5 z5 (.tuple ((d.gs.take n ++ [g'] ++ d.gs.drop (n + 1)).map pG))
      rw [List.map_append, List.map_append, List.map_take, List.map_drop]
      exact hz5
    refine ⟨_, rfl, gt_rd2 (fun z3 => ⟨true, rfl, iteT ?_⟩) fun z3 => ⟨false, rfl, iteF ?_⟩⟩
    · refine ⟨_, rfl, _, rfl, _, rfl, pick_rd rfl e5.b.at_ fun e' H6 e6 _ => ⟨_, _, rfl, rfl, _, _, rfl, _, _, rfl, sz (Nat.le_of_ble_eq_true rfl), fun p7 hp7 => ?_⟩⟩
      have e7 := (e5.trans e6).then_new (u := .tup [.int gd.1, .int (if (if gd.2 + e' < 4 then gd.2 + e' else 4) > gd.1 then (if gd.2 + e' < 4 then gd.2 + e' else 4) else gd.1)]) hp7
      exact fin _ _ _ _ (gd.1, if (if gd.2 + e' < 4 then gd.2 + e' else 4) > gd.1 then (if gd.2 + e' < 4 then gd.2 + e' else 4) else gd.1) rfl rfl rfl rfl rfl rfl (hgv.ev e7) (hrv.ev e7) (At.new hp7 (.cons (.int _) (.one (.int _)))) fun p H' e8 h8 => q _ _ _ (e7.trans (e8.lift e7.b)) h8 (hd.putG hnl (high_ok hgdv.1 hgdv.2.1 hgdv.2.2))
    · exact fin _ _ _ _ (lo', gd.2) rfl rfl rfl rfl rfl rfl (hgv.ev e5) (hrv.ev e5) hp fun p H' e8 h8 => q _ _ _ (e5.trans (e8.lift e5.b)) h8 (hd.putG hnl hpv)
  · refine ⟨_, rfl, eq_rd2 (fun z2 => ⟨true, rfl, iteT ?_⟩) fun z2 => ⟨false, rfl, iteF ?_⟩⟩
    · refine ⟨_, rfl, _, rfl, _, rfl, _, rfl, by omega, by omega, fun L hL => lc_runD (walk_range (lo := 0)) hL K (some D) e3.b (fun _ _ => trivial) (fun i acc _ => ∃ ns : List Int, acc = ns.map V.int ∧ Asc ns i) ⟨[], rfl, .nil _⟩ (fun _ _ _ _ _ h => h) (by omega) ?_ ?_⟩
      · rintro i x acc H4 H5 kt kf hi' ev ⟨ns, rfl, hasc⟩ ⟨rfl, rfl⟩ k1 k2
        obtain ⟨rb, rvs, rfl, hrb, hrs⟩ := (hrv3.ev ev).tup_inv
        have ers := hrs.ints_inv
        subst ers
        refine ⟨rfl, _, rfl, _, rfl, rb, _, rfl, .inr hrb, rfl, flat_ints _, _, rfl, _, rfl, ⟨rfl, ⟨rfl, _, rfl, ite2 (fun _ => ⟨_, rfl, k1 _ _ (.refl ev.b) ⟨ns ++ [(i : Int)], ?_, hasc.snoc⟩⟩) fun _ => k2 _ (.refl ev.b) ⟨ns, rfl, hasc.up⟩⟩⟩⟩
        rw [List.map_append]
        show _ ++ [V.int (0 + (i : Int))] = _ ++ [V.int i]
        rw [Int.zero_add]
      · rintro acc H4 hacc hle ev ⟨ns, rfl, hasc⟩
        rw [Int.toNat_of_nonneg (by omega)] at hasc
        refine ⟨L, _, rfl, .inl ⟨.of hacc, fun p5 hp5 => ⟨_, rfl, sz (Nat.le_of_ble_eq_true rfl), fun p6 hp6 => ?_⟩⟩⟩
        have e5 := ev.then_new (u := .tup (ns.map V.int)) hp5
        exact q _ { d with rs := ns } _ ((e3.trans e5).then_new hp6) (.new hp6 (.cons (.int _) (.cons (hgv3.ev e5) (.cons (.new hp5 (.ints ns)) (.one (.int _)))))) ⟨hd.src, hd.gl, hd.gs, hasc, hd.goal⟩
    · refine ⟨_, rfl, _, rfl, _, rfl, _, rfl, _, rfl, D, r, rfl, e3.b.at_, hrr.1, by omega, fun k4 H4 e4 hk0 hk1 => ⟨sz (Nat.le_of_ble_eq_true rfl), fun p hp => ?_⟩⟩
      refine q _ { d with goal := k4 } _ ((e3.trans e4).then_new hp) (.new hp (.cons (.int _) (.cons (hgv3.ev e4) (.cons (hrv3.ev e4) (.one (.int _)))))) ⟨hd.src, hd.gl, hd.gs, hd.rs, ⟨hk0, by show k4 ≤ r - 1; omega⟩⟩
end K26

end PartW4

section PartW5
set_option maxRecDepth 100000
set_option maxHeartbeats 4000000
/-! W5: drawn machines. -/
namespace K26
open PySem PySem.Spec PyProof.Rows L2 L2H SlX
variable {P : Program} {w : World} {K : PySem.W.Frag} {mg : Str → Option Value} {base : Heap} {f C : Addr} {fd : FuncData}
/-- a drawn triple -/
def MTup (K : PySem.W.Frag) (H : Hp) (v : V) (m : Mc) : Prop := At K H v (pM m)
/-! rows of limits: [tuple([e for clock in range(clocks)]) for room in range(rooms)] -/
/-- the inner comprehension's reading, each item an int from 0 to 4 -/
theorem row_run (K : PySem.W.Frag) {D : Addr} {σ : L2.St} {H1 : Hp} {L : Addr} {Qd : Hp → Prop} {g : TG} {te : TE} {vs : List Nat} {c : Nat} (hL : H1 L = none) (hD : DiceAt H1 D) (hc : c ≤ 3)
    (hs : ∀ i x H kt, i < c → Ev (some D) H1 H → x = V.int (0 + (i : Nat)) → (∀ n H', Ev (some D) H H' → 0 ≤ n → n ≤ 4 → kt (V.int n) H') → g x (wipe σ vs) H fun σ2 H2 => wipe σ2 vs = wipe σ vs ∧ te σ2 H2 kt)
    (hd : ∀ ns : List Int, ∀ H, H L = some (.lst (ns.map V.int)) → Ev (some D) H1 H → ns.length = c → (∀ n, n ∈ ns → 0 ≤ n ∧ n ≤ 4) → Qd H) :
    ∃ W : Nat → Nat → Hp → Prop, (∃ m, W 0 m (upd H1 L (.lst []))) ∧ ∀ i m H, W i m H →
      ((Itr 0 c).stop i H ∧ Qd H) ∨ ((Itr 0 c).go i H ∧ ∃ Nx : Hp → Prop, (∀ H', Nx H' → ∃ m', m' < m ∧ W (i + 1) m' H') ∧ ∀ x H', (Itr 0 c).yld i H x H' → g x (wipe σ vs) H' fun σ2 H2 => wipe σ2 vs = wipe σ vs ∧ tYes σ2 H2 fun b H3 =>
        if b = true then te σ2 H3 fun y H4 => ∃ acc, H4 L = some (.lst acc) ∧ acc.length < sizeLine ∧ Nx (upd H4 L (.lst (acc ++ [y]))) else Nx H3) := by
  refine lc_runD (walk_range (lo := 0)) (tt := tYes) hL K (some D) (okD hD) (fun _ _ => trivial) (fun i acc _ => ∃ ns : List Int, acc = ns.map V.int ∧ ns.length = i ∧ ∀ n, n ∈ ns → 0 ≤ n ∧ n ≤ 4) ⟨[], rfl, rfl, fun _ h => (by cases h)⟩ (fun _ _ _ _ _ h => h) (by omega) ?_ ?_
  · rintro i x acc H H' kt kf hi ev ⟨ns, rfl, hl, hv⟩ ⟨rfl, rfl⟩ k1 k2
    refine hs i _ _ kt hi ev rfl fun n H4 e4 h0 h4 => k1 _ _ e4 ⟨ns ++ [n], by rw [List.map_append]; rfl, by rw [List.length_append, hl]; rfl, fun m hm => ?_⟩
    rcases List.mem_append.mp hm with z | z
    · exact hv m z
    · rw [List.mem_singleton.mp z]; exact ⟨h0, h4⟩
  · rintro acc H hacc hle ev ⟨ns, rfl, hl, hv⟩
    exact hd ns H hacc ev hl hv
/-- the rows -/
theorem rows_run {D : Addr} {σ : L2.St} {H1 : Hp} {L : Addr} {Qd : Hp → Prop} {g : TG} {te : TE} {vs : List Nat} {c : Int} {r : Nat} (hL : H1 L = none) (hD : DiceAt H1 D) (hr : r ≤ 6)
    (hs : ∀ i x H kt, i < r → Ev (some D) H1 H → x = V.int (0 + (i : Nat)) → (∀ v l H', Ev (some D) H H' → At K H' v (pI l) → VL c l → kt v H') → g x (wipe σ vs) H fun σ2 H2 => wipe σ2 vs = wipe σ vs ∧ te σ2 H2 kt)
    (hd : ∀ (ls : List (List Int)) acc H, H L = some (.lst acc) → AtAll K H acc (ls.map pI) → Ev (some D) H1 H → ls.length = r → (∀ l, l ∈ ls → VL c l) → Qd H) :
    ∃ W : Nat → Nat → Hp → Prop, (∃ m, W 0 m (upd H1 L (.lst []))) ∧ ∀ i m H, W i m H →
      ((Itr 0 r).stop i H ∧ Qd H) ∨ ((Itr 0 r).go i H ∧ ∃ Nx : Hp → Prop, (∀ H', Nx H' → ∃ m', m' < m ∧ W (i + 1) m' H') ∧ ∀ x H', (Itr 0 r).yld i H x H' → g x (wipe σ vs) H' fun σ2 H2 => wipe σ2 vs = wipe σ vs ∧ tYes σ2 H2 fun b H3 =>
        if b = true then te σ2 H3 fun y H4 => ∃ acc, H4 L = some (.lst acc) ∧ acc.length < sizeLine ∧ Nx (upd H4 L (.lst (acc ++ [y]))) else Nx H3) := by
  refine lc_runD (walk_range (lo := 0)) (tt := tYes) hL K (some D) (okD hD) (fun _ _ => trivial) (fun i acc H => ∃ ls : List (List Int), AtAll K H acc (ls.map pI) ∧ ls.length = i ∧ ∀ l, l ∈ ls → VL c l) ⟨[], .nil, rfl, fun _ h => (by cases h)⟩ (fun _ _ _ _ t ⟨ls, l, e⟩ => ⟨ls, l.mono t, e⟩) (by omega) ?_ ?_
  · rintro i x acc H H' kt kf hi ev ⟨ls, ha, hl, hv⟩ ⟨rfl, rfl⟩ k1 k2
    refine hs i _ _ kt hi ev rfl fun v l H4 e4 hat hvl => k1 _ _ e4 ⟨ls ++ [l], by rw [List.map_append]; exact (ha.ev e4).append (.one hat), by rw [List.length_append, hl]; rfl, fun m hm => ?_⟩
    rcases List.mem_append.mp hm with z | z
    · exact hv m z
    · rw [List.mem_singleton.mp z]; exact hvl
  · rintro acc H hacc hle ev ⟨ls, ha, hl, hv⟩
    exact hd ls acc H hacc ha ev hl hv
/-- the doors -/
theorem doors_run {D : Addr} {σ : L2.St} {H1 : Hp} {L : Addr} {Qd : Hp → Prop} {g : TG} {te : TE} {vs : List Nat} {c r : Int} {n : Nat} (hL : H1 L = none) (hD : DiceAt H1 D) (hr : n ≤ 12)
    (hs : ∀ i x H kt, i < n → Ev (some D) H1 H → x = V.int (0 + (i : Nat)) → (∀ v d H', Ev (some D) H H' → At K H' v (pD d) → VD c r d → kt v H') → g x (wipe σ vs) H fun σ2 H2 => wipe σ2 vs = wipe σ vs ∧ te σ2 H2 kt)
    (hd : ∀ (ds : List Dr) acc H, H L = some (.lst acc) → AtAll K H acc (ds.map pD) → Ev (some D) H1 H → ds.length = n → (∀ d, d ∈ ds → VD c r d) → Qd H) :
    ∃ W : Nat → Nat → Hp → Prop, (∃ m, W 0 m (upd H1 L (.lst []))) ∧ ∀ i m H, W i m H →
      ((Itr 0 n).stop i H ∧ Qd H) ∨ ((Itr 0 n).go i H ∧ ∃ Nx : Hp → Prop, (∀ H', Nx H' → ∃ m', m' < m ∧ W (i + 1) m' H') ∧ ∀ x H', (Itr 0 n).yld i H x H' → g x (wipe σ vs) H' fun σ2 H2 => wipe σ2 vs = wipe σ vs ∧ tYes σ2 H2 fun b H3 =>
        if b = true then te σ2 H3 fun y H4 => ∃ acc, H4 L = some (.lst acc) ∧ acc.length < sizeLine ∧ Nx (upd H4 L (.lst (acc ++ [y]))) else Nx H3) := by
  refine lc_runD (walk_range (lo := 0)) (tt := tYes) hL K (some D) (okD hD) (fun _ _ => trivial) (fun i acc H => ∃ ls : List Dr, AtAll K H acc (ls.map pD) ∧ ls.length = i ∧ ∀ l, l ∈ ls → VD c r l) ⟨[], .nil, rfl, fun _ h => (by cases h)⟩ (fun _ _ _ _ t ⟨ls, l, e⟩ => ⟨ls, l.mono t, e⟩) (by omega) ?_ ?_
  · rintro i x acc H H' kt kf hi ev ⟨ls, ha, hl, hv⟩ ⟨rfl, rfl⟩ k1 k2
    refine hs i _ _ kt hi ev rfl fun v l H4 e4 hat hvl => k1 _ _ e4 ⟨ls ++ [l], by rw [List.map_append]; exact (ha.ev e4).append (.one hat), by rw [List.length_append, hl]; rfl, fun m hm => ?_⟩
    rcases List.mem_append.mp hm with z | z
    · exact hv m z
    · rw [List.mem_singleton.mp z]; exact hvl
  · rintro acc H hacc hle ev ⟨ls, ha, hl, hv⟩
    exact hd ls acc H hacc ha ev hl hv
end K26

end PartW5

section PartW6
set_option maxRecDepth 100000
set_option maxHeartbeats 4000000
/-! W6: _law_ma_drawn. -/
namespace K26
open PySem PySem.Spec PyProof.Rows L2 L2H SlX
variable {P : Program} {w : World} {K : PySem.W.Frag} {mg : Str → Option Value} {base : Heap} {f C : Addr} {fd : FuncData}
def spDrawn (K : PySem.W.Frag) (most : Nat) : Sp0 := fun vs H Q => ∃ (D : Addr), vs = [.ref D] ∧ DiceAt H D ∧ ∀ v m H', Ev (some D) H H' → At K H' v (pM m) → VM m → m.ds.length ≤ most → Q v H'
/-- the scope of the rows' comprehension -/
def scRows : Scope := { kind := .function, names := [(".0", .local), ("_law_room", .local), ("tuple", .globalImplicit), ("range", .globalImplicit), ("_law_clocks", .free), ("_law_dice_here", .free)], isGenerator := false, isCoroutine := false }
abbrev nDrawn : List Str := ["_law_dice_here", "_law_clocks", "_law_rooms", "_law_turn", "_law_doors", "_law_limits", "_law_at", "_law_clock", "_law_room"]
theorem scDrawn : FnScope nDrawn ["_law_dice_here"] (defScope sMaDrawn) := ⟨rfl, rfl, rfl, by decide +kernel, rfl, by decide +kernel, by decide +kernel⟩
theorem bk1 : BlkOk nDrawn (defScope sMaDrawn) scRows [("_law_room", 8)] := blkOk_by (by decide +kernel)
theorem bk2 : BlkOk nDrawn (relS scRows (defScope sMaDrawn)) { kind := .function, names := [(".0", .local), ("_law_clock", .local), ("_law_pick", .globalImplicit), ("_law_dice_here", .free)], isGenerator := false, isCoroutine := false } [("_law_clock", 7)] := blkOk_by (by decide +kernel)
/-- what is drawn from four numbers -/
theorem pick4_rd {D : Addr} {a b c d : Int} {σ : L2.St} {H : Hp} {Q : VK} (h0 : σ[0]? = some (some (.ref D))) (hD : DiceAt H D) (hv : ∀ n, n ∈ [a, b, c, d] → 0 ≤ n ∧ n ≤ 4) (q : ∀ e H', Ev (some D) H H' → 0 ≤ e → e ≤ 4 → Q (.int e) H') :
    WrE (tCallU spPick (tCons (tVar 0) (tCons (tLst (tCons (tC (.int a)) (tCons (tC (.int b)) (tCons (tC (.int c)) (tCons (tC (.int d)) tNil))))) tNil))) σ H Q := by
  refine ⟨_, h0, sz (Nat.le_of_ble_eq_true rfl), fun L hL => ?_⟩
  have ev := Ev.new (o := some D) (u := .lst [.int a, .int b, .int c, .int d]) (okD hD) hL
  refine ⟨D, L, [.int a, .int b, .int c, .int d], rfl, ev.b.at_, upd_same, (fun z => ?_), (Nat.le_of_ble_eq_true rfl), (Nat.le_of_ble_eq_true rfl), fun v H' e hm => ?_⟩
  · obtain ⟨l, s, c, q⟩ := hD
    rw [z, q] at hL
    cases hL
  · have hm' : v ∈ [a, b, c, d].map V.int := hm
    obtain ⟨n, hn, rfl⟩ := List.mem_map.mp hm'
    exact q n _ (ev.trans e) (hv n hn).1 (hv n hn).2
section
variable {X : Cx}
/-- tuple([pick(dice, [..]) for clock in range(clocks)]) within the rows' block -/
theorem ok_drawn (F : Fun K "_law_ma_drawn" "_law_ma_drawn" sMaDrawn f fd) (G : Gs mg) (dR : DefC P w K mg base 1 "_law_roll" ["_law_dice_here", "_law_most"] spRoll) (dP : DefC P w K mg base 2 "_law_pick" ["_law_dice_here", "_law_items"] spPick)
    (dB : DefC P w K mg base 1 "_law_ma_base" [] (spMaBase K)) (dD : DefC P w K mg base 3 "_law_ma_door" ["_law_dice_here", "_law_clocks", "_law_rooms"] (spMaDoor K)) (dN : DefC P w K mg base 3 "_law_ma_bent_door" ["_law_dice_here", "_law_door", "_law_clocks", "_law_rooms"] (spBent K)) :
    FnOk P w K mg base CX0 4 f fd ["_law_dice_here"] (toSp (spDrawn K 8)) := by
  refine okC F scDrawn (fun vs H Q h => by obtain ⟨D, rfl, _⟩ := h; rfl) fun cd A outer s H vs Q hr h => ?_
  obtain ⟨D, rfl, hD, q⟩ := h
  have hr1 := hr.mono (show 1 ≤ 3 by decide)
  have hr2 := hr.mono (show 2 ≤ 3 by decide)
  have u : U (cxU true [] P w K mg base nDrawn "_law_ma_drawn" (defScope sMaDrawn) f cd A outer s H) := .inl rfl
  refine ⟨_, pss_cons (ps_if (pt_cmpR oEq (pe_callC dR hr1 (pa_cons (pv 0) (pa_cons pe_int pa_nil))) pe_int (nomark _))
      (pss_cons (ps_asg (pe_tup (pa_cons (pe_op op_add pe_int (pe_callC dR hr1 (pa_cons (pv 0) (pa_cons pe_int pa_nil)))) (pa_cons (pe_op op_add pe_int (pe_callC dR hr1 (pa_cons (pv 0) (pa_cons pe_int pa_nil)))) pa_nil))) (pg_pairU u (pg_name (i := 1) scDrawn.nd rfl (Or.inr rfl)) (pg_name (i := 2) scDrawn.nd rfl (Or.inr rfl))))
      (pss_cons (ps_setLc (i := 4) (own := [("_law_turn", 3)]) (g := gName 3) (tt := tYes) rfl scDrawn.nd rfl rfl (sw_true rfl rfl rfl (by decide +kernel)) (pi_range1 (by rfl) G.range (pa_cons (pe_callC dR hr1 (pa_cons (pv 0) (pa_cons pe_int pa_nil))) pa_nil)) (blkOk_by (N := nDrawn) (sc := defScope sMaDrawn) (by decide +kernel))
          (fun _ _ _ _ _ => pg_name (i := 3) scDrawn.nd rfl (Or.inl rfl)) (fun _ _ _ _ _ => pts_nil) (fun _ _ _ _ _ => pe_callC dD hr (pa_cons (pv 0) (pa_cons (pv 1) (pa_cons (pv 2) pa_nil)))))
      (pss_cons (ps_setLc (i := 5) (own := [("_law_room", 8)]) (g := gName 8) (tt := tYes) rfl scDrawn.nd rfl rfl (sw_true rfl rfl rfl (by decide +kernel)) (pi_range1 (by rfl) G.range (pa_cons (pv 2) pa_nil)) bk1
          (fun _ _ _ _ _ => pg_name (i := 8) scDrawn.nd rfl (Or.inl rfl)) (fun _ _ _ _ _ => pts_nil)
          (fun _ _ _ _ _ => pe_callTy (r := fun xs H Q => ∃ p ys, xs = [.ref p] ∧ ((SqL K H p ys ∧ ∀ l, H l = none → Q (.ref l) (upd H l (.tup ys))) ∨ (SqT K H p ys ∧ Q (.ref p) H))) call_tuple_of (by rfl) G.tuple boot_tuple (pa_cons
            (pe_lc (own := [("_law_clock", 7)]) (g := gName 7) (tt := tYes) rfl scDrawn.nd (pi_range1 (by rfl) G.range (pa_cons (pv 1) pa_nil)) bk2 (fun _ _ _ _ _ => pg_name (i := 7) scDrawn.nd rfl (Or.inl rfl)) (fun _ _ _ _ _ => pts_nil)
              (fun _ _ _ _ _ => pe_wr (pe_callC dP hr2 (pa_cons (pv 0) (pa_cons (pe_lst (pa_cons pe_int (pa_cons pe_int (pa_cons pe_int (pa_cons pe_int pa_nil))))) pa_nil))))) pa_nil)))
      (pss_one (ps_ret (pe_tup (pa_cons (pv 1) (pa_cons (pe_callTy call_tuple_of (by rfl) G.tuple boot_tuple (pa_cons (pv 5) pa_nil)) (pa_cons (pe_callTy call_tuple_of (by rfl) G.tuple boot_tuple (pa_cons (pv 4) pa_nil)) pa_nil))))))))) pss_nil)
    (pss_cons (ps_asg (pe_callC0 dB hr1) (pg_tup rfl (pgs_cons (pg_name (i := 1) scDrawn.nd rfl (Or.inr rfl)) (pgs_cons (pg_name (i := 5) scDrawn.nd rfl (Or.inl rfl)) (pgs_cons (pg_name (i := 4) scDrawn.nd rfl (Or.inl rfl)) pgs_nil)))))
    (pss_cons (ps_set (i := 4) scDrawn.nd rfl (Or.inl rfl) (pe_callTy call_list_of (by rfl) G.list boot_list (pa_cons (pv 4) pa_nil)))
    (pss_cons (ps_for PassesOwn.never rfl (pi_range1 (by rfl) G.range (pa_cons (pe_callC dR hr1 (pa_cons (pv 0) (pa_cons pe_int pa_nil))) pa_nil)) (pg_name (i := 3) scDrawn.nd rfl (Or.inl rfl))
      (pss_cons (ps_set (i := 6) scDrawn.nd rfl (Or.inl rfl) (pe_callC dR hr1 (pa_cons (pv 0) (pa_cons (pe_callB cLen (by rfl) G.len PySem.boot_len (pa_cons (pv 4) pa_nil)) pa_nil))))
      (pss_one (ps_if (pt_cmpR oGt (pe_callC dR hr1 (pa_cons (pv 0) (pa_cons pe_int pa_nil))) pe_int (nomark _))
        (pss_one (ps_asg (pe_callC dN hr (pa_cons (pv 0) (pa_cons (pe_ix ix_list (pv 4) (pv 6) (fun _ _ => rfl)) (pa_cons (pv 1) (pa_cons pe_int pa_nil))))) (pg_sub (pv 4) (pv 6) set_list)))
        (pss_one (ps_expr (pe_bm PySem.F.plainAttrs_list PySem.F.slot_list_append PySem.F.type_list_append mt_append (pv 4) (pa_cons (pe_callC dD hr (pa_cons (pv 0) (pa_cons (pv 1) (pa_cons pe_int pa_nil)))) pa_nil))))))))
    (pss_cons (ps_set (i := 5) scDrawn.nd rfl (Or.inl rfl) (pe_callTy call_tuple_of (by rfl) G.tuple boot_tuple (pa_cons (pe_lc (own := [("_law_room", 8)]) (g := gName 8) (tt := tYes) rfl scDrawn.nd (pi_range1 (by rfl) G.range (pa_cons pe_int pa_nil)) bk1
          (fun _ _ _ _ _ => pg_name (i := 8) scDrawn.nd rfl (Or.inl rfl)) (fun _ _ _ _ _ => pts_nil)
          (fun _ _ _ _ _ => pe_callTy (r := fun xs H Q => ∃ p ys, xs = [.ref p] ∧ ((SqL K H p ys ∧ ∀ l, H l = none → Q (.ref l) (upd H l (.tup ys))) ∨ (SqT K H p ys ∧ Q (.ref p) H))) call_tuple_of (by rfl) G.tuple boot_tuple (pa_cons
            (pe_lc (own := [("_law_clock", 7)]) (g := gName 7) (tt := tYes) rfl scDrawn.nd (pi_range1 (by rfl) G.range (pa_cons (pv 1) pa_nil)) bk2 (fun _ _ _ _ _ => pg_name (i := 7) scDrawn.nd rfl (Or.inl rfl)) (fun _ _ _ _ _ => pts_nil)
              (fun _ _ _ _ _ => pe_wr (pe_callC dP hr2 (pa_cons (pv 0) (pa_cons (pe_lst (pa_cons pe_int (pa_cons pe_int (pa_cons pe_int (pa_cons pe_int pa_nil))))) pa_nil))))) pa_nil))) pa_nil)))
    (pss_one (ps_ret (pe_tup (pa_cons (pv 1) (pa_cons (pv 5) (pa_cons (pe_callTy call_tuple_of (by rfl) G.tuple boot_tuple (pa_cons (pv 4) pa_nil)) pa_nil)))))))))), ?_⟩
  refine ⟨_, rfl, D, 4, rfl, hD, by decide, by decide, fun k0 H0 e0 a0 b0 => eq_rd2 (fun z => ⟨true, rfl, iteT ?_⟩) fun z => ⟨false, rfl, iteF ?_⟩⟩
  · -- any doors
    refine ⟨_, rfl, D, 2, rfl, e0.b.at_, by decide, by decide, fun k1 H1 e1 a1 b1 => ⟨_, _, rfl, rfl, _, rfl, D, 3, rfl, e1.b.at_, by decide, by decide, fun k2 H2 e2 a2 b2 => ⟨_, _, rfl, rfl, sz (Nat.le_of_ble_eq_true rfl), fun p0 hp0 => rd_pair (.of upd_same) ?_⟩⟩⟩
    have e3 := ((e0.trans e1).trans e2).then_new (u := .tup [.int (1 + k1), .int (1 + k2)]) hp0
    generalize upd H2 p0 (.tup [.int (1 + k1), .int (1 + k2)]) = H3 at e3 ⊢
    refine ⟨_, rfl, D, 5, rfl, e3.b.at_, by decide, by decide, fun k4 H4 e4 a4 b4 => ⟨_, rfl, by omega, by omega, fun L hL => ?_⟩⟩
    have nL := e4.b.ne hL
    refine doors_run (K := K) (c := 1 + k1) (r := 1 + k2) hL e4.b.at_ (by omega) (fun i x Hx kt hi ev hx k => ⟨rfl, _, rfl, _, rfl, _, rfl, D, _, _, rfl, ev.b.at_, ⟨by omega, by omega⟩, ⟨by omega, by omega⟩, k⟩) fun ds acc H5 hacc hds e5 hlen hdv => ?_
    refine ⟨_, rfl, _, rfl, by omega, by omega, fun L2 hL2 => rows_run (K := K) (c := 1 + k1) hL2 e5.b.at_ (by omega) (fun i x Hx kt hi ev hx k => ⟨rfl, ?_⟩) fun ls acc2 H6 hacc2 hls e6 hlen2 hlv => ?_⟩
    · refine ⟨_, rfl, _, rfl, by omega, by omega, fun L3 hL3 => row_run K hL3 ev.b.at_ (by omega) (fun i x Hx kt hi ev hx k => ⟨rfl, pick4_rd rfl ev.b.at_ (fun n hn => ?_) k⟩) fun ns Hy hl ev2 hln hv => ⟨L3, _, rfl, .inl ⟨.of hl, fun p hp => k _ ns _ (ev2.then_new hp) (.new hp (.ints ns)) ⟨by omega, hv⟩⟩⟩⟩
      simp at hn
      omega
    · refine ⟨_, rfl, _, rfl, L2, acc2, rfl, .inl ⟨.of hacc2, fun p1 hp1 => ?_⟩⟩
      have e7 := Ev.new (u := .tup acc2) e6.b hp1
      have hL7 : (upd H6 p1 (.tup acc2)) L = some (.lst acc) := e7.lst (e6.lst hacc nL) nL
      refine ⟨_, rfl, L, acc, rfl, .inl ⟨.of hL7, fun p2 hp2 => ⟨sz (Nat.le_of_ble_eq_true rfl), fun p3 hp3 => ?_⟩⟩⟩
      have e8 := e7.then_new (u := .tup acc) hp2
      have e9 := Ev.new (u := .tup [.int (1 + k1), .ref p1, .ref p2]) e8.b hp3
      have er : ((ls.length : Nat) : Int) = 1 + k2 := by omega
      refine q _ ⟨1 + k1, ls, ds⟩ _ (((((e3.trans e4).trans e5).trans e6).trans e8).trans e9) (.new hp3 (.cons (.int _) (.cons ((At.new hp1 hls).ev (Ev.new (o := some D) (e7.b) hp2)) (.one (.new hp2 ((hds.ev e6).ev e7)))))) ⟨⟨by show 1 ≤ 1 + k1; omega, by show 1 + k1 ≤ 3; omega⟩, ⟨by show 1 ≤ ls.length; omega, by show ls.length ≤ 6; omega⟩, hlv, by show ds.length ≤ 12; omega, fun d hd => ?_⟩ (by show ds.length ≤ 8; omega)
      show VD (1 + k1) ((ls.length : Nat) : Int) d
      rw [er]
      exact hdv d hd
  · -- near the base
    refine ⟨rfl, fun pb vL vD H1 e1n hpb hvL hvD => ⟨pb, _, rfl, .of hpb, rfl, _, _, rfl, _, _, rfl, _, _, rfl, rfl, ?_⟩⟩
    have e1 := e0.trans (e1n.lift e0.b)
    obtain ⟨pd, dvs0, rfl, hpd, hds0⟩ := hvD.tup_inv
    refine ⟨_, rfl, pd, dvs0, rfl, .inr hpd, fun L hL => ?_⟩
    have hLH : H L = none := e1.free hL
    have nL : some D ≠ some L := e1.b.ne hL
    have e3 := e1.then_new (u := .lst dvs0) hL
    have hL3 : (upd H1 L (.lst dvs0)) L = some (.lst dvs0) := upd_same
    have hds3 := hds0.ev (Ev.new (u := .lst dvs0) e1.b hL)
    generalize upd H1 L (.lst dvs0) = H3 at e3 hL3 hds3 ⊢
    refine ⟨_, rfl, D, 4, rfl, e3.b.at_, by decide, by decide, fun k4 H4 e4 a4 b4 => ⟨_, rfl, by omega, by omega, ?_⟩⟩
    refine for_it (walk_range (lo := 0) (n := k4.toNat)) (fun i σ H' => ∃ (s3 s6 : Option V) (dvs : List V) (ds : List Dr), σ = [some (.ref D), some (.int 2), none, s3, some (.ref L), some vL, s6, none, none] ∧ Ev (some D) H H' ∧ H' L = some (.lst dvs) ∧ AtAll K H' dvs (ds.map pD) ∧ 1 ≤ ds.length ∧ ds.length ≤ 4 + i ∧ ∀ d, d ∈ ds → VD 2 4 d)
      ⟨none, none, dvs0, baseD, rfl, e3.trans e4, e4.lst hL3 nL, hds3.ev e4, by decide, by decide, vm_base.ds⟩ (fun _ _ _ _ _ => trivial) ?_ ?_
    · rintro i x σ H5x H5 hi ⟨s3, s6, dvs, ds, rfl, e5, hl5, hds5, hn1, hn2, hdv⟩ ⟨rfl, rfl⟩
      have hlen := hds5.length
      rw [List.length_map] at hlen
      refine ⟨_, rfl, _, rfl, len_lst (.of hl5) ⟨D, _, rfl, e5.b.at_, by omega, by omega, fun k6 H6 e6 a6 b6 => ?_⟩⟩
      refine ⟨_, rfl, D, 4, rfl, e6.b.at_, by decide, by decide, fun k7 H7 e7 a7 b7 => gt_rd2 (fun z => ⟨true, rfl, iteT ?_⟩) fun z => ⟨false, rfl, iteF ?_⟩⟩
      · obtain ⟨n, rfl⟩ : ∃ n : Nat, k6 = n := ⟨k6.toNat, by omega⟩
        have hnl : n < ds.length := by omega
        obtain ⟨d, hd⟩ : ∃ d, ds[n]? = some d := ⟨ds[n], List.getElem?_eq_getElem hnl⟩
        have e57 := e6.trans e7
        obtain ⟨dv, hdv1, hat⟩ := (hds5.ev e57).get' n (pD d) (by rw [List.getElem?_map, hd]; rfl)
        have hl7 := e57.lst hl5 nL
        refine ⟨_, rfl, _, rfl, _, rfl, L, dvs, n, dv, rfl, rfl, .of hl7, atI_nat hdv1, _, rfl, D, dv, 2, 4, d, rfl, e7.b.at_, hat, hdv d (List.mem_of_getElem? hd), ⟨by decide, by decide⟩, ⟨by decide, by decide⟩, fun v' d' H8 e8 hv' hd' => ?_⟩
        have hl8 := e8.lst hl7 nL
        have ix : ixN dvs.length ((n : Nat) : Int) = some n := by
          unfold ixN
          rw [if_pos (by omega), if_pos (by omega), Int.toNat_natCast]
        refine ⟨_, rfl, _, rfl, L, dvs, n, n, rfl, rfl, hl8, ix, ?_⟩
        refine ⟨_, _, dvs.set n v', ds.set n d', rfl, ((e5.trans e57).trans e8).put hLH, upd_same, ?_, by rw [List.length_set]; exact hn1, by rw [List.length_set]; omega, fun x hx => ?_⟩
        · rw [List.map_set]
          exact (((hds5.ev e57).ev e8).set n hv').mono (.lst hl8)
        · rcases List.mem_or_eq_of_mem_set hx with y | y
          · exact hdv x y
          · rw [y]; exact hd'
      · have e57 := e6.trans e7
        have hl7 := e57.lst hl5 nL
        refine ⟨_, rfl, .inl ⟨rfl, _, Or.inl (Or.inl hl7)⟩, _, rfl, _, rfl, D, 2, 4, rfl, e7.b.at_, ⟨by decide, by decide⟩, ⟨by decide, by decide⟩, fun v d H8 e8 hv hd => ?_⟩
        have hl8 := e8.lst hl7 nL
        have hsm : (1000 : Nat) ≤ sizeLine := sz (Nat.le_refl _)
        refine ⟨L, dvs, _, rfl, rfl, hl8, by omega, ?_⟩
        refine ⟨_, _, dvs ++ [v], ds ++ [d], rfl, ((e5.trans e57).trans e8).put hLH, upd_same, ?_, by rw [List.length_append]; omega, by rw [List.length_append, List.length_singleton]; omega, fun x hx => ?_⟩
        · rw [List.map_append]
          exact ((((hds5.ev e57).ev e8)).append (.one hv)).mono (.lst hl8)
        · rcases List.mem_append.mp hx with y | y
          · exact hdv x y
          · rw [List.mem_singleton.mp y]; exact hd
    · rintro σ H5 ⟨s3, s6, dvs, ds, rfl, e5, hl5, hds5, hn1, hn2, hdv⟩
      refine ⟨_, rfl, by decide, by decide, fun L2 hL2 => rows_run (K := K) (c := 2) hL2 e5.b.at_ (by decide) (fun i x Hx kt hi ev hx k => ⟨rfl, ?_⟩) fun ls acc2 H6 hacc2 hls e6 hlen2 hlv => ?_⟩
      · refine ⟨_, rfl, _, rfl, by decide, by decide, fun L3 hL3 => row_run K hL3 ev.b.at_ (by decide) (fun i x Hx kt hi ev hx k => ⟨rfl, pick4_rd rfl ev.b.at_ (fun n hn => ?_) k⟩) fun ns Hy hl ev2 hln hv => ⟨L3, _, rfl, .inl ⟨.of hl, fun p hp => k _ ns _ (ev2.then_new hp) (.new hp (.ints ns)) ⟨by rw [hln]; rfl, hv⟩⟩⟩⟩
        simp at hn
        omega
      · refine ⟨L2, acc2, rfl, .inl ⟨.of hacc2, fun p1 hp1 => ?_⟩⟩
        have e7 := Ev.new (u := .tup acc2) e6.b hp1
        have hL7 : (upd H6 p1 (.tup acc2)) L = some (.lst dvs) := e7.lst (e6.lst hl5 nL) nL
        refine ⟨_, rfl, _, rfl, _, rfl, L, dvs, rfl, .inl ⟨.of hL7, fun p2 hp2 => ⟨sz (Nat.le_of_ble_eq_true rfl), fun p3 hp3 => ?_⟩⟩⟩
        have e8 := e7.then_new (u := .tup dvs) hp2
        have e9 := Ev.new (u := .tup [.int 2, .ref p1, .ref p2]) e8.b hp3
        have el : ls.length = 4 := hlen2
        refine q _ ⟨2, ls, ds⟩ _ (((e5.trans e6).trans e8).trans e9) (.new hp3 (.cons (.int _) (.cons ((At.new hp1 hls).ev (Ev.new (o := some D) e7.b hp2)) (.one (.new hp2 ((hds5.ev e6).ev e7)))))) ⟨⟨by show (1 : Int) ≤ 2; decide, by show (2 : Int) ≤ 3; decide⟩, ⟨by show 1 ≤ ls.length; omega, by show ls.length ≤ 6; omega⟩, hlv, by show ds.length ≤ 12; omega, fun d hd => ?_⟩ (by show ds.length ≤ 8; omega)
        show VD 2 ((ls.length : Nat) : Int) d
        rw [el]
        exact hdv d hd
end
end K26

end PartW6

section PartW7
set_option maxRecDepth 100000
set_option maxHeartbeats 4000000
/-! W7: _law_mm_drawn. -/
namespace K26
open PySem PySem.Spec PyProof.Rows L2 L2H SlX
variable {P : Program} {w : World} {K : PySem.W.Frag} {mg : Str → Option Value} {base : Heap} {f C : Addr} {fd : FuncData}
abbrev nMm : List Str := ["_law_dice_here", "_law_clocks", "_law_rooms", "_law_limits", "_law_clock", "_law_room", "_law_turn"]
theorem scMm : FnScope nMm ["_law_dice_here"] (defScope sMmDrawn) := ⟨rfl, rfl, rfl, by decide +kernel, rfl, by decide +kernel, by decide +kernel⟩
theorem bm1 : BlkOk nMm (defScope sMmDrawn) scRows [("_law_room", 5)] := blkOk_by (by decide +kernel)
theorem bm2 : BlkOk nMm (relS scRows (defScope sMmDrawn)) { kind := .function, names := [(".0", .local), ("_law_clock", .local), ("_law_roll", .globalImplicit), ("_law_dice_here", .free)], isGenerator := false, isCoroutine := false } [("_law_clock", 4)] := blkOk_by (by decide +kernel)
theorem ok_mm (F : Fun K "_law_mm_drawn" "_law_mm_drawn" sMmDrawn f fd) (G : Gs mg) (dR : DefC P w K mg base 1 "_law_roll" ["_law_dice_here", "_law_most"] spRoll) (dM : DefC P w K mg base 4 "_law_ma_drawn" ["_law_dice_here"] (spDrawn K 8))
    (dD : DefC P w K mg base 3 "_law_ma_door" ["_law_dice_here", "_law_clocks", "_law_rooms"] (spMaDoor K)) : FnOk P w K mg base CX0 5 f fd ["_law_dice_here"] (toSp (spDrawn K 8)) := by
  refine okC F scMm (fun vs H Q h => by obtain ⟨D, rfl, _⟩ := h; rfl) fun cd A outer s H vs Q hr h => ?_
  obtain ⟨D, rfl, hD, q⟩ := h
  have hr1 := hr.mono (show 1 ≤ 4 by decide)
  have hr3 := hr.mono (show 3 ≤ 4 by decide)
  have u : U (cxU true [] P w K mg base nMm "_law_mm_drawn" (defScope sMmDrawn) f cd A outer s H) := .inl rfl
  refine ⟨_, pss_cons (ps_if (pt_cmpR oEq (pe_callC dR hr1 (pa_cons (pv 0) (pa_cons pe_int pa_nil))) pe_int (nomark _)) (pss_one (ps_ret (pe_callC dM hr (pa_cons (pv 0) pa_nil)))) pss_nil)
    (pss_cons (ps_asg (pe_tup (pa_cons (pe_op op_add pe_int (pe_callC dR hr1 (pa_cons (pv 0) (pa_cons pe_int pa_nil)))) (pa_cons (pe_op op_add pe_int (pe_callC dR hr1 (pa_cons (pv 0) (pa_cons pe_int pa_nil)))) pa_nil))) (pg_pairU u (pg_name (i := 1) scMm.nd rfl (Or.inr rfl)) (pg_name (i := 2) scMm.nd rfl (Or.inr rfl))))
    (pss_cons (ps_set (i := 3) scMm.nd rfl (Or.inl rfl) (pe_callTy call_tuple_of (by rfl) G.tuple boot_tuple (pa_cons (pe_lc (own := [("_law_room", 5)]) (g := gName 5) (tt := tYes) rfl scMm.nd (pi_range1 (by rfl) G.range (pa_cons (pv 2) pa_nil)) bm1
          (fun _ _ _ _ _ => pg_name (i := 5) scMm.nd rfl (Or.inl rfl)) (fun _ _ _ _ _ => pts_nil)
          (fun _ _ _ _ _ => pe_callTy (r := fun xs H Q => ∃ p ys, xs = [.ref p] ∧ ((SqL K H p ys ∧ ∀ l, H l = none → Q (.ref l) (upd H l (.tup ys))) ∨ (SqT K H p ys ∧ Q (.ref p) H))) call_tuple_of (by rfl) G.tuple boot_tuple (pa_cons
            (pe_lc (own := [("_law_clock", 4)]) (g := gName 4) (tt := tYes) rfl scMm.nd (pi_range1 (by rfl) G.range (pa_cons (pv 1) pa_nil)) bm2 (fun _ _ _ _ _ => pg_name (i := 4) scMm.nd rfl (Or.inl rfl)) (fun _ _ _ _ _ => pts_nil)
              (fun _ _ _ _ _ => pe_callC dR hr1 (pa_cons (pv 0) (pa_cons pe_int pa_nil)))) pa_nil))) pa_nil)))
    (pss_one (ps_ret (pe_tup (pa_cons (pv 1) (pa_cons (pv 3) (pa_cons (pe_callTy call_tuple_of (by rfl) G.tuple boot_tuple (pa_cons (pe_lc (own := [("_law_turn", 6)]) (g := gName 6) (tt := tYes) rfl scMm.nd (pi_range1 (by rfl) G.range (pa_cons (pe_callC dR hr1 (pa_cons (pv 0) (pa_cons pe_int pa_nil))) pa_nil)) (blkOk_by (N := nMm) (sc := defScope sMmDrawn) (by decide +kernel))
          (fun _ _ _ _ _ => pg_name (i := 6) scMm.nd rfl (Or.inl rfl)) (fun _ _ _ _ _ => pts_nil) (fun _ _ _ _ _ => pe_callC dD hr3 (pa_cons (pv 0) (pa_cons (pv 1) (pa_cons (pv 2) pa_nil))))) pa_nil)) pa_nil)))))))), ?_⟩
  refine ⟨_, rfl, D, 2, rfl, hD, by decide, by decide, fun k0 H0 e0 a0 b0 => eq_rd2 (fun z => ⟨true, rfl, iteT ?_⟩) fun z => ⟨false, rfl, iteF ?_⟩⟩
  · exact ⟨_, rfl, D, rfl, e0.b.at_, fun v m H1 e1 hv hm hn => q v m H1 (e0.trans e1) hv hm hn⟩
  · refine ⟨_, rfl, D, 3, rfl, e0.b.at_, by decide, by decide, fun k1 H1 e1 a1 b1 => ⟨_, _, rfl, rfl, _, rfl, D, 6, rfl, e1.b.at_, by decide, by decide, fun k2 H2 e2 a2 b2 => ⟨_, _, rfl, rfl, sz (Nat.le_of_ble_eq_true rfl), fun p0 hp0 => rd_pair (.of upd_same) ?_⟩⟩⟩
    have e3 := ((e0.trans e1).trans e2).then_new (u := .tup [.int (1 + k1), .int (1 + k2)]) hp0
    generalize upd H2 p0 (.tup [.int (1 + k1), .int (1 + k2)]) = H3 at e3 ⊢
    refine ⟨_, rfl, _, rfl, by omega, by omega, fun L2 hL2 => rows_run (K := K) (c := 1 + k1) hL2 e3.b.at_ (by omega) (fun i x Hx kt hi ev hx k => ⟨rfl, ?_⟩) fun ls acc2 H6 hacc2 hls e6 hlen2 hlv => ?_⟩
    · exact ⟨_, rfl, _, rfl, by omega, by omega, fun L3 hL3 => row_run K hL3 ev.b.at_ (by omega) (fun i x Hx kt hi ev hx k => ⟨rfl, _, rfl, D, 5, rfl, ev.b.at_, by decide, by decide, fun e H' e' h0 h4 => k e H' e' h0 (by omega)⟩) fun ns Hy hl ev2 hln hv => ⟨L3, _, rfl, .inl ⟨.of hl, fun p hp => k _ ns _ (ev2.then_new hp) (.new hp (.ints ns)) ⟨by omega, hv⟩⟩⟩⟩
    · refine ⟨L2, acc2, rfl, .inl ⟨.of hacc2, fun p1 hp1 => ?_⟩⟩
      have e7 := e6.then_new (u := .tup acc2) hp1
      have hp1' : At K (upd H6 p1 (.tup acc2)) (.ref p1) (pL ls) := .new hp1 hls
      generalize upd H6 p1 (.tup acc2) = H7 at e7 hp1' ⊢
      refine ⟨_, rfl, _, rfl, _, rfl, D, 9, rfl, e7.b.at_, by decide, by decide, fun k4 H8 e8 a4 b4 => ⟨_, rfl, by omega, by omega, fun L hL => ?_⟩⟩
      refine doors_run (K := K) (c := 1 + k1) (r := 1 + k2) hL e8.b.at_ (by omega) (fun i x Hx kt hi ev hx k => ⟨rfl, _, rfl, _, rfl, _, rfl, D, _, _, rfl, ev.b.at_, ⟨by omega, by omega⟩, ⟨by omega, by omega⟩, k⟩) fun ds acc H9 hacc hds e9 hlen hdv => ?_
      refine ⟨L, acc, rfl, .inl ⟨.of hacc, fun p2 hp2 => ⟨sz (Nat.le_of_ble_eq_true rfl), fun p3 hp3 => ?_⟩⟩⟩
      have e10 := e9.then_new (u := .tup acc) hp2
      have e11 := Ev.new (u := .tup [.int (1 + k1), .ref p1, .ref p2]) e10.b hp3
      have er : ((ls.length : Nat) : Int) = 1 + k2 := by omega
      refine q _ ⟨1 + k1, ls, ds⟩ _ ((((e3.trans e7).trans e8).trans e10).trans e11) (.new hp3 (.cons (.int _) (.cons (hp1'.ev (e8.trans e10)) (.one (.new hp2 hds))))) ⟨⟨by show 1 ≤ 1 + k1; omega, by show 1 + k1 ≤ 3; omega⟩, ⟨by show 1 ≤ ls.length; omega, by show ls.length ≤ 6; omega⟩, hlv, by show ds.length ≤ 12; omega, fun d hd => ?_⟩ (by show ds.length ≤ 8; omega)
      show VD (1 + k1) ((ls.length : Nat) : Int) d
      rw [er]
      exact hdv d hd
end K26

end PartW7

section PartW8
set_option maxRecDepth 100000
set_option maxHeartbeats 4000000
/-! W8: the properties, ==, !=, _law_is. -/
namespace K26
open PySem PySem.Spec PyProof.Rows L2 L2H SlX
variable {P : Program} {w : World} {K : PySem.W.Frag} {mg : Str → Option Value} {base : Heap} {f fI C CT : Addr} {fd fdI : FuncData}
def spPc (K : PySem.W.Frag) (C : Addr) : Sp0 := fun vs H Q => ∃ (a : Addr) (m : Mc), vs = [.ref a] ∧ MAt K C H a m ∧ Q (.int m.c) H
def spPl (K : PySem.W.Frag) (C : Addr) : Sp0 := fun vs H Q => ∃ (a : Addr) (m : Mc), vs = [.ref a] ∧ MAt K C H a m ∧ ∀ v, At K H v (pL m.ls) → Q v H
def spPd (K : PySem.W.Frag) (C : Addr) : Sp0 := fun vs H Q => ∃ (a : Addr) (m : Mc), vs = [.ref a] ∧ MAt K C H a m ∧ ∀ v, At K H v (pDs m.ds) → Q v H
theorem scPc : FnScope ["self"] ["self"] (defScope sPClocks) := ⟨rfl, rfl, rfl, by decide +kernel, rfl, by decide +kernel, by decide +kernel⟩
theorem scPl : FnScope ["self"] ["self"] (defScope sPLimits) := ⟨rfl, rfl, rfl, by decide +kernel, rfl, by decide +kernel, by decide +kernel⟩
theorem scPd : FnScope ["self"] ["self"] (defScope sPDoors) := ⟨rfl, rfl, rfl, by decide +kernel, rfl, by decide +kernel, by decide +kernel⟩
theorem ok_pc (F : Fun K "clocks" "Machine.clocks" sPClocks f fd) (T : MTxt K mg C) : FnOk P w K mg base CX0 1 f fd ["self"] (toSp (spPc K C)) := by
  refine okC F scPc (fun vs H Q h => by obtain ⟨a, m, rfl, _⟩ := h; rfl) fun cd A outer s H vs Q hr h => ?_
  obtain ⟨a, m, rfl, ha, q⟩ := h
  exact ⟨_, pss_one (ps_ret (pe_at (pv 0))), rd_clocks T ha rfl q⟩
theorem ok_pl (F : Fun K "limits" "Machine.limits" sPLimits f fd) (T : MTxt K mg C) : FnOk P w K mg base CX0 1 f fd ["self"] (toSp (spPl K C)) := by
  refine okC F scPl (fun vs H Q h => by obtain ⟨a, m, rfl, _⟩ := h; rfl) fun cd A outer s H vs Q hr h => ?_
  obtain ⟨a, m, rfl, ha, q⟩ := h
  exact ⟨_, pss_one (ps_ret (pe_at (pv 0))), rd_limits T ha rfl q⟩
theorem ok_pd (F : Fun K "doors" "Machine.doors" sPDoors f fd) (T : MTxt K mg C) : FnOk P w K mg base CX0 1 f fd ["self"] (toSp (spPd K C)) := by
  refine okC F scPd (fun vs H Q h => by obtain ⟨a, m, rfl, _⟩ := h; rfl) fun cd A outer s H vs Q hr h => ?_
  obtain ⟨a, m, rfl, ha, q⟩ := h
  exact ⟨_, pss_one (ps_ret (pe_at (pv 0))), rd_doors T ha rfl q⟩
/-- a property of the class, its getter's promise -/
structure PropF (P : Program) (w : World) (K : PySem.W.Frag) (mg : Str → Option Value) (base : Heap) (C : Addr) (f : Str) (sp : Sp0) : Prop where
  ex : ∃ p g fd, PySem.W.findIn K (.ref C) f = some (some (.ref p)) ∧ PySem.W.specialIn K (.ref p) "__get__" = some (some (.builtin "property.__get__")) ∧ PySem.W.takesIn K (.ref p) = some true ∧
    (∃ rest, PySem.W.recIn K p "property" = some (.ref g :: rest)) ∧ FnOk P w K mg base CX0 1 g fd ["self"] (toSp sp) ∧ Binds K fd ["self"] []
structure EqF (P : Program) (w : World) (K : PySem.W.Frag) (mg : Str → Option Value) (base : Heap) (C : Addr) : Prop where
  ne : PySem.W.findIn K (.ref C) "__ne__" = some (some (.builtin "object.__ne__"))
  ex : ∃ g fd, PySem.W.findIn K (.ref C) "__eq__" = some (some (.ref g)) ∧ PySem.W.isFn K (.ref g) = true ∧ FnU P w K mg base 1 g fd ["self", "other"] (spEq K C) ∧ Binds K fd ["self", "other"] []
def tProp (C : Addr) (sp : Sp0) (ta : TE) : TE := fun σ H Q => ta σ H fun x H1 => ∃ a dx vs, x = .ref a ∧ Slt H1 a C dx vs ∧ sp [.ref a] H1 Q
section
variable {X : Cx} {e : Expr} {f : Str} {pos : Pos} {ta : TE} {sp : Sp0}
theorem pe_prop (T : MTxt X.K X.mg C) (Pf : PropF X.prog X.w X.K X.mg X.base C f sp) (hr : Room 2 X.A) (he : PE X e ta) (hb : attributeBase e f X.env (eval e X.env) = eval e X.env := by rfl) : PE X (.Attribute e f pos) (tProp C sp ta) := by
  obtain ⟨p, g, fd, h1, h2, h3, h4, F, b⟩ := Pf.ex
  exact pe_propSl (E := E0) he T.cl h1 h2 h3 h4 (F.raw b .nil) hr (fun _ _ _ _ z => z) hb
theorem oMEq (u : U X) (E : EqF X.prog X.w X.K X.mg X.base C) (hr : RoomH 1 X.A) : OpR X (compareOp .Eq) (Wr2 (rOwnU X.K C (spEq X.K C))) := by
  obtain ⟨g, fd, h1, h2, F, b⟩ := E.ex
  exact or_wr (op_ownU (op := .Eq) u (fun _ _ => rfl) h1 h2 F b hr)
theorem oMNe (T : MTxt X.K X.mg C) (E : EqF X.prog X.w X.K X.mg X.base C) (hr : Room 2 X.A) : OpR X (compareOp .NotEq) (Wr2 (rNeOwn X.K C (spEq X.K C))) := by
  obtain ⟨g, fd, h1, h2, F, b⟩ := E.ex
  exact or_wr (op_neOwn E.ne T.si.cm h1 h2 F b hr)
end
theorem meq_rd {a b : Addr} {m : Mc} {H : Hp} {Q : VK} (T : MTxt K mg C) (ha : MAt K C H a m) (hb : MAt K C H b m) (q : ∀ H', Ev none H H' → Q (.bl true) H') : Wr2 (rOwnU K C (spEq K C)) (.ref a) (.ref b) H Q := by
  obtain ⟨dx, vL, vD, h1, _⟩ := id ha
  obtain ⟨dy, wL, wD, h2, _⟩ := id hb
  exact ⟨⟨a, dx, _, b, C, dy, _, rfl, rfl, h1, h2, T.nf, a, b, m, rfl, ha, hb, q⟩⟩
theorem mne_rd {a b : Addr} {m : Mc} {H : Hp} {Q : VK} (T : MTxt K mg C) (ha : MAt K C H a m) (hb : MAt K C H b m) (q : ∀ H', Ev none H H' → Q (.bl false) H') : Wr2 (rNeOwn K C (spEq K C)) (.ref a) (.ref b) H Q := by
  obtain ⟨dx, vL, vD, h1, _⟩ := id ha
  obtain ⟨dy, wL, wD, h2, _⟩ := id hb
  exact ⟨⟨a, dx, _, b, C, dy, _, rfl, rfl, h1, h2, T.nf, a, b, m, rfl, ha, hb, fun H' e => ⟨true, rfl, q H' e⟩⟩⟩
/-- Machine(told[0], told[1], told[2]) -/
theorem make_ix {σ : L2.St} {i : Nat} {v : V} {m : Mc} {o : Option Addr} {H : Hp} {Q : VK} (h : σ[i]? = some (some v)) (hv : At K H v (pM m)) (hm : VM m) (hk : Ok o H) (q : ∀ x H', Ev o H H' → MAt K C H' x m → Q (.ref x) H') :
    WrE (tMakeU C (spInit K C) (tCons (tOp (Wr2 (rIxT K)) (tVar i) (tC (.int 0))) (tCons (tOp (Wr2 (rIxT K)) (tVar i) (tC (.int 1))) (tCons (tOp (Wr2 (rIxT K)) (tVar i) (tC (.int 2))) tNil)))) σ H Q := by
  refine ⟨_, h, ix_at 0 hv rfl rfl fun x0 hx0 => ⟨_, h, ix_at 1 hv rfl rfl fun x1 hx1 => ⟨_, h, ix_at 2 hv rfl rfl fun x2 hx2 => ?_⟩⟩⟩
  cases hx0.int_inv
  exact make_rd (m := m) (Q := Q) hk hx1 hx2 hm q
/-! ### _law_is -/
def spIs (K : PySem.W.Frag) (C : Addr) : Sp0 := fun vs H Q => ∃ (a : Addr) (m : Mc) (v : V), vs = [.ref a, v] ∧ MAt K C H a m ∧ At K H v (pM m) ∧ VM m ∧ ∀ H', Ev none H H' → Q (.bl true) H'
theorem scIs : FnScope ["_law_machine", "_law_told"] ["_law_machine", "_law_told"] (defScope sIs) := ⟨rfl, rfl, rfl, by decide +kernel, rfl, by decide +kernel, by decide +kernel⟩
theorem ok_is (F : Fun K "_law_is" "_law_is" sIs f fd) (T : MTxt K mg C) (M : Mk K C fI) (FI : FnU P w K mg base 8 fI fdI ["self", "clocks", "limits", "doors"] (spInit K C)) (bI : Binds K fdI ["self", "clocks", "limits", "doors"] [])
    (pc : PropF P w K mg base C "clocks" (spPc K C)) (pl : PropF P w K mg base C "limits" (spPl K C)) (pd : PropF P w K mg base C "doors" (spPd K C)) (E : EqF P w K mg base C) : FnOk P w K mg base CX0 10 f fd ["_law_machine", "_law_told"] (toSp (spIs K C)) := by
  refine okC F scIs (fun vs H Q h => by obtain ⟨a, m, v, rfl, _⟩ := h; rfl) fun cd A outer s H vs Q hr h => ?_
  obtain ⟨a, m, v, rfl, ha, hv, hm, q⟩ := h
  have u : U (cxU true [] P w K mg base ["_law_machine", "_law_told"] "_law_is" (defScope sIs) f cd A outer s H) := .inl rfl
  have hr2 := hr.mono (show 2 ≤ 9 by decide)
  refine ⟨_, pss_one (ps_ret (pe_and (pe_cmpR (oEqD (huR hr)) (pe_tup (pa_cons (pe_prop T pc hr2 (pv 0)) (pa_cons (pe_prop T pl hr2 (pv 0)) (pa_cons (pe_prop T pd hr2 (pv 0)) pa_nil)))) (pv 1) (nomark _))
    (pe_one (pe_cmpR (oMEq u E (rh (rhR hr) (by decide))) (pv 0) (pe_wr (pe_makeU u M FI (rhR hr) T.mgC bI (pa_cons (pe_ix iTup (pv 1) pe_int (fun _ _ => rfl)) (pa_cons (pe_ix iTup (pv 1) pe_int (fun _ _ => rfl)) (pa_cons (pe_ix iTup (pv 1) pe_int (fun _ _ => rfl)) pa_nil))))) (nomark _))))), ?_⟩
  obtain ⟨dx, wL, wD, h1, _⟩ := id ha
  refine ⟨_, rfl, a, dx, _, rfl, h1, a, m, rfl, ha, _, rfl, a, dx, _, rfl, h1, a, m, rfl, ha, fun vL hL => ⟨_, rfl, a, dx, _, rfl, h1, a, m, rfl, ha, fun vD hD => ⟨sz (Nat.le_of_ble_eq_true rfl), fun p hp => ?_⟩⟩⟩
  have e1 := Ev.new (u := .tup [.int m.c, vL, vD]) (Ok.nil (H := H)) hp
  refine ⟨_, rfl, eq_rdD (d := pM m) (.new hp (.cons (.int _) (.cons hL (.one hD)))) (hv.ev e1) ((sh_pM m).mono (by decide)) ⟨true, rfl, iteT ?_⟩⟩
  have hv1 := hv.ev e1
  exact ⟨_, rfl, make_ix rfl hv1 hm .nil fun x H2 e2 M2 => meq_rd T ((ha.ev e1).ev e2) M2 fun H3 e3 => q H3 ((e1.trans e2).trans e3)⟩
end K26

end PartW8

section PartW9
set_option maxRecDepth 100000
set_option maxHeartbeats 4000000
/-! W9: _law_changed. -/
namespace K26
open PySem PySem.Spec PyProof.Rows L2 L2H SlX
variable {P : Program} {w : World} {K : PySem.W.Frag} {mg : Str → Option Value} {base : Heap} {f fI C CT : Addr} {fd fdI : FuncData}
/-- a def that may raise -/
structure DefN (P : Program) (w : World) (K : PySem.W.Frag) (mg : Str → Option Value) (base : Heap) (k : Nat) (x : Str) (ps : List Str) (sp : Sp) : Prop where
  ex : ∃ f fd, FnOk P w K mg base (L2N.CX P w) k f fd ps sp ∧ mg x = some (.ref f) ∧ PySem.W.keepIn K (.ref f) = true ∧ Binds K fd ps []
theorem passN {X : Cx} : Passes (L2N.CX X.prog X.w) X E0 := fun _ _ _ _ _ _ _ h => by
  obtain ⟨_, _, _, _, _, _, _, _, _, _, _, _, h⟩ := h
  exact h.elim
theorem pe_callN {X : Cx} {k : Nat} {x : Str} {ps : List Str} {sp : Sp} {p pos : Pos} {e : Expr} {es : List Expr} {t : TA} (d : DefN X.prog X.w X.K X.mg X.base k x ps sp) (hr : Room k X.A) (ha : PA X (e :: es) t) (hg : Gl X x := by rfl) (hdb : (x == ("__debug__" : Str)) = false := by decide)
    (he : starEach (e :: es) X.env = (false, eval e X.env) :: starEach es X.env := by rfl) (hpl : (backTo pos (starEach es X.env)).any (·.1) = false := by rfl) : PE X (.Call (.Name x p) (e :: es) [] pos) (tCall sp [] E0 t) := by
  obtain ⟨f, fd, F, hm, hk, hb⟩ := d.ex
  exact pe_call F hr hg hm hk hb .nil passN ha hdb he hpl
/-- [index for index in range(n) if roll(..) == 0] -/
theorem lot_run (K : PySem.W.Frag) {D : Addr} {σ : L2.St} {H1 : Hp} {L : Addr} {Qd : Hp → Prop} {g : TG} {tt : TT} {te : TE} {vs : List Nat} {n : Nat} (hL : H1 L = none) (hD : DiceAt H1 D) (hn : n ≤ 1000)
    (hs : ∀ (i : Nat) (x : V) (H : Hp) (kt : V → Hp → Prop) (kf : Hp → Prop), i < n → Ev (some D) H1 H → x = V.int (0 + (i : Nat)) → (∀ H', Ev (some D) H H' → kt x H') → (∀ H', Ev (some D) H H' → kf H') → g x (wipe σ vs) H fun σ2 H2 => wipe σ2 vs = wipe σ vs ∧ tt σ2 H2 fun b H3 => if b = true then te σ2 H3 kt else kf H3)
    (hd : ∀ ns : List Int, ∀ H, H L = some (.lst (ns.map V.int)) → Ev (some D) H1 H → Asc ns n → Qd H) :
    ∃ W : Nat → Nat → Hp → Prop, (∃ m, W 0 m (upd H1 L (.lst []))) ∧ ∀ i m H, W i m H →
      ((Itr 0 n).stop i H ∧ Qd H) ∨ ((Itr 0 n).go i H ∧ ∃ Nx : Hp → Prop, (∀ H', Nx H' → ∃ m', m' < m ∧ W (i + 1) m' H') ∧ ∀ x H', (Itr 0 n).yld i H x H' → g x (wipe σ vs) H' fun σ2 H2 => wipe σ2 vs = wipe σ vs ∧ tt σ2 H2 fun b H3 =>
        if b = true then te σ2 H3 fun y H4 => ∃ acc, H4 L = some (.lst acc) ∧ acc.length < sizeLine ∧ Nx (upd H4 L (.lst (acc ++ [y]))) else Nx H3) := by
  refine lc_runD (walk_range (lo := 0)) hL K (some D) (okD hD) (fun _ _ => trivial) (fun i acc _ => ∃ ns : List Int, acc = ns.map V.int ∧ Asc ns i) ⟨[], rfl, .nil _⟩ (fun _ _ _ _ _ h => h) (by omega) ?_ ?_
  · rintro i x acc H H' kt kf hi ev ⟨ns, rfl, hasc⟩ ⟨rfl, rfl⟩ k1 k2
    refine hs i _ _ kt kf hi ev rfl (fun H4 e4 => k1 _ _ e4 ⟨ns ++ [(i : Int)], ?_, hasc.snoc⟩) fun H4 e4 => k2 _ e4 ⟨ns, rfl, hasc.up⟩
    rw [List.map_append]
    show _ ++ [V.int (0 + (i : Int))] = _ ++ [V.int i]
    rw [Int.zero_add]
  · rintro acc H hacc hle ev ⟨ns, rfl, hasc⟩
    exact hd ns H hacc ev hasc
def spChanged (K : PySem.W.Frag) (C : Addr) : Sp0 := fun vs H Q => ∃ (D a : Addr) (m : Mc) (v : V), vs = [.ref D, .ref a, v] ∧ DiceAt H D ∧ MAt K C H a m ∧ VM m ∧ At K H v (pM m) ∧
  ∀ p a' v' m' H', Ev (some D) H H' → SqT K H' p [.ref a', v'] → MAt K C H' a' m' → At K H' v' (pM m') → VM m' → Q (.ref p) H'
abbrev nCh : List Str := ["_law_dice_here", "_law_machine", "_law_told", "_law_clocks", "_law_limits", "_law_doors", "_law_way", "_law_door", "_law_lot", "_law_left", "_law_room", "_law_some", "_law_index", "_law_clock"]
theorem scCh : FnScope nCh ["_law_dice_here", "_law_machine", "_law_told"] (defScope sChanged) := ⟨rfl, rfl, rfl, by decide +kernel, rfl, by decide +kernel, by decide +kernel⟩
theorem ok_changed (F : Fun K "_law_changed" "_law_changed" sChanged f fd) (G : Gs mg) (dR : DefC P w K mg base 1 "_law_roll" ["_law_dice_here", "_law_most"] spRoll) (dD : DefC P w K mg base 3 "_law_ma_door" ["_law_dice_here", "_law_clocks", "_law_rooms"] (spMaDoor K))
    (dW : DefN P w K mg base 10 "with_door" ["machine", "door"] (spWithDoor K C CT)) (dO : DefU P w K mg base 11 "without_doors" ["machine", "lot"] (spWithout K C)) (dL : DefC P w K mg base 10 "with_limits" ["machine", "room", "limits"] (spWithLim K C)) :
    FnOk P w K mg base CX0 12 f fd ["_law_dice_here", "_law_machine", "_law_told"] (toSp (spChanged K C)) := by
  refine okC F scCh (fun vs H Q h => by obtain ⟨D, a, m, v, rfl, _⟩ := h; rfl) fun cd A outer s H vs Q hr h => ?_
  obtain ⟨D, a, m, v, rfl, hD, ha, hm, hv, q⟩ := h
  have u : U (cxU true [] P w K mg base nCh "_law_changed" (defScope sChanged) f cd A outer s H) := .inl rfl
  have hr1 := hr.mono (show 1 ≤ 11 by decide)
  have hr3 := hr.mono (show 3 ≤ 11 by decide)
  have hr10 := hr.mono (show 10 ≤ 11 by decide)
  refine ⟨_, pss_cons (ps_asg (pv 2) (pg_tup rfl (pgs_cons (pg_name (i := 3) scCh.nd rfl (Or.inl rfl)) (pgs_cons (pg_name (i := 4) scCh.nd rfl (Or.inl rfl)) (pgs_cons (pg_name (i := 5) scCh.nd rfl (Or.inl rfl)) pgs_nil)))))
    (pss_cons (ps_set (i := 6) scCh.nd rfl (Or.inl rfl) (pe_callC dR hr1 (pa_cons (pv 0) (pa_cons pe_int pa_nil))))
    (pss_cons (ps_if (PW.pt (pw_and (pt_cmpR oEq (pv 6) pe_int (nomark _)) (pw_and1 (pt_cmpR oLt (pe_callB cLen (by rfl) G.len PySem.boot_len (pa_cons (pv 5) pa_nil)) pe_int (nomark _)))))
      (pss_cons (ps_set (i := 7) scCh.nd rfl (Or.inl rfl) (pe_callC dD hr3 (pa_cons (pv 0) (pa_cons (pv 3) (pa_cons (pe_callB cLen (by rfl) G.len PySem.boot_len (pa_cons (pv 4) pa_nil)) pa_nil)))))
      (pss_one (ps_ret (pe_tup (pa_cons (pe_callN dW hr10 (pa_cons (pv 1) (pa_cons (pv 7) pa_nil))) (pa_cons (pe_tup (pa_cons (pv 3) (pa_cons (pv 4) (pa_cons (pe_op oCat (pv 5) (pe_tup (pa_cons (pv 7) pa_nil))) pa_nil)))) pa_nil)))))) pss_nil)
    (pss_cons (ps_if (pt_cmpR oEq (pv 6) pe_int (nomark _))
      (pss_cons (ps_set (i := 8) scCh.nd rfl (Or.inr rfl) (pe_callTy call_tuple_of (by rfl) G.tuple boot_tuple (pa_cons (pe_lc (own := [("_law_index", 12)]) (g := gName 12) rfl scCh.nd (pi_range1 (by rfl) G.range (pa_cons (pe_callB cLen (by rfl) G.len PySem.boot_len (pa_cons (pv 5) pa_nil)) pa_nil)) (blkOk_by (N := nCh) (sc := defScope sChanged) (by decide +kernel))
          (fun _ _ _ _ _ => pg_name (i := 12) scCh.nd rfl (Or.inl rfl)) (fun _ _ _ _ _ => pts_one (pt_cmpR oEq (pe_callC dR hr1 (pa_cons (pv 0) (pa_cons pe_int pa_nil))) pe_int (nomark _))) (fun _ _ _ _ _ => pv 12)) pa_nil)))
      (pss_cons (ps_set (i := 9) scCh.nd rfl (Or.inl rfl) (pe_callTy call_tuple_of (by rfl) G.tuple boot_tuple (pa_cons (pe_lcU (own := [("_law_index", 12), ("_law_door", 7)]) (g := WrG (gTup K 2 (gCons (gName 12) (gCons (gName 7) gNil)))) u scCh.nd (piU_enum (by rfl) G.enumerate (pa_cons (pv 5) pa_nil)) (blkOk_by (N := nCh) (sc := defScope sChanged) (by decide +kernel))
          (fun _ _ _ _ _ => pg_pairU u (pg_name (i := 12) scCh.nd rfl (Or.inl rfl)) (pg_name (i := 7) scCh.nd rfl (Or.inl rfl))) (fun _ _ _ _ _ => pts_one (pt_cmpR (r := rIn K true) op_notIn_seq (pv 12) (pv 8) (by rfl))) (fun _ _ _ _ _ => pv 7)) pa_nil)))
      (pss_one (ps_ret (pe_tup (pa_cons (pe_callU u dO (rhR hr) (pa_cons (pv 1) (pa_cons (pv 8) pa_nil))) (pa_cons (pe_tup (pa_cons (pv 3) (pa_cons (pv 4) (pa_cons (pv 9) pa_nil)))) pa_nil))))))) pss_nil)
    (pss_cons (ps_par (i := 10) (j := 11) rfl scCh.nd rfl rfl (by decide) rfl rfl (pa_cons (pe_callC dR hr1 (pa_cons (pv 0) (pa_cons (pe_callB cLen (by rfl) G.len PySem.boot_len (pa_cons (pv 4) pa_nil)) pa_nil))) (pa_cons (pe_callTy call_tuple_of (by rfl) G.tuple boot_tuple (pa_cons
          (pe_lc (own := [("_law_clock", 13)]) (g := gName 13) (tt := tYes) rfl scCh.nd (pi_range1 (by rfl) G.range (pa_cons (pv 3) pa_nil)) (blkOk_by (N := nCh) (sc := defScope sChanged) (by decide +kernel)) (fun _ _ _ _ _ => pg_name (i := 13) scCh.nd rfl (Or.inl rfl)) (fun _ _ _ _ _ => pts_nil)
            (fun _ _ _ _ _ => pe_callC dR hr1 (pa_cons (pv 0) (pa_cons pe_int pa_nil)))) pa_nil)) pa_nil)) (by rfl))
    (pss_one (ps_ret (pe_tup (pa_cons (pe_callC dL hr10 (pa_cons (pv 1) (pa_cons (pv 10) (pa_cons (pv 11) pa_nil)))) (pa_cons (pe_tup (pa_cons (pv 3) (pa_cons (pe_op oCat (pe_op oCat (pe_slice (sl_wr sl_tupA) (pv 4) po_none (po_some (pv 10))) (pe_tup (pa_cons (pv 11) pa_nil))) (pe_slice (sl_wr sl_tupA) (pv 4) (po_some (pe_op op_add (pv 10) pe_int)) po_none)) (pa_cons (pv 5) pa_nil)))) pa_nil))))))))), ?_⟩
  obtain ⟨pt, tvs, rfl, hpt, htvs⟩ := hv.tup_inv
  obtain ⟨v0, vL, vD, rfl, a0, hL, hDs⟩ : ∃ x y z, tvs = [x, y, z] ∧ At K H x (.int m.c) ∧ At K H y (pL m.ls) ∧ At K H z (pDs m.ds) := by
    cases htvs with
    | cons a r =>
      cases r with
      | cons b r =>
        cases r with
        | cons c r =>
          cases r
          exact ⟨_, _, _, rfl, a, b, c⟩
  cases a0.int_inv
  have hc := hm.c
  have hrm := hm.r
  have hn := hm.n
  refine ⟨_, rfl, pt, _, rfl, hpt, rfl, _, _, rfl, _, _, rfl, _, _, rfl, rfl, ?_⟩
  refine ⟨_, rfl, D, 3, rfl, hD, by decide, by decide, fun kw H1 e1 hw0 hw1 => ?_⟩
  -- a door behind
  have eN : (((m.ds.map pD).length : Nat) : Int).toNat = m.ds.length := by rw [List.length_map]; exact Int.toNat_natCast _
  refine ⟨_, rfl, eq_rd2 (fun z0 => ⟨true, rfl, iteT ⟨_, rfl, len_tup (hDs.ev e1) (lt_rd2 (fun zl => ⟨true, rfl, iteT ?_⟩) fun zl => ⟨false, rfl, iteF ?_⟩)⟩⟩) fun z0 => ⟨false, rfl, iteF (iteF ?_)⟩⟩
  · rw [List.length_map] at zl
    refine ⟨_, rfl, _, rfl, _, rfl, len_tup (hL.ev e1) ⟨D, m.c, _, rfl, e1.b.at_, hc, (by rw [List.length_map]; omega), fun dv d H2 e2 hdv hd => ?_⟩⟩
    rw [List.length_map] at hd
    have e12 := e1.trans e2
    refine ⟨_, rfl, _, rfl, a, dv, m, d, rfl, ha.ev e12, hm, hdv, hd, fun _ x H3 e3 M3 => ?_, fun z => absurd z (by omega)⟩
    have e13 := e12.trans (e3.lift e12.b)
    refine ⟨_, rfl, _, rfl, _, rfl, _, rfl, sz (Nat.le_of_ble_eq_true rfl), fun p4 hp4 => ?_⟩
    have e14 := e13.then_new (u := .tup [dv]) hp4
    have h4 : At K (upd H3 p4 (.tup [dv])) (.ref p4) (.tuple [pD d]) := .new hp4 (.one (hdv.ev e3))
    have M4 := M3.ev (Ev.new (u := .tup [dv]) e13.b hp4)
    generalize upd H3 p4 (.tup [dv]) = H4 at e14 h4 M4 ⊢
    refine cat_at (hDs.ev e14) h4 (by rw [List.length_map, List.length_singleton]; omega) fun z5 H5 e5 hz5 => ⟨sz (Nat.le_of_ble_eq_true rfl), fun p6 hp6 => ⟨sz (Nat.le_of_ble_eq_true rfl), fun p7 hp7 => ?_⟩⟩
    have e15 := e14.trans (e5.lift e14.b)
    have e16 := Ev.new (u := .tup [.int m.c, vL, z5]) e15.b hp6
    have e17 := Ev.new (u := .tup [.ref x, .ref p6]) e16.b hp7
    have hz5' : At K H5 z5 (pDs (m.ds ++ [d])) := by
      show At K H5 z5 (.tuple ((m.ds ++ [d]).map pD))
      rw [List.map_append]
      exact hz5
    exact q p7 x (.ref p6) { m with ds := m.ds ++ [d] } _ ((e15.trans e16).trans e17) (.of upd_same) (((M4.ev e5).ev e16).ev e17) ((At.new (ds := [.int m.c, pL m.ls, pDs (m.ds ++ [d])]) hp6 (.cons (.int _) (.cons (hL.ev e15) (.one hz5')))).ev e17) (hm.more hd (by omega))
  refine ⟨_, rfl, eq_rd2 (fun z1 => absurd (z0.symm.trans z1) (by decide)) fun z1 => ⟨false, rfl, iteF ?_⟩⟩
  rotate_left 1
  refine ⟨_, rfl, eq_rd2 (fun z1 => ⟨true, rfl, iteT ?_⟩) fun z1 => ⟨false, rfl, iteF ?_⟩⟩
  · refine ⟨_, rfl, len_tup (hDs.ev e1) ⟨_, rfl, by omega, by rw [List.length_map]; omega, fun L hLn => lot_run K hLn e1.b.at_ (by rw [eN]; omega) (fun i x Hx kt kf hi ev hx k1 k2 => ⟨rfl, _, rfl, D, 3, rfl, ev.b.at_, by decide, by decide, fun k H3 e3 h0 h1 => eq_rd2 (fun z => ⟨true, rfl, iteT ⟨_, rfl, k1 _ e3⟩⟩) fun z => ⟨false, rfl, iteF (k2 _ e3)⟩⟩) fun ns H2 hl e2 hasc => ?_⟩⟩
    rw [eN] at hasc
    refine ⟨L, _, rfl, .inl ⟨.of hl, fun p3 hp3 => ?_⟩⟩
    have e3 := (e1.trans e2).then_new (u := .tup (ns.map V.int)) hp3
    have hlot : At K (upd H2 p3 (.tup (ns.map V.int))) (.ref p3) (pI ns) := .new hp3 (.ints ns)
    have hlotT : SqT K (upd H2 p3 (.tup (ns.map V.int))) p3 (ns.map V.int) := .of upd_same
    generalize upd H2 p3 (.tup (ns.map V.int)) = H3 at e3 hlot hlotT ⊢
    obtain ⟨d5, xs, hxd, h1, h2⟩ := (hDs.ev e3).tup_inv
    subst hxd
    have hlen := h2.length
    rw [List.length_map] at hlen
    refine ⟨_, rfl, d5, xs, rfl, h1, lc_run walk_enumU K none .nil (fun H e => e.tp _ _ h1) (fun i acc H => AtAll K H acc ((keptN ns (m.ds.take i)).map pD)) .nil (fun _ _ _ _ t l => l.mono t) (by omega) ?_ ?_⟩
    · rintro i x acc H4 H5 kt kf hi ev hacc ⟨T, x, y, rfl, hT, rfl, hx, hy⟩ k1 k2
      obtain ⟨e, hd, hat⟩ := h2.get i y hy
      rw [List.getElem?_map] at hd
      obtain ⟨dr, hdr, rfl⟩ := Option.map_eq_some_iff.mp hd
      cases (show some (V.int (i : Nat)) = some x from hx)
      have ev2 := (Ev.refl (Ok.nil (H := H4))).then_new (u := .tup [.int (i : Nat), y]) hT
      refine rd_pair (.of upd_same) ⟨by rfl, _, rfl, _, rfl, p3, _, rfl, .inr (ev2.tp _ _ (ev.tp _ _ hlotT)), rfl, flat_ints _, _, rfl, ?_⟩
      show if (!inV (V.int (i : Nat)) (ns.map V.int)) = true then _ else _
      rw [inV_int]
      cases q : ns.contains ((i : Nat) : Int) with
      | true =>
        refine iteF (k2 _ ev2 ?_)
        show AtAll K _ acc ((keptN ns (m.ds.take (i + 1))).map pD)
        rw [keptN_take hdr, if_pos q, List.append_nil]
        exact hacc.ev ev2
      | false =>
        refine iteT ⟨_, rfl, k1 _ _ ev2 ?_⟩
        show AtAll K _ (acc ++ [y]) ((keptN ns (m.ds.take (i + 1))).map pD)
        rw [keptN_take hdr, if_neg (by rw [q]; decide), List.map_append]
        exact (hacc.ev ev2).append (.one ((hat.ev ev).ev ev2))
    · rintro D2 acc H4 hD2 hacc hle e4 l
      have l2 : AtAll K H4 acc ((keptN ns m.ds).map pD) := by
        have z : AtAll K H4 acc ((keptN ns (m.ds.take xs.length)).map pD) := l
        rwa [List.take_of_length_le (by omega)] at z
      refine ⟨D2, acc, rfl, .inl ⟨.of hacc, fun p5 hp5 => ?_⟩⟩
      have e34 := e4.lift e3.b
      have e5 := (e3.trans e34).then_new (u := .tup acc) hp5
      have hleft : At K (upd H4 p5 (.tup acc)) (.ref p5) (pDs (keptN ns m.ds)) := .new hp5 l2
      have hlot5 := (hlot.ev e4).ev (Ev.new (u := .tup acc) (Ok.nil (H := H4)) hp5)
      generalize upd H4 p5 (.tup acc) = H5 at e5 hleft hlot5 ⊢
      refine ⟨_, rfl, _, rfl, a, _, m, ns, rfl, ha.ev e5, hm, hlot5, hasc, hasc.short (by omega), fun x H6 e6 M6 => ?_⟩
      have e56 := e5.trans (e6.lift e5.b)
      refine ⟨_, rfl, _, rfl, _, rfl, sz (Nat.le_of_ble_eq_true rfl), fun p7 hp7 => ⟨sz (Nat.le_of_ble_eq_true rfl), fun p8 hp8 => ?_⟩⟩
      have e7 := Ev.new (u := .tup [.int m.c, vL, .ref p5]) e56.b hp7
      have e8 := Ev.new (u := .tup [.ref x, .ref p7]) e7.b hp8
      exact q p8 x (.ref p7) { m with ds := keptN ns m.ds } _ ((e56.trans e7).trans e8) (.of upd_same) ((M6.ev e7).ev e8) ((At.new (ds := [.int m.c, pL m.ls, pDs (keptN ns m.ds)]) hp7 (.cons (.int _) (.cons (hL.ev e56) (.one (hleft.ev e6))))).ev e8) (hm.kept ns)
  all_goals
    refine ⟨_, rfl, _, rfl, len_tup (hL.ev e1) ⟨D, _, rfl, e1.b.at_, (by rw [List.length_map]; omega), (by rw [List.length_map]; omega), fun kr H2 e2 hr0 hrm1 => ⟨_, rfl, _, rfl, by omega, by omega, fun L hLn => row_run K hLn e2.b.at_ (by omega) (fun i x Hx kt hi ev hx k => ⟨rfl, _, rfl, D, 5, rfl, ev.b.at_, by decide, by decide, fun e H' e' h0 h4 => k e H' e' h0 (by omega)⟩) fun ns H3 hl e3 hln hvv => ?_⟩⟩⟩
    rw [List.length_map] at hrm1
    obtain ⟨n, rfl⟩ : ∃ n : Nat, kr = n := ⟨kr.toNat, by omega⟩
    refine ⟨L, _, rfl, .inl ⟨.of hl, fun p3 hp3 => ⟨_, _, rfl, ?_⟩⟩⟩
    have e13 := ((e1.trans e2).trans e3).then_new (u := .tup (ns.map V.int)) hp3
    have hsome : At K (upd H3 p3 (.tup (ns.map V.int))) (.ref p3) (pI ns) := .new hp3 (.ints ns)
    generalize upd H3 p3 (.tup (ns.map V.int)) = H4 at e13 hsome ⊢
    have hvl : VL m.c ns := ⟨by omega, hvv⟩
    have hnr : n < m.ls.length := by omega
    refine ⟨_, rfl, _, rfl, _, rfl, a, m, n, _, ns, rfl, ha.ev e13, hm, hnr, hsome, hvl, fun x H5 e5 M5 => ?_⟩
    have e15 := e13.trans (e5.lift e13.b)
    refine ⟨_, rfl, _, rfl, _, rfl, _, rfl, sl_to n (hL.ev e15) rfl fun x6 H6 e6 hx6 => ⟨_, rfl, sz (Nat.le_of_ble_eq_true rfl), fun p7 hp7 => ?_⟩⟩
    have e57 := e6.then_new (u := .tup [.ref p3]) hp7
    refine cat_at (hx6.ev (Ev.new .nil hp7)) (.new hp7 (.one ((hsome.ev e5).ev e6))) (by rw [List.length_take, List.length_map, List.length_singleton]; omega) fun z8 H8 e8 hz8 => ?_
    have e58 := e57.trans e8
    refine ⟨_, rfl, _, rfl, _, _, rfl, rfl, _, rfl, sl_from (n + 1) ((hL.ev e15).ev e58) (by omega) fun x9 H9 e9 hx9 => cat_at (hz8.ev e9) hx9 (by rw [List.length_append, List.length_take, List.length_drop, List.length_map, List.length_singleton]; omega) fun z10 H10 e10 hz10 => ⟨_, rfl, sz (Nat.le_of_ble_eq_true rfl), fun p11 hp11 => ⟨sz (Nat.le_of_ble_eq_true rfl), fun p12 hp12 => ?_⟩⟩⟩
    have e510 := (e58.trans e9).trans e10
    have e110 := e15.trans (e510.lift e15.b)
    have e11 := Ev.new (u := .tup [.int m.c, z10, vD]) e110.b hp11
    have e12 := Ev.new (u := .tup [.ref x, .ref p11]) e11.b hp12
    have hz : At K H10 z10 (pL (putL m.ls n ns)) := by
      show At K H10 z10 (.tuple ((m.ls.take n ++ [ns] ++ m.ls.drop (n + 1)).map pI))
      rw [List.map_append, List.map_append, List.map_take, List.map_drop]
      exact hz10
    exact q p12 x (.ref p11) { m with ls := putL m.ls n ns } _ ((e110.trans e11).trans e12) (.of upd_same) (((M5.ev e510).ev e11).ev e12) ((At.new (ds := [.int m.c, pL (putL m.ls n ns), pDs m.ds]) hp11 (.cons (.int _) (.cons hz (.one (hDs.ev e110))))).ev e12) (hm.putL hnr hvl)
end K26

end PartW9

section PartX0
set_option maxRecDepth 100000
set_option maxHeartbeats 4000000
/-! X0: _law_right. -/
namespace K26
open PySem PySem.Spec PyProof.Rows L2 L2H SlX
variable {P : Program} {w : World} {K : PySem.W.Frag} {mg : Str → Option Value} {base : Heap} {f fI C CT : Addr} {fd fdI : FuncData}
theorem keptN_none {lot : List Int} {ds : List Dr} (h : ∀ j : Nat, j < ds.length → lot.contains (j : Int) = false) : keptN lot ds = ds := by
  have q : ∀ i, i ≤ ds.length → keptN lot (ds.take i) = ds.take i := by
    intro i
    induction i with
    | zero => intro _; rfl
    | succ i ih =>
      intro hi
      have hd : ds[i]? = some (ds[i]'(by omega)) := List.getElem?_eq_getElem (by omega)
      rw [keptN_take hd, h i (by omega), ih (by omega), List.take_add_one, hd]
      rfl
  have z := q ds.length (Nat.le_refl _)
  rwa [List.take_length] at z
theorem keptN_all {lot : List Int} {ds : List Dr} (h : ∀ j : Nat, j < ds.length → lot.contains (j : Int) = true) : keptN lot ds = [] := by
  have q : ∀ i, i ≤ ds.length → keptN lot (ds.take i) = [] := by
    intro i
    induction i with
    | zero => intro _; rfl
    | succ i ih =>
      intro hi
      have hd : ds[i]? = some (ds[i]'(by omega)) := List.getElem?_eq_getElem (by omega)
      rw [keptN_take hd, h i (by omega), ih (by omega)]
      rfl
  have z := q ds.length (Nat.le_refl _)
  rwa [List.take_length] at z
theorem keptN_last {ds : List Dr} {d : Dr} : keptN [(ds.length : Int)] (ds ++ [d]) = ds := by
  have hd : (ds ++ [d])[ds.length]? = some d := by rw [List.getElem?_append_right (Nat.le_refl _), Nat.sub_self]; rfl
  have z := keptN_take (lot := [(ds.length : Int)]) hd
  have e1 : (ds ++ [d]).take (ds.length + 1) = ds ++ [d] := List.take_of_length_le (by rw [List.length_append, List.length_singleton]; exact Nat.le_refl _)
  have e2 : (ds ++ [d]).take ds.length = ds := by rw [List.take_append_of_le_length (Nat.le_refl _), List.take_length]
  have e3 : ([(ds.length : Int)].contains ((ds.length : Nat) : Int)) = true := by simp
  have e4 : keptN [(ds.length : Int)] ds = ds := keptN_none fun j hj => by
    have : ¬ ((j : Int) = (ds.length : Int)) := by omega
    simp [this]
  rw [e1, e2, e3, e4] at z
  rw [z]
  exact List.append_nil ds
def ints0 (n : Nat) : List Int := (List.range n).map fun (i : Nat) => (i : Int)
theorem ints0_mem {n j : Nat} (h : j < n) : (ints0 n).contains (j : Int) = true := by
  rw [List.contains_iff_mem]
  exact List.mem_map.mpr ⟨j, List.mem_range.mpr h, rfl⟩
theorem ints0_asc (n : Nat) : Asc (ints0 n) n := by
  refine ⟨fun x hx => ?_, fun i x y hx hy => ?_⟩
  · obtain ⟨j, hj, rfl⟩ := List.mem_map.mp hx
    have := List.mem_range.mp hj
    omega
  · unfold ints0 at hx hy
    rw [List.getElem?_map] at hx hy
    obtain ⟨a, ha, rfl⟩ := Option.map_eq_some_iff.mp hx
    obtain ⟨b, hb, rfl⟩ := Option.map_eq_some_iff.mp hy
    have h1 := (List.getElem?_eq_some_iff.mp ha)
    have h2 := (List.getElem?_eq_some_iff.mp hb)
    obtain ⟨q1, r1⟩ := h1
    obtain ⟨q2, r2⟩ := h2
    rw [List.getElem_range] at r1 r2
    omega
theorem ints0_len (n : Nat) : (ints0 n).length = n := by unfold ints0; rw [List.length_map, List.length_range]
end K26

end PartX0

section PartX1
set_option maxRecDepth 100000
set_option maxHeartbeats 4000000
/-! X1: _law_right. -/
namespace K26
open PySem PySem.Spec PyProof.Rows L2 L2H SlX
variable {P : Program} {w : World} {K : PySem.W.Frag} {mg : Str → Option Value} {base : Heap} {f fI C CT : Addr} {fd fdI : FuncData}
theorem rgV0 (n : Nat) : rgV 0 (n : Int) = (ints0 n).map V.int := by
  unfold rgV ints0
  rw [List.map_map, Int.sub_zero, Int.toNat_natCast]
  refine List.map_congr_left fun i _ => ?_
  show V.int (0 + (i : Int)) = V.int (i : Int)
  rw [Int.zero_add]
def spRight : Sp0 := fun vs H Q => ∃ (D : Addr), vs = [.ref D] ∧ DiceAt H D ∧ ∀ H', Ev (some D) H H' → Q (.bl true) H'
abbrev nRi : List Str := ["_law_dice_here", "_law_told", "_law_machine", "_law_turn", "_law_later", "_law_after", "_law_lot", "_law_door", "_law_index"]
theorem scRi : FnScope nRi ["_law_dice_here"] (defScope sRight) := ⟨rfl, rfl, rfl, by decide +kernel, rfl, by decide +kernel, by decide +kernel⟩
theorem ok_right (F : Fun K "_law_right" "_law_right" sRight f fd) (G : Gs mg) (T : MTxt K mg C) (M : Mk K C fI) (FI : FnU P w K mg base 8 fI fdI ["self", "clocks", "limits", "doors"] (spInit K C)) (bI : Binds K fdI ["self", "clocks", "limits", "doors"] [])
    (pd : PropF P w K mg base C "doors" (spPd K C)) (E : EqF P w K mg base C) (dR : DefC P w K mg base 1 "_law_roll" ["_law_dice_here", "_law_most"] spRoll) (dMM : DefC P w K mg base 5 "_law_mm_drawn" ["_law_dice_here"] (spDrawn K 8)) (dD : DefC P w K mg base 3 "_law_ma_door" ["_law_dice_here", "_law_clocks", "_law_rooms"] (spMaDoor K))
    (dI : DefC P w K mg base 10 "_law_is" ["_law_machine", "_law_told"] (spIs K C)) (dC : DefC P w K mg base 12 "_law_changed" ["_law_dice_here", "_law_machine", "_law_told"] (spChanged K C)) (dLo : DefC P w K mg base 4 "loose_round" ["machine"] (spLoose K C))
    (dW : DefN P w K mg base 10 "with_door" ["machine", "door"] (spWithDoor K C CT)) (dO : DefU P w K mg base 11 "without_doors" ["machine", "lot"] (spWithout K C)) : FnOk P w K mg base CX0 13 f fd ["_law_dice_here"] (toSp spRight) := by
  refine okC F scRi (fun vs H Q h => by obtain ⟨D, rfl, _⟩ := h; rfl) fun cd A outer s H vs Q hr h => ?_
  obtain ⟨D, rfl, hD, q⟩ := h
  have u : U (cxU true [] P w K mg base nRi "_law_right" (defScope sRight) f cd A outer s H) := .inl rfl
  have hr1 := hr.mono (show 1 ≤ 12 by decide)
  have hr2 := hr.mono (show 2 ≤ 12 by decide)
  have hr3 := hr.mono (show 3 ≤ 12 by decide)
  have hr4 := hr.mono (show 4 ≤ 12 by decide)
  have hr5 := hr.mono (show 5 ≤ 12 by decide)
  have hr9 := hr.mono (show 9 ≤ 12 by decide)
  have hr10 := hr.mono (show 10 ≤ 12 by decide)
  have hr11 := rhR (hr.mono (show 11 ≤ 12 by decide))
  refine ⟨_, pss_cons (ps_set (i := 1) scRi.nd rfl (Or.inl rfl) (pe_callC dMM hr5 (pa_cons (pv 0) pa_nil)))
    (pss_cons (ps_set (i := 2) scRi.nd rfl (Or.inl rfl) (pe_wr (pe_makeU u M FI (rhR hr9) T.mgC bI (pa_cons (pe_ix iTup (pv 1) pe_int (fun _ _ => rfl)) (pa_cons (pe_ix iTup (pv 1) pe_int (fun _ _ => rfl)) (pa_cons (pe_ix iTup (pv 1) pe_int (fun _ _ => rfl)) pa_nil))))))
    (pss_cons (ps_for PassesOwn.never rfl (pi_range1 (by rfl) G.range (pa_cons pe_int pa_nil)) (pg_name (i := 3) scRi.nd rfl (Or.inl rfl))
      (pss_cons (ps_asg (pe_callC dC hr (pa_cons (pv 0) (pa_cons (pv 2) (pa_cons (pv 1) pa_nil)))) (pg_pairU u (pg_name (i := 4) scRi.nd rfl (Or.inl rfl)) (pg_name (i := 5) scRi.nd rfl (Or.inl rfl))))
      (pss_cons (ps_if (PW.pt (pw_or (pt_not (pt_val (pe_callC dI hr10 (pa_cons (pv 2) (pa_cons (pv 1) pa_nil))))) (pw_or1 (pt_not (pt_val (pe_callC dI hr10 (pa_cons (pv 4) (pa_cons (pv 5) pa_nil)))))))) pss_never pss_nil)
      (pss_one (ps_par (i := 2) (j := 1) rfl scRi.nd rfl rfl (by decide) rfl rfl (pa_cons (pv 4) (pa_cons (pv 5) pa_nil)) (by rfl))))))
    (pss_cons (ps_for PassesOwn.never rfl (pi_range1 (by rfl) G.range (pa_cons pe_int pa_nil)) (pg_name (i := 3) scRi.nd rfl (Or.inl rfl))
      (pss_cons (ps_set (i := 6) scRi.nd rfl (Or.inl rfl) (pe_callTy call_tuple_of (by rfl) G.tuple boot_tuple (pa_cons (pe_lc (own := [("_law_index", 8)]) (g := gName 8) rfl scRi.nd (pi_range1 (by rfl) G.range (pa_cons (pe_callB cLen (by rfl) G.len PySem.boot_len (pa_cons (pe_ix iTup (pv 1) pe_int (fun _ _ => rfl)) pa_nil)) pa_nil)) (blkOk_by (N := nRi) (sc := defScope sRight) (by decide +kernel))
          (fun _ _ _ _ _ => pg_name (i := 8) scRi.nd rfl (Or.inl rfl)) (fun _ _ _ _ _ => pts_one (pt_cmpR oEq (pe_callC dR hr1 (pa_cons (pv 0) (pa_cons pe_int pa_nil))) pe_int (nomark _))) (fun _ _ _ _ _ => pv 8)) pa_nil)))
      (pss_one (ps_if (PW.pt (pw_and (pt_cmp (pc_isN (pe_callC dLo hr4 (pa_cons (pv 2) pa_nil))) rfl) (pw_and1 (pt_cmp (pc_notN (pe_callC dLo hr4 (pa_cons (pe_callU u dO hr11 (pa_cons (pv 2) (pa_cons (pv 6) pa_nil))) pa_nil))) rfl)))) pss_never pss_nil))))
    (pss_cons (ps_if (PW.pt (pw_or (pt_cmpR (oMNe T E hr2) (pe_callU u dO hr11 (pa_cons (pv 2) (pa_cons (pe_tup pa_nil) pa_nil))) (pv 2) (nomark _))
        (pw_or1 (pt_cmpR oNe (pe_callB cLen (by rfl) G.len PySem.boot_len (pa_cons (pe_prop T pd hr2 (pe_callU u dO hr11 (pa_cons (pv 2) (pa_cons (pe_tupRg rfl (by rfl) G.tuple (prg_1 (by rfl) G.range (pe_callB cLen (by rfl) G.len PySem.boot_len (pa_cons (pe_ix iTup (pv 1) pe_int (fun _ _ => rfl)) pa_nil)))) pa_nil)))) pa_nil)) pe_int (nomark _))))) pss_never pss_nil)
    (pss_cons (ps_if (pt_cmpR oEq (pe_callB cLen (by rfl) G.len PySem.boot_len (pa_cons (pe_ix iTup (pv 1) pe_int (fun _ _ => rfl)) pa_nil)) pe_int (nomark _)) (pss_one (ps_ret pe_bl)) pss_nil)
    (pss_cons (ps_set (i := 7) scRi.nd rfl (Or.inl rfl) (pe_callC dD hr3 (pa_cons (pv 0) (pa_cons (pe_ix iTup (pv 1) pe_int (fun _ _ => rfl)) (pa_cons (pe_callB cLen (by rfl) G.len PySem.boot_len (pa_cons (pe_ix iTup (pv 1) pe_int (fun _ _ => rfl)) pa_nil)) pa_nil)))))
    (pss_one (ps_ret (pe_cmpR (oMEq u E (rh hr11 (by decide))) (pe_callU u dO hr11 (pa_cons (pe_callN dW hr10 (pa_cons (pv 2) (pa_cons (pv 7) pa_nil))) (pa_cons (pe_tup (pa_cons (pe_callB cLen (by rfl) G.len PySem.boot_len (pa_cons (pe_ix iTup (pv 1) pe_int (fun _ _ => rfl)) pa_nil)) pa_nil)) pa_nil))) (pv 2) (nomark _)))))))))), ?_⟩
  refine ⟨_, rfl, D, rfl, hD, fun vt m0 H1 e1 hvt hm0 hn0 => ?_⟩
  refine make_ix rfl hvt hm0 e1.b fun a0 H2 e2 M2 => ?_
  refine ⟨_, rfl, by decide, by decide, ?_⟩
  refine for_it (walk_range (lo := 0) (n := Int.toNat 8)) (fun i σ H' => ∃ (s3 s4 s5 : Option V) (v : V) (a : Addr) (m : Mc), σ = [some (.ref D), some v, some (.ref a), s3, s4, s5, none, none, none] ∧ Ev (some D) H H' ∧ At K H' v (pM m) ∧ MAt K C H' a m ∧ VM m)
    ⟨none, none, none, vt, a0, m0, rfl, e1.trans e2, hvt.ev e2, M2, hm0⟩ (fun _ _ _ _ _ => trivial) ?_ ?_
  · rintro i x σ H3x H3 hi ⟨s3, s4, s5, v, a, m, rfl, e3, hv, ha, hm⟩ ⟨rfl, rfl⟩
    refine ⟨_, rfl, _, rfl, _, rfl, D, a, m, v, rfl, e3.b.at_, ha, hm, hv, fun p a' v' m' H4 e4 hp ha' hv' hm' => rd_pair hp ?_⟩
    refine ⟨_, rfl, _, rfl, a, m, v, rfl, ha.ev e4, hv.ev e4, hm, fun H5 e5 => ⟨true, rfl, iteF ⟨_, rfl, _, rfl, a', m', v', rfl, ha'.ev e5, hv'.ev e5, hm', fun H6 e6 => ⟨true, rfl, iteF ?_⟩⟩⟩⟩
    have e36 := e4.trans ((e5.trans e6).lift e4.b)
    exact ⟨_, rfl, _, rfl, _, _, rfl, ⟨_, _, _, v', a', m', rfl, e3.trans e36, (hv'.ev e5).ev e6, (ha'.ev e5).ev e6, hm'⟩⟩
  · rintro σ H3 ⟨s3, s4, s5, v, a, m, rfl, e3, hv, ha, hm⟩
    have hn := hm.n
    refine ⟨_, rfl, by decide, by decide, ?_⟩
    refine for_it (walk_range (lo := 0) (n := Int.toNat 3)) (fun i σ H' => ∃ (s3 s6 : Option V), σ = [some (.ref D), some v, some (.ref a), s3, s4, s5, s6, none, none] ∧ Ev (some D) H H' ∧ At K H' v (pM m) ∧ MAt K C H' a m)
      ⟨s3, none, rfl, e3, hv, ha⟩ (fun _ _ _ _ _ => trivial) ?_ ?_
    · rintro i x σ H4x H4 hi ⟨s3, s6, rfl, e4, hv, ha⟩ ⟨rfl, rfl⟩
      refine ⟨_, rfl, ix_at 2 hv rfl rfl fun xd hxd => len_tup hxd ⟨_, rfl, by omega, by rw [List.length_map]; omega, fun L hLn => lot_run K hLn e4.b.at_ (by rw [List.length_map]; omega) (fun i x Hx kt kf hi ev hx k1 k2 => ⟨rfl, _, rfl, D, 2, rfl, ev.b.at_, by decide, by decide, fun k H3 e3 h0 h1 => eq_rd2 (fun z => ⟨true, rfl, iteT ⟨_, rfl, k1 _ e3⟩⟩) fun z => ⟨false, rfl, iteF (k2 _ e3)⟩⟩) fun ns H5 hl e5 hasc => ?_⟩⟩
      have eN : (((m.ds.map pD).length : Nat) : Int).toNat = m.ds.length := by rw [List.length_map]; exact Int.toNat_natCast _
      rw [eN] at hasc
      refine ⟨L, _, rfl, .inl ⟨.of hl, fun p3 hp3 => ?_⟩⟩
      have e6 := e5.then_new (u := .tup (ns.map V.int)) hp3
      have hlot : At K (upd H5 p3 (.tup (ns.map V.int))) (.ref p3) (pI ns) := .new hp3 (.ints ns)
      generalize upd H5 p3 (.tup (ns.map V.int)) = H6 at e6 hlot ⊢
      refine ⟨_, rfl, a, m, rfl, ha.ev e6, hm, fun r1 H7 e7 hr1' => ⟨_, rfl, ?_⟩⟩
      have e67 := e6.trans (e7.lift e6.b)
      by_cases hz : r1 = .non
      · rw [decide_eq_true hz]
        have ht := hr1'.mp hz
        refine iteT ⟨_, rfl, _, rfl, a, _, m, ns, rfl, ha.ev e67, hm, hlot.ev e7, hasc, hasc.short (by omega), fun x8 H8 e8 M8 => ⟨x8, _, rfl, M8, hm.kept ns, fun r2 H9 e9 hr2' => ⟨_, rfl, ?_⟩⟩⟩
        rw [hr2'.mpr (ht.kept ns)]
        have e69 := e67.trans ((e8.trans e9).lift e67.b)
        exact iteF ⟨_, _, rfl, e4.trans e69, hv.ev e69, ha.ev e69⟩
      · rw [decide_eq_false hz]
        exact iteF (iteF ⟨_, _, rfl, e4.trans e67, hv.ev e67, ha.ev e67⟩)
    · rintro σ H4 ⟨s3, s6, rfl, e4, hv, ha⟩
      refine ⟨_, rfl, sz (Nat.zero_le _), fun p1 hp1 => ?_⟩
      have e5 := e4.then_new (u := .tup []) hp1
      have h5 : At K (upd H4 p1 (.tup [])) (.ref p1) (pI []) := .new hp1 .nil
      have ha5 := ha.ev (Ev.new (u := .tup []) e4.b hp1)
      have hv5 := hv.ev (Ev.new (u := .tup []) e4.b hp1)
      generalize upd H4 p1 (.tup []) = H5 at e5 h5 ha5 hv5 ⊢
      refine ⟨a, _, m, [], rfl, ha5, hm, h5, .nil _, Nat.zero_le _, fun x6 H6 e6 M6 => ?_⟩
      have em : ({ m with ds := keptN [] m.ds } : Mc) = m := by rw [keptN_none (fun j _ => rfl)]
      rw [em] at M6
      refine ⟨_, rfl, mne_rd T M6 (ha5.ev e6) fun H7 e7 => ⟨false, rfl, iteF ?_⟩⟩
      have ev57 := e6.trans e7
      have hv7 := hv5.ev ev57
      refine ⟨_, rfl, _, rfl, ix_at 2 hv7 rfl rfl fun xd hxd => len_tup hxd ⟨_, rfl, ⟨by decide, by decide, by omega, by rw [List.length_map]; omega, by rw [List.length_map]; omega⟩, fun p8 hp8 => ?_⟩⟩
      have e8 := Ev.new (u := .tup (rgV 0 (((m.ds.map pD).length : Nat) : Int))) (Ok.nil (H := H7)) hp8
      have h8 : At K (upd H7 p8 (.tup (rgV 0 (((m.ds.map pD).length : Nat) : Int)))) (.ref p8) (pI (ints0 m.ds.length)) := .new hp8 (by rw [rgV0, List.length_map]; exact .ints _)
      generalize upd H7 p8 (.tup (rgV 0 (((m.ds.map pD).length : Nat) : Int))) = H8 at e8 h8 ⊢
      have ev58 := ev57.trans e8
      refine ⟨a, _, m, ints0 m.ds.length, rfl, ha5.ev ev58, hm, h8, ints0_asc _, by rw [ints0_len]; omega, fun x9 H9 e9 M9 => ?_⟩
      obtain ⟨dx, wL, wD, q1, _⟩ := id M9
      refine ⟨x9, dx, _, rfl, q1, x9, _, rfl, M9, fun vd hvd => len_tup hvd (ne_rdF ?_ ⟨false, rfl, iteF ?_⟩)⟩
      · rw [List.length_map]
        show ((keptN (ints0 m.ds.length) m.ds).length : Int) = 0
        rw [keptN_all fun j hj => ints0_mem hj]
        rfl
      have ev59 := ev58.trans e9
      have hv9 := hv5.ev ev59
      have ha9 := ha5.ev ev59
      have e9' := e5.trans (ev59.lift e5.b)
      refine ⟨_, rfl, ix_at 2 hv9 rfl rfl fun xd2 hxd2 => len_tup hxd2 (eq_rd2 (fun z => ⟨true, rfl, iteT (q _ e9')⟩) fun z => ⟨false, rfl, iteF ?_⟩)⟩
      rw [List.length_map] at z
      refine ⟨_, rfl, _, rfl, ix_at 0 hv9 rfl rfl fun xc hxc => ?_⟩
      cases hxc.int_inv
      refine ⟨_, rfl, ix_at 1 hv9 rfl rfl fun xl hxl => len_tup hxl ⟨D, m.c, _, rfl, e9'.b.at_, hm.c, (by rw [List.length_map]; have := hm.r; omega), fun dv d H10 e10 hdv hd => ?_⟩⟩
      rw [List.length_map] at hd
      have e10' := e9'.trans e10
      refine ⟨_, rfl, _, rfl, a, dv, m, d, rfl, ha9.ev e10, hm, hdv, hd, fun hlt x11 H11 e11 M11 => ?_, fun zz => absurd zz (by omega)⟩
      have hv11 := (hv9.ev e10).ev e11
      refine ⟨_, rfl, ix_at 2 hv11 rfl rfl fun xd3 hxd3 => len_tup hxd3 ⟨sz (Nat.le_of_ble_eq_true rfl), fun p12 hp12 => ?_⟩⟩
      have e12 := Ev.new (u := .tup [.int (((m.ds.map pD).length : Nat) : Int)]) (Ok.nil (H := H11)) hp12
      have h12 : At K (upd H11 p12 (.tup [.int (((m.ds.map pD).length : Nat) : Int)])) (.ref p12) (pI [(m.ds.length : Int)]) := .new hp12 (by rw [List.length_map]; exact .one (.int _))
      generalize upd H11 p12 (.tup [.int (((m.ds.map pD).length : Nat) : Int)]) = H12 at e12 h12 ⊢
      refine ⟨x11, _, { m with ds := m.ds ++ [d] }, [(m.ds.length : Int)], rfl, M11.ev e12, hm.more hd hlt, h12, .one ⟨by omega, ?_⟩, Nat.le_of_ble_eq_true rfl, fun x13 H13 e13 M13 => ?_⟩
      · show (m.ds.length : Int) ≤ ((m.ds ++ [d]).length : Nat) - 1
        rw [List.length_append, List.length_singleton]
        omega
      have em2 : ({ m with ds := keptN [(m.ds.length : Int)] (m.ds ++ [d]) } : Mc) = m := by rw [keptN_last]
      have M13' : MAt K C H13 x13 { m with ds := keptN [(m.ds.length : Int)] (m.ds ++ [d]) } := M13
      rw [em2] at M13'
      have ev1113 := (e11.trans e12).trans e13
      exact ⟨_, rfl, meq_rd T M13' ((ha9.ev e10).ev ev1113) fun H14 e14 => q _ (e10'.trans ((ev1113.trans e14).lift e10'.b))⟩
end K26

end PartX1

section PartX2
set_option maxRecDepth 100000
set_option maxHeartbeats 4000000
/-! X2: the law. -/
namespace K26
open PySem PySem.Spec PyProof.Rows L2 L2H SlX
variable {P : Program} {w : World} {K : PySem.W.Frag} {mg : Str → Option Value} {base : Heap} {f fI fT C CT : Addr} {fd fdI : FuncData}
theorem sql_keep {H H1 H2 : Hp} {D a : Addr} {xs : List V} (h : SqL K H a xs) (hD : H D = none) (e1 : Ev none H H1) (e2 : Ev (some D) H1 H2) : SqL K H2 a xs := by
  rcases h with (h | ⟨w, h⟩) | h
  · exact .inl (.inl (e2.k _ _ (e1.k _ _ h (fun z => nomatch z)) (fun z => by
      rw [Option.some.inj z, h] at hD
      cases hD)))
  · exact .inl (.inr ⟨w, e2.at_ (e1.at_ h (fun _ z => nomatch z)) (fun _ z => nomatch z)⟩)
  · exact .inr h
theorem sql_ev {H H' : Hp} {a : Addr} {xs : List V} (h : SqL K H a xs) (e : Ev none H H') : SqL K H' a xs := by
  rcases h with (h | ⟨w, h⟩) | h
  · exact .inl (.inl (e.k _ _ h (fun z => nomatch z)))
  · exact .inl (.inr ⟨w, e.at_ h (fun _ z => nomatch z)⟩)
  · exact .inr h
theorem make_w {t : TA} {m : Mc} {o : Option Addr} {σ : L2.St} {H : Hp} {Q : VK} (hm : VM m) (ht : ∀ k : List V → Hp → Prop, (∀ vL vD H', Ev o H H' → At K H' vL (pL m.ls) → At K H' vD (pDs m.ds) → k [.int m.c, vL, vD] H') → t σ H k)
    (q : ∀ x H', Ev o H H' → MAt K C H' x m → Q (.ref x) H') : WrE (tMakeU C (spInit K C) t) σ H Q :=
  ⟨ht _ fun vL vD H1 e1 hL hD => make_rd (m := m) (Q := Q) e1.b hL hD hm fun x H' e' M => q x H' (e1.trans e') M⟩
theorem takesN {X : Cx} : L2N.Takes X (fun _ _ _ _ => False) := fun _ _ x => by
  obtain ⟨_, _, _, _, _, _, _, _, _, _, _, _, _, _, _, _, z⟩ := x
  exact z.elim
def dr0 : Dr := ⟨0, [(1, 2)], [0], 0⟩
theorem vd0 : VD 1 1 dr0 := ⟨⟨by decide, by decide⟩, rfl, fun g hg => by
  have : g = (1, 2) := by simpa [dr0] using hg
  subst this
  exact ⟨by decide, by decide, by decide⟩, .one ⟨by decide, by decide⟩, ⟨by decide, by decide⟩⟩
def mk0 (n : Nat) : Mc := ⟨1, [[4]], List.replicate n dr0⟩
theorem vm0 {n : Nat} (h : n ≤ 12) : VM (mk0 n) := ⟨⟨by show (1 : Int) ≤ 1; decide, by show (1 : Int) ≤ 3; decide⟩, ⟨Nat.le_of_ble_eq_true rfl, Nat.le_of_ble_eq_true rfl⟩, fun l hl => by
  have : l = [4] := by simpa [mk0] using hl
  subst this
  exact ⟨rfl, fun n hn => by
    have : n = 4 := by simpa using hn
    subst this
    exact ⟨by decide, by decide⟩⟩, by show (List.replicate n dr0).length ≤ 12; rw [List.length_replicate]; exact h, fun d hd => by
  have : d = dr0 := List.eq_of_mem_replicate hd
  subst this
  exact vd0⟩
theorem kept0 : keptN [0, 11] (List.replicate 12 dr0) = List.replicate 10 dr0 := rfl

/-- what is asked of TooMany where it is caught -/
structure TmX (K : PySem.W.Frag) (mg : Str → Option Value) (CT : Addr) : Prop where
  g : mg "TooMany" = some (.ref CT)
  te : PySem.W.exmOne K (.ref CT) (.ref CT) = some true
  xf : XfC K CT
  no : PySem.W.findIn K (.ref CT) "limit" = some none
def spLaw (K : PySem.W.Frag) : Sp0 := fun vs H Q => ∃ (a : Addr) (ns : List Int), vs = [.ref a] ∧ SqL K H a (ns.map V.int) ∧ ns.length ≤ 63 ∧ ∀ H', Q (.bl true) H'
abbrev nLaw : List Str := ["_law_script", "_law_spot", "_law_dice_here", "_law_turn", "_law_machine", "_law_door", "error"]
theorem scLaw : FnScope nLaw ["_law_script"] (defScope sLaw) := ⟨rfl, rfl, rfl, by decide +kernel, rfl, by decide +kernel, by decide +kernel⟩
theorem ok_law (F : Fun K "law" "law" sLaw f fd) (G : Gs mg) (T : MTxt K mg C) (M : Mk K C fI) (FI : FnU P w K mg base 8 fI fdI ["self", "clocks", "limits", "doors"] (spInit K C)) (bI : Binds K fdI ["self", "clocks", "limits", "doors"] [])
    (E : EqF P w K mg base C) (X : TmX K mg CT) (dDi : DefC P w K mg base 1 "_law_dice" ["_law_script", "_law_spot"] (spDice K)) (dRi : DefC P w K mg base 13 "_law_right" ["_law_dice_here"] spRight)
    (dW : DefN P w K mg base 10 "with_door" ["machine", "door"] (spWithDoor K C CT)) (dO : DefU P w K mg base 11 "without_doors" ["machine", "lot"] (spWithout K C)) : FnOk P w K mg base CX0 14 f fd ["_law_script"] (toSp (spLaw K)) := by
  refine okC F scLaw (fun vs H Q h => by obtain ⟨a, ns, rfl, _⟩ := h; rfl) fun cd A outer s H vs Q hr h => ?_
  obtain ⟨a, ns, rfl, hS, hlen, q⟩ := h
  have u : U (cxU true [] P w K mg base nLaw "law" (defScope sLaw) f cd A outer s H) := .inl rfl
  have hr1 := hr.mono (show 1 ≤ 13 by decide)
  have hr9 := hr.mono (show 9 ≤ 13 by decide)
  have hr10 := hr.mono (show 10 ≤ 13 by decide)
  have hh : RoomH 13 ((cxU true [] P w K mg base nLaw "law" (defScope sLaw) f cd A outer s H).A) := rhR hr
  obtain ⟨fW, fdW, FW, hmW, hkW, hbW⟩ := dW.ex
  refine ⟨_, pss_cons (ps_for PassesOwn.never rfl (pi_range1 (by rfl) G.range (pa_cons (pe_callB (call_max2 rfl) (by rfl) G.max boot_max (pa_cons pe_int (pa_cons (pe_callB (call_min2 rfl) (by rfl) G.min boot_min (pa_cons pe_int (pa_cons (pe_callB cLen (by rfl) G.len PySem.boot_len (pa_cons (pv 0) pa_nil)) pa_nil))) pa_nil))) pa_nil)) (pg_name (i := 1) scLaw.nd rfl (Or.inl rfl))
      (pss_cons (ps_set (i := 2) scLaw.nd rfl (Or.inl rfl) (pe_callC dDi hr1 (pa_cons (pv 0) (pa_cons (pv 1) pa_nil))))
      (pss_one (ps_for PassesOwn.never rfl (pi_range1 (by rfl) G.range (pa_cons pe_int pa_nil)) (pg_name (i := 3) scLaw.nd rfl (Or.inl rfl))
        (pss_one (ps_if (pt_not (pt_val (pe_callC dRi hr (pa_cons (pv 2) pa_nil)))) pss_never pss_nil))))))
    (pss_cons (ps_par (i := 4) (j := 5) rfl scLaw.nd rfl rfl (by decide) rfl rfl (pa_cons (pe_wr (pe_makeU u M FI (rhR hr9) T.mgC bI (pa_cons pe_int (pa_cons (pe_tup (pa_cons (pe_tup (pa_cons pe_int pa_nil)) pa_nil)) (pa_cons (pe_tup pa_nil) pa_nil)))))
        (pa_cons (pe_wr (pe_tup (pa_cons pe_int (pa_cons (pe_tup (pa_cons (pe_tup (pa_cons pe_int (pa_cons pe_int pa_nil))) pa_nil)) (pa_cons (pe_tup (pa_cons pe_int pa_nil)) (pa_cons pe_int pa_nil)))))) pa_nil)) (by rfl))
    (pss_cons (ps_for PassesOwn.never rfl (pi_range1 (by rfl) G.range (pa_cons pe_int pa_nil)) (pg_name (i := 3) scLaw.nd rfl (Or.inl rfl)) (pss_one (ps_set (i := 4) scLaw.nd rfl (Or.inl rfl) (pe_callN dW hr10 (pa_cons (pv 4) (pa_cons (pv 5) pa_nil))))))
    (pss_cons (L2N.ps_try_as (i := 6) rfl rfl scLaw.nd rfl rfl ⟨rfl, by decide, .inl X.g⟩ takesN
        (fun W pn xe tk _ => pss_one (ps_expr (pe_callS FW hr10 rfl hmW hkW hbW (fun σ => L2N.passAt tk σ) (pa_cons (pv 4) (pa_cons (pv 5) pa_nil)))))
        (fun a oe cls d pn hz hf => by
          have uS : U ((cxU true [] P w K mg base nLaw "law" (defScope sLaw) f cd A outer s H).suite a ((a, oe) :: pn)) := .inr ⟨(a, oe), ⟨rfl, by obtain ⟨vs, hd⟩ := hf; exact ⟨vs, hd, hz.2.2 vs hd⟩⟩, List.mem_cons_self⟩
          have hS : RoomH 13 ((cxU true [] P w K mg base nLaw "law" (defScope sLaw) f cd A outer s H).suite a ((a, oe) :: pn)).A := ⟨hh.dp, hh.un⟩
          exact pss_one (ps_ret (pe_and (pe_cmpR oEq (pe_xf X.xf X.no hz.zc hf (pv 6)) pe_int (nomark _)) (pe_one (pe_cmpR (r := Wr2 (rOwnU K C (spEq K C))) (oMEq uS E (rh hS (by decide))) (pe_callU uS dO (rh hS (by decide)) (pa_cons (pv 4) (pa_cons (pe_tup (pa_cons pe_int (pa_cons pe_int pa_nil))) pa_nil)))
            (pe_wr (pe_makeU uS M FI (rh hS (by decide)) T.mgC bI (pa_cons pe_int (pa_cons (pe_tup (pa_cons (pe_tup (pa_cons pe_int pa_nil)) pa_nil)) (pa_cons (pe_op (r := rRepT K) op_repT (pe_tup (pa_cons (pv 5) pa_nil)) pe_int) pa_nil))))) (nomark _)))))))
    (pss_one (ps_ret pe_bl))))), ?_⟩
  refine ⟨_, rfl, len_lst hS ⟨_, _, rfl, _, _, rfl, _, rfl, ?_, ?_, ?_⟩⟩
  · (repeat' split) <;> omega
  · rw [List.length_map]
    (repeat' split) <;> omega
  refine for_it (walk_range (lo := 0)) (fun i σ H' => ∃ (s1 s2 s3 : Option V), σ = [some (.ref a), s1, s2, s3, none, none, none] ∧ SqL K H' a (ns.map V.int)) ⟨none, none, none, rfl, hS⟩ (fun _ _ _ _ _ => trivial) ?_ ?_
  · rintro i x σ H1x H1 hi ⟨s1, s2, s3, rfl, hS1⟩ ⟨rfl, rfl⟩
    refine ⟨_, rfl, _, rfl, a, ns, i, (by show [V.ref a, V.int (0 + (i : Int))] = [V.ref a, V.int i]; rw [Int.zero_add]), hS1, fun D H2 e2 hD0 hD => ?_⟩
    refine ⟨_, rfl, by decide, by decide, for_it (walk_range (lo := 0) (n := Int.toNat 4)) (fun j σ H' => ∃ (s3 : Option V), σ = [some (.ref a), some (.int (0 + i)), some (.ref D), s3, none, none, none] ∧ Ev (some D) H2 H') ⟨s3, rfl, .refl (okD hD)⟩ (fun _ _ _ _ _ => trivial) ?_ ?_⟩
    · rintro j x σ H3x H3 hj ⟨s3, rfl, e3⟩ ⟨rfl, rfl⟩
      exact ⟨_, rfl, D, rfl, e3.b.at_, fun H4 e4 => ⟨true, rfl, iteF ⟨_, rfl, e3.trans e4⟩⟩⟩
    · rintro σ H3 ⟨s3, rfl, e3⟩
      exact ⟨_, _, _, rfl, sql_keep hS1 hD0 e2 e3⟩
  · rintro σ H1 ⟨s1, s2, s3, rfl, hS1⟩
    refine make_w (m := mk0 0) (o := none) (vm0 (Nat.zero_le _)) (fun k hk => ⟨sz (Nat.le_of_ble_eq_true rfl), fun p hp => ⟨sz (Nat.le_of_ble_eq_true rfl), fun p2 hp2 => ⟨sz (Nat.zero_le _), fun p3 hp3 => ?_⟩⟩⟩) fun a1 H2 e2 M2 => ?_
    · exact hk _ _ _ (((Ev.new .nil hp).then_new hp2).then_new hp3) ((At.new (ds := [pI [4]]) hp2 (.one (.new hp (.one (.int 4))))).ev (Ev.new .nil hp3)) (.new hp3 .nil)
    refine lay_w (K := K) (d := pD dr0) (lay_tup (lay_cons (lay_int 0) (lay_cons (lay_tup (lay_cons lay_two lay_nil) (Nat.le_of_ble_eq_true rfl)) (lay_cons (lay_tup (lay_cons (lay_int 0) lay_nil) (Nat.le_of_ble_eq_true rfl)) (lay_cons (lay_int 0) lay_nil)))) (Nat.le_of_ble_eq_true rfl)) fun dv H3 e3 hdv => ⟨_, _, rfl, ?_⟩
    refine ⟨_, rfl, by decide, by decide, for_it (walk_range (lo := 0) (n := Int.toNat 12)) (fun i σ H' => ∃ (s1 s2 s3 : Option V) (b : Addr), σ = [some (.ref a), s1, s2, s3, some (.ref b), some dv, none] ∧ At K H' dv (pD dr0) ∧ MAt K C H' b (mk0 i)) ⟨_, _, _, a1, rfl, hdv, M2.ev e3⟩ (fun _ _ _ _ _ => trivial) ?_ ?_⟩
    · rintro i x σ H4x H4 hi ⟨s1, s2, s3, b, rfl, hdv, hb⟩ ⟨rfl, rfl⟩
      have hi12 : i < 12 := hi
      have el : (mk0 i).ds.length = i := List.length_replicate
      refine ⟨_, rfl, _, rfl, b, dv, mk0 i, dr0, rfl, hb, vm0 (by omega), hdv, vd0, fun _ x H5 e5 M5 => ?_, fun z => absurd z (by omega)⟩
      have em : ({ mk0 i with ds := (mk0 i).ds ++ [dr0] } : Mc) = mk0 (i + 1) := by
        show (⟨1, [[4]], List.replicate i dr0 ++ [dr0]⟩ : Mc) = ⟨1, [[4]], List.replicate (i + 1) dr0⟩
        rw [List.replicate_succ']
      rw [em] at M5
      exact ⟨_, _, _, x, rfl, hdv.ev e5, M5⟩
    · rintro σ H4 ⟨s1, s2, s3, b, rfl, hdv, hb⟩
      have el : (mk0 12).ds.length = 12 := List.length_replicate
      refine ⟨_, rfl, _, rfl, b, dv, mk0 12, dr0, rfl, hb, vm0 (Nat.le_refl _), hdv, vd0, fun z => absurd z (by omega), fun _ dd H5 e5 hdd => ⟨true, X.te, fun _ a' ha' => ?_, fun z => nomatch z⟩⟩
      refine ⟨_, rfl, rfl, rfl, dd, _, .int 12, rfl, hdd, by simp [List.lookup], eq_rdT rfl ⟨true, rfl, iteT ?_⟩⟩
      refine ⟨_, rfl, sz (Nat.le_of_ble_eq_true rfl), fun p6 hp6 => ?_⟩
      have e6 := e5.then_new (u := .tup [.int 0, .int 11]) hp6
      have h6 : At K (upd H5 p6 (.tup [.int 0, .int 11])) (.ref p6) (pI [0, 11]) := .new hp6 (.cons (.int _) (.one (.int _)))
      generalize upd H5 p6 (.tup [.int 0, .int 11]) = H6 at e6 h6 ⊢
      refine ⟨b, _, mk0 12, [0, 11], rfl, hb.ev e6, vm0 (Nat.le_refl _), h6, ⟨fun n hn => ?_, fun i x y hx hy => ?_⟩, Nat.le_of_ble_eq_true rfl, fun x7 H7 e7 M7 => ?_⟩
      · rw [el]
        have hn' : n = 0 ∨ n = 11 := by simpa using hn
        omega
      · match i, hx, hy with
        | 0, hx, hy =>
          cases (show some (0 : Int) = some x from hx)
          cases (show some (11 : Int) = some y from hy)
          decide
        | i + 1, hx, hy => simp at hy
      have M7' : MAt K C H7 x7 { mk0 12 with ds := keptN [0, 11] (List.replicate 12 dr0) } := M7
      rw [kept0] at M7'
      have e67 := e6.trans e7
      refine make_w (m := mk0 10) (o := none) (vm0 (by decide)) (fun k hk => ⟨sz (Nat.le_of_ble_eq_true rfl), fun p hp => ⟨sz (Nat.le_of_ble_eq_true rfl), fun p2 hp2 => ⟨_, rfl, sz (Nat.le_of_ble_eq_true rfl), fun p3 hp3 => ⟨p3, 10, [dv], rfl, rfl, .of upd_same, (fun z => by cases z), by decide, by decide, Nat.le_of_ble_eq_true rfl, fun p4 hp4 => ?_⟩⟩⟩⟩) fun y8 H8 e8 M8 => meq_rd T (M7'.ev e8) M8 fun H9 e9 => q H9
      have f1 := Ev.new (u := .tup [.int 4]) (Ok.nil (H := H7)) hp
      have f2 := f1.then_new (u := .tup [.ref p]) hp2
      have f3 := f2.then_new (u := .tup [dv]) hp3
      have f34 := Ev.new (u := .tup (List.replicate (Int.toNat 10) [dv]).flatten) f3.b hp4
      refine hk _ _ _ (f3.trans f34) (((At.new (ds := [pI [4]]) hp2 (.one (.new hp (.one (.int 4))))).ev (Ev.new (u := .tup [dv]) f2.b hp3)).ev f34) (.new hp4 ?_)
      have hd3 := (hdv.ev e67).ev f3
      exact AtAll.rep hd3 10
end K26

end PartX2

section PartZ0
set_option maxRecDepth 100000
set_option maxHeartbeats 8000000
/-! Z0: the end. -/
namespace K26
open PySem PySem.W PyProof.Rows L2 L2H SlX
theorem slot_mk {K : Frag} {C p : Addr} {f : Str} {i : Nat} (a : findIn K (.ref C) f = some (some (.ref p))) (g : specialIn K (.ref p) "__get__" = some (some (.builtin "member_descriptor.__get__"))) (t : takesIn K (.ref p) = some true) (y : typeIn K (.ref p) = some (.type "member_descriptor")) (x : slotIn K p C = some i) (lt : i < 1000) : ∃ p, Slot1 K C f p i := ⟨p, a, g, t, y, x, lt⟩
theorem kit_self {K : Frag} {C : Addr} : kitOne K (.ref C) (.ref C) = some true := by
  unfold kitOne
  rw [if_pos (by simp)]
theorem z_top : (PySem.Challenge.rw_anymargin_k26_whole_changed_machines.prog.main.scope.names.lookup ("super" : Str)).isSome = false := by decide +kernel
theorem all_mk {l : OpenLaw} {w : World} {K : Frag} {h : Heap} {mg : Str → Option Value} {fa C CT fT cda cc p0 p1 p2 fI fE q_clocks g_clocks q_limits g_limits q_doors g_doors f_is_whole f_is_from f_require_from f_are_limits f_is_guard f_are_guards f_is_ascending f_is_door_in f_rooms_fault f_doors_fault f_fault_of f_without_in f_require_machine f_require_lot f_without_doors f_keeping_doors f_first_ways f_round_from f_loose_round_of f_loose_round f_require_room f_with_limits f_with_door f__law_dice f__law_roll f__law_pick f__law_ma_base f__law_ma_guard f__law_ma_lot f__law_ma_door f__law_ma_bent_door f__law_ma_drawn f__law_mm_drawn f__law_is f__law_changed f__law_right f_law : Addr} (X : K.In h) (GN : h.Ns mainGlobals mg) (hfa : mg "law" = some (.ref fa))
    {t_MOST_CLOCKS t_MOST_ROOMS t_MOST_DOORS t_MOST_NUMBER t_PAIR t_DOOR_SIZE : Tok}
    {odI anI : Option Addr} {slI : Array (Option Value)} {ocI kVI dcI pmI cdI ctI : Value}
    {odE anE : Option Addr} {slE : Array (Option Value)} {ocE kVE dcE pmE cdE ctE : Value}
    {r_clocks : List Value}
    {odPclocks anPclocks : Option Addr} {slPclocks : Array (Option Value)} {ocPclocks kVPclocks dcPclocks pmPclocks cdPclocks ctPclocks : Value}
    {r_limits : List Value}
    {odPlimits anPlimits : Option Addr} {slPlimits : Array (Option Value)} {ocPlimits kVPlimits dcPlimits pmPlimits cdPlimits ctPlimits : Value}
    {r_doors : List Value}
    {odPdoors anPdoors : Option Addr} {slPdoors : Array (Option Value)} {ocPdoors kVPdoors dcPdoors pmPdoors cdPdoors ctPdoors : Value}
    {od_is_whole an_is_whole : Option Addr} {sl_is_whole : Array (Option Value)} {oc_is_whole kV_is_whole dc_is_whole pm_is_whole cd_is_whole ct_is_whole : Value}
    {od_is_from an_is_from : Option Addr} {sl_is_from : Array (Option Value)} {oc_is_from kV_is_from dc_is_from pm_is_from cd_is_from ct_is_from : Value}
    {od_require_from an_require_from : Option Addr} {sl_require_from : Array (Option Value)} {oc_require_from kV_require_from dc_require_from pm_require_from cd_require_from ct_require_from : Value}
    {od_are_limits an_are_limits : Option Addr} {sl_are_limits : Array (Option Value)} {oc_are_limits kV_are_limits dc_are_limits pm_are_limits cd_are_limits ct_are_limits : Value}
    {od_is_guard an_is_guard : Option Addr} {sl_is_guard : Array (Option Value)} {oc_is_guard kV_is_guard dc_is_guard pm_is_guard cd_is_guard ct_is_guard : Value}
    {od_are_guards an_are_guards : Option Addr} {sl_are_guards : Array (Option Value)} {oc_are_guards kV_are_guards dc_are_guards pm_are_guards cd_are_guards ct_are_guards : Value}
    {od_is_ascending an_is_ascending : Option Addr} {sl_is_ascending : Array (Option Value)} {oc_is_ascending kV_is_ascending dc_is_ascending pm_is_ascending cd_is_ascending ct_is_ascending : Value}
    {od_is_door_in an_is_door_in : Option Addr} {sl_is_door_in : Array (Option Value)} {oc_is_door_in kV_is_door_in dc_is_door_in pm_is_door_in cd_is_door_in ct_is_door_in : Value}
    {od_rooms_fault an_rooms_fault : Option Addr} {sl_rooms_fault : Array (Option Value)} {oc_rooms_fault kV_rooms_fault dc_rooms_fault pm_rooms_fault cd_rooms_fault ct_rooms_fault : Value}
    {od_doors_fault an_doors_fault : Option Addr} {sl_doors_fault : Array (Option Value)} {oc_doors_fault kV_doors_fault dc_doors_fault pm_doors_fault cd_doors_fault ct_doors_fault : Value}
    {od_fault_of an_fault_of : Option Addr} {sl_fault_of : Array (Option Value)} {oc_fault_of kV_fault_of dc_fault_of pm_fault_of cd_fault_of ct_fault_of : Value}
    {od_without_in an_without_in : Option Addr} {sl_without_in : Array (Option Value)} {oc_without_in kV_without_in dc_without_in pm_without_in cd_without_in ct_without_in : Value}
    {od_require_machine an_require_machine : Option Addr} {sl_require_machine : Array (Option Value)} {oc_require_machine kV_require_machine dc_require_machine pm_require_machine cd_require_machine ct_require_machine : Value}
    {od_require_lot an_require_lot : Option Addr} {sl_require_lot : Array (Option Value)} {oc_require_lot kV_require_lot dc_require_lot pm_require_lot cd_require_lot ct_require_lot : Value}
    {od_without_doors an_without_doors : Option Addr} {sl_without_doors : Array (Option Value)} {oc_without_doors kV_without_doors dc_without_doors pm_without_doors cd_without_doors ct_without_doors : Value}
    {od_keeping_doors an_keeping_doors : Option Addr} {sl_keeping_doors : Array (Option Value)} {oc_keeping_doors kV_keeping_doors dc_keeping_doors pm_keeping_doors cd_keeping_doors ct_keeping_doors : Value}
    {od_first_ways an_first_ways : Option Addr} {sl_first_ways : Array (Option Value)} {oc_first_ways kV_first_ways dc_first_ways pm_first_ways cd_first_ways ct_first_ways : Value}
    {od_round_from an_round_from : Option Addr} {sl_round_from : Array (Option Value)} {oc_round_from kV_round_from dc_round_from pm_round_from cd_round_from ct_round_from : Value}
    {od_loose_round_of an_loose_round_of : Option Addr} {sl_loose_round_of : Array (Option Value)} {oc_loose_round_of kV_loose_round_of dc_loose_round_of pm_loose_round_of cd_loose_round_of ct_loose_round_of : Value}
    {od_loose_round an_loose_round : Option Addr} {sl_loose_round : Array (Option Value)} {oc_loose_round kV_loose_round dc_loose_round pm_loose_round cd_loose_round ct_loose_round : Value}
    {od_require_room an_require_room : Option Addr} {sl_require_room : Array (Option Value)} {oc_require_room kV_require_room dc_require_room pm_require_room cd_require_room ct_require_room : Value}
    {od_with_limits an_with_limits : Option Addr} {sl_with_limits : Array (Option Value)} {oc_with_limits kV_with_limits dc_with_limits pm_with_limits cd_with_limits ct_with_limits : Value}
    {od_with_door an_with_door : Option Addr} {sl_with_door : Array (Option Value)} {oc_with_door kV_with_door dc_with_door pm_with_door cd_with_door ct_with_door : Value}
    {od__law_dice an__law_dice : Option Addr} {sl__law_dice : Array (Option Value)} {oc__law_dice kV__law_dice dc__law_dice pm__law_dice cd__law_dice ct__law_dice : Value}
    {od__law_roll an__law_roll : Option Addr} {sl__law_roll : Array (Option Value)} {oc__law_roll kV__law_roll dc__law_roll pm__law_roll cd__law_roll ct__law_roll : Value}
    {od__law_pick an__law_pick : Option Addr} {sl__law_pick : Array (Option Value)} {oc__law_pick kV__law_pick dc__law_pick pm__law_pick cd__law_pick ct__law_pick : Value}
    {od__law_ma_base an__law_ma_base : Option Addr} {sl__law_ma_base : Array (Option Value)} {oc__law_ma_base kV__law_ma_base dc__law_ma_base pm__law_ma_base cd__law_ma_base ct__law_ma_base : Value}
    {od__law_ma_guard an__law_ma_guard : Option Addr} {sl__law_ma_guard : Array (Option Value)} {oc__law_ma_guard kV__law_ma_guard dc__law_ma_guard pm__law_ma_guard cd__law_ma_guard ct__law_ma_guard : Value}
    {od__law_ma_lot an__law_ma_lot : Option Addr} {sl__law_ma_lot : Array (Option Value)} {oc__law_ma_lot kV__law_ma_lot dc__law_ma_lot pm__law_ma_lot cd__law_ma_lot ct__law_ma_lot : Value}
    {od__law_ma_door an__law_ma_door : Option Addr} {sl__law_ma_door : Array (Option Value)} {oc__law_ma_door kV__law_ma_door dc__law_ma_door pm__law_ma_door cd__law_ma_door ct__law_ma_door : Value}
    {od__law_ma_bent_door an__law_ma_bent_door : Option Addr} {sl__law_ma_bent_door : Array (Option Value)} {oc__law_ma_bent_door kV__law_ma_bent_door dc__law_ma_bent_door pm__law_ma_bent_door cd__law_ma_bent_door ct__law_ma_bent_door : Value}
    {od__law_ma_drawn an__law_ma_drawn : Option Addr} {sl__law_ma_drawn : Array (Option Value)} {oc__law_ma_drawn kV__law_ma_drawn dc__law_ma_drawn pm__law_ma_drawn cd__law_ma_drawn ct__law_ma_drawn : Value}
    {od__law_mm_drawn an__law_mm_drawn : Option Addr} {sl__law_mm_drawn : Array (Option Value)} {oc__law_mm_drawn kV__law_mm_drawn dc__law_mm_drawn pm__law_mm_drawn cd__law_mm_drawn ct__law_mm_drawn : Value}
    {od__law_is an__law_is : Option Addr} {sl__law_is : Array (Option Value)} {oc__law_is kV__law_is dc__law_is pm__law_is cd__law_is ct__law_is : Value}
    {od__law_changed an__law_changed : Option Addr} {sl__law_changed : Array (Option Value)} {oc__law_changed kV__law_changed dc__law_changed pm__law_changed cd__law_changed ct__law_changed : Value}
    {od__law_right an__law_right : Option Addr} {sl__law_right : Array (Option Value)} {oc__law_right kV__law_right dc__law_right pm__law_right cd__law_right ct__law_right : Value}
    {od_law an_law : Option Addr} {sl_law : Array (Option Value)} {oc_law kV_law dc_law pm_law cd_law ct_law : Value}
    {tocc tkV tdoc tpm tct tccl tcl : Value} {tod tan tcdd tcld : Option Addr} {tosl tccs tcsl : Array (Option Value)} {tvs : Array Value} {tfile : Str} {ttf : Tok}
    (aC : PySem.W.nsIn K mainGlobals "Machine" = some (some (.ref C)))
    (aT : PySem.W.nsIn K mainGlobals "TooMany" = some (some (.ref CT)))
    (n_isinstance : PySem.W.nsIn K mainGlobals "isinstance" = some none)
    (n_len : PySem.W.nsIn K mainGlobals "len" = some none)
    (n_all : PySem.W.nsIn K mainGlobals "all" = some none)
    (n_enumerate : PySem.W.nsIn K mainGlobals "enumerate" = some none)
    (n_zip : PySem.W.nsIn K mainGlobals "zip" = some none)
    (n_range : PySem.W.nsIn K mainGlobals "range" = some none)
    (n_int : PySem.W.nsIn K mainGlobals "int" = some none)
    (n_bool : PySem.W.nsIn K mainGlobals "bool" = some none)
    (n_tuple : PySem.W.nsIn K mainGlobals "tuple" = some none)
    (n_list : PySem.W.nsIn K mainGlobals "list" = some none)
    (n_abs : PySem.W.nsIn K mainGlobals "abs" = some none)
    (n_max : PySem.W.nsIn K mainGlobals "max" = some none)
    (n_min : PySem.W.nsIn K mainGlobals "min" = some none)
    (n_super : PySem.W.nsIn K mainGlobals "super" = some none)
    (m_MOST_CLOCKS : PySem.W.nsIn K mainGlobals "MOST_CLOCKS" = some (some (.int 3 t_MOST_CLOCKS)))
    (m_MOST_ROOMS : PySem.W.nsIn K mainGlobals "MOST_ROOMS" = some (some (.int 6 t_MOST_ROOMS)))
    (m_MOST_DOORS : PySem.W.nsIn K mainGlobals "MOST_DOORS" = some (some (.int 12 t_MOST_DOORS)))
    (m_MOST_NUMBER : PySem.W.nsIn K mainGlobals "MOST_NUMBER" = some (some (.int 4 t_MOST_NUMBER)))
    (m_PAIR : PySem.W.nsIn K mainGlobals "PAIR" = some (some (.int 2 t_PAIR)))
    (m_DOOR_SIZE : PySem.W.nsIn K mainGlobals "DOOR_SIZE" = some (some (.int 4 t_DOOR_SIZE)))
    (pg : PySem.W.plainGet K C Str.empty = true)
    (ic : PySem.W.isClsIn K C = true)
    (po : PySem.W.plainOver K C = true)
    (sa : PySem.W.findIn K (.ref C) "__setattr__" = some (some (.builtin "object.__setattr__")))
    (ca : PySem.W.findIn K (.ref C) "__class__" = some (some (.builtin "object.__class__")))
    (cn : PySem.W.specialIn K (.builtin "object.__class__") "__get__" = some (some (.builtin "getset_descriptor.__get__")))
    (ctk : PySem.W.takesIn K (.builtin "object.__class__") = some true)
    (cm : PySem.W.mroIn K C (.type "object") = some true)
    (nf : PySem.W.notFirst K C (.ref C) = true)
    (mkC : PySem.W.makesIn K C = true)
    (kcC : PySem.W.keepIn K (.ref C) = true)
    (ne : PySem.W.findIn K (.ref C) "__ne__" = some (some (.builtin "object.__ne__")))
    (sa0 : PySem.W.findIn K (.ref C) "own_clocks" = some (some (.ref p0)))
    (sg0 : PySem.W.specialIn K (.ref p0) "__get__" = some (some (.builtin "member_descriptor.__get__")))
    (st0 : PySem.W.takesIn K (.ref p0) = some true)
    (sy0 : PySem.W.typeIn K (.ref p0) = some (.type "member_descriptor"))
    (sx0 : PySem.W.slotIn K p0 C = some 0)
    (sa1 : PySem.W.findIn K (.ref C) "own_doors" = some (some (.ref p1)))
    (sg1 : PySem.W.specialIn K (.ref p1) "__get__" = some (some (.builtin "member_descriptor.__get__")))
    (st1 : PySem.W.takesIn K (.ref p1) = some true)
    (sy1 : PySem.W.typeIn K (.ref p1) = some (.type "member_descriptor"))
    (sx1 : PySem.W.slotIn K p1 C = some 1)
    (sa2 : PySem.W.findIn K (.ref C) "own_limits" = some (some (.ref p2)))
    (sg2 : PySem.W.specialIn K (.ref p2) "__get__" = some (some (.builtin "member_descriptor.__get__")))
    (st2 : PySem.W.takesIn K (.ref p2) = some true)
    (sy2 : PySem.W.typeIn K (.ref p2) = some (.type "member_descriptor"))
    (sx2 : PySem.W.slotIn K p2 C = some 2)
    (aI : PySem.W.findIn K (.ref C) "__init__" = some (some (.ref fI)))
    (lI : K.lookup fI = some ⟨ocI, odI, .func (PySem.W.fnOf "__init__" "Machine.__init__" (defArgs sInit) (defBody sInit) (defScope sInit) .none kVI dcI pmI anI cdI ctI), slI⟩)
    (cI : PySem.W.codeIn K cdI "Machine.__init__" = true)
    (kI : PySem.W.keepIn K (.ref fI) = true)
    (iI : PySem.W.isFn K (.ref fI) = true)
    (aE : PySem.W.findIn K (.ref C) "__eq__" = some (some (.ref fE)))
    (lE : K.lookup fE = some ⟨ocE, odE, .func (PySem.W.fnOf "__eq__" "Machine.__eq__" (defArgs sEq) (defBody sEq) (defScope sEq) .none kVE dcE pmE anE cdE ctE), slE⟩)
    (cE : PySem.W.codeIn K cdE "Machine.__eq__" = true)
    (kE : PySem.W.keepIn K (.ref fE) = true)
    (iE : PySem.W.isFn K (.ref fE) = true)
    (pa_clocks : PySem.W.findIn K (.ref C) "clocks" = some (some (.ref q_clocks)))
    (pg_clocks : PySem.W.specialIn K (.ref q_clocks) "__get__" = some (some (.builtin "property.__get__")))
    (pt_clocks : PySem.W.takesIn K (.ref q_clocks) = some true)
    (pr_clocks : PySem.W.recIn K q_clocks "property" = some (.ref g_clocks :: r_clocks))
    (lPclocks : K.lookup g_clocks = some ⟨ocPclocks, odPclocks, .func (PySem.W.fnOf "clocks" "Machine.clocks" (defArgs sPClocks) (defBody sPClocks) (defScope sPClocks) .none kVPclocks dcPclocks pmPclocks anPclocks cdPclocks ctPclocks), slPclocks⟩)
    (cPclocks : PySem.W.codeIn K cdPclocks "Machine.clocks" = true)
    (kPclocks : PySem.W.keepIn K (.ref g_clocks) = true)
    (pa_limits : PySem.W.findIn K (.ref C) "limits" = some (some (.ref q_limits)))
    (pg_limits : PySem.W.specialIn K (.ref q_limits) "__get__" = some (some (.builtin "property.__get__")))
    (pt_limits : PySem.W.takesIn K (.ref q_limits) = some true)
    (pr_limits : PySem.W.recIn K q_limits "property" = some (.ref g_limits :: r_limits))
    (lPlimits : K.lookup g_limits = some ⟨ocPlimits, odPlimits, .func (PySem.W.fnOf "limits" "Machine.limits" (defArgs sPLimits) (defBody sPLimits) (defScope sPLimits) .none kVPlimits dcPlimits pmPlimits anPlimits cdPlimits ctPlimits), slPlimits⟩)
    (cPlimits : PySem.W.codeIn K cdPlimits "Machine.limits" = true)
    (kPlimits : PySem.W.keepIn K (.ref g_limits) = true)
    (pa_doors : PySem.W.findIn K (.ref C) "doors" = some (some (.ref q_doors)))
    (pg_doors : PySem.W.specialIn K (.ref q_doors) "__get__" = some (some (.builtin "property.__get__")))
    (pt_doors : PySem.W.takesIn K (.ref q_doors) = some true)
    (pr_doors : PySem.W.recIn K q_doors "property" = some (.ref g_doors :: r_doors))
    (lPdoors : K.lookup g_doors = some ⟨ocPdoors, odPdoors, .func (PySem.W.fnOf "doors" "Machine.doors" (defArgs sPDoors) (defBody sPDoors) (defScope sPDoors) .none kVPdoors dcPdoors pmPdoors anPdoors cdPdoors ctPdoors), slPdoors⟩)
    (cPdoors : PySem.W.codeIn K cdPdoors "Machine.doors" = true)
    (kPdoors : PySem.W.keepIn K (.ref g_doors) = true)
    (a_is_whole : PySem.W.nsIn K mainGlobals "is_whole" = some (some (.ref f_is_whole)))
    (l_is_whole : K.lookup f_is_whole = some ⟨oc_is_whole, od_is_whole, .func (PySem.W.fnOf "is_whole" "is_whole" (defArgs sWhole) (defBody sWhole) (defScope sWhole) .none kV_is_whole dc_is_whole pm_is_whole an_is_whole cd_is_whole ct_is_whole), sl_is_whole⟩)
    (c_is_whole : PySem.W.codeIn K cd_is_whole "is_whole" = true)
    (k_is_whole : PySem.W.keepIn K (.ref f_is_whole) = true)
    (a_is_from : PySem.W.nsIn K mainGlobals "is_from" = some (some (.ref f_is_from)))
    (l_is_from : K.lookup f_is_from = some ⟨oc_is_from, od_is_from, .func (PySem.W.fnOf "is_from" "is_from" (defArgs sFrom) (defBody sFrom) (defScope sFrom) .none kV_is_from dc_is_from pm_is_from an_is_from cd_is_from ct_is_from), sl_is_from⟩)
    (c_is_from : PySem.W.codeIn K cd_is_from "is_from" = true)
    (k_is_from : PySem.W.keepIn K (.ref f_is_from) = true)
    (a_require_from : PySem.W.nsIn K mainGlobals "require_from" = some (some (.ref f_require_from)))
    (l_require_from : K.lookup f_require_from = some ⟨oc_require_from, od_require_from, .func (PySem.W.fnOf "require_from" "require_from" (defArgs sReqFrom) (defBody sReqFrom) (defScope sReqFrom) .none kV_require_from dc_require_from pm_require_from an_require_from cd_require_from ct_require_from), sl_require_from⟩)
    (c_require_from : PySem.W.codeIn K cd_require_from "require_from" = true)
    (k_require_from : PySem.W.keepIn K (.ref f_require_from) = true)
    (a_are_limits : PySem.W.nsIn K mainGlobals "are_limits" = some (some (.ref f_are_limits)))
    (l_are_limits : K.lookup f_are_limits = some ⟨oc_are_limits, od_are_limits, .func (PySem.W.fnOf "are_limits" "are_limits" (defArgs sLimits) (defBody sLimits) (defScope sLimits) .none kV_are_limits dc_are_limits pm_are_limits an_are_limits cd_are_limits ct_are_limits), sl_are_limits⟩)
    (c_are_limits : PySem.W.codeIn K cd_are_limits "are_limits" = true)
    (k_are_limits : PySem.W.keepIn K (.ref f_are_limits) = true)
    (a_is_guard : PySem.W.nsIn K mainGlobals "is_guard" = some (some (.ref f_is_guard)))
    (l_is_guard : K.lookup f_is_guard = some ⟨oc_is_guard, od_is_guard, .func (PySem.W.fnOf "is_guard" "is_guard" (defArgs sGuard) (defBody sGuard) (defScope sGuard) .none kV_is_guard dc_is_guard pm_is_guard an_is_guard cd_is_guard ct_is_guard), sl_is_guard⟩)
    (c_is_guard : PySem.W.codeIn K cd_is_guard "is_guard" = true)
    (k_is_guard : PySem.W.keepIn K (.ref f_is_guard) = true)
    (a_are_guards : PySem.W.nsIn K mainGlobals "are_guards" = some (some (.ref f_are_guards)))
    (l_are_guards : K.lookup f_are_guards = some ⟨oc_are_guards, od_are_guards, .func (PySem.W.fnOf "are_guards" "are_guards" (defArgs sGuards) (defBody sGuards) (defScope sGuards) .none kV_are_guards dc_are_guards pm_are_guards an_are_guards cd_are_guards ct_are_guards), sl_are_guards⟩)
    (c_are_guards : PySem.W.codeIn K cd_are_guards "are_guards" = true)
    (k_are_guards : PySem.W.keepIn K (.ref f_are_guards) = true)
    (a_is_ascending : PySem.W.nsIn K mainGlobals "is_ascending" = some (some (.ref f_is_ascending)))
    (l_is_ascending : K.lookup f_is_ascending = some ⟨oc_is_ascending, od_is_ascending, .func (PySem.W.fnOf "is_ascending" "is_ascending" (defArgs sAsc) (defBody sAsc) (defScope sAsc) .none kV_is_ascending dc_is_ascending pm_is_ascending an_is_ascending cd_is_ascending ct_is_ascending), sl_is_ascending⟩)
    (c_is_ascending : PySem.W.codeIn K cd_is_ascending "is_ascending" = true)
    (k_is_ascending : PySem.W.keepIn K (.ref f_is_ascending) = true)
    (a_is_door_in : PySem.W.nsIn K mainGlobals "is_door_in" = some (some (.ref f_is_door_in)))
    (l_is_door_in : K.lookup f_is_door_in = some ⟨oc_is_door_in, od_is_door_in, .func (PySem.W.fnOf "is_door_in" "is_door_in" (defArgs sDoorIn) (defBody sDoorIn) (defScope sDoorIn) .none kV_is_door_in dc_is_door_in pm_is_door_in an_is_door_in cd_is_door_in ct_is_door_in), sl_is_door_in⟩)
    (c_is_door_in : PySem.W.codeIn K cd_is_door_in "is_door_in" = true)
    (k_is_door_in : PySem.W.keepIn K (.ref f_is_door_in) = true)
    (a_rooms_fault : PySem.W.nsIn K mainGlobals "rooms_fault" = some (some (.ref f_rooms_fault)))
    (l_rooms_fault : K.lookup f_rooms_fault = some ⟨oc_rooms_fault, od_rooms_fault, .func (PySem.W.fnOf "rooms_fault" "rooms_fault" (defArgs sRoomsF) (defBody sRoomsF) (defScope sRoomsF) .none kV_rooms_fault dc_rooms_fault pm_rooms_fault an_rooms_fault cd_rooms_fault ct_rooms_fault), sl_rooms_fault⟩)
    (c_rooms_fault : PySem.W.codeIn K cd_rooms_fault "rooms_fault" = true)
    (k_rooms_fault : PySem.W.keepIn K (.ref f_rooms_fault) = true)
    (a_doors_fault : PySem.W.nsIn K mainGlobals "doors_fault" = some (some (.ref f_doors_fault)))
    (l_doors_fault : K.lookup f_doors_fault = some ⟨oc_doors_fault, od_doors_fault, .func (PySem.W.fnOf "doors_fault" "doors_fault" (defArgs sDoorsF) (defBody sDoorsF) (defScope sDoorsF) .none kV_doors_fault dc_doors_fault pm_doors_fault an_doors_fault cd_doors_fault ct_doors_fault), sl_doors_fault⟩)
    (c_doors_fault : PySem.W.codeIn K cd_doors_fault "doors_fault" = true)
    (k_doors_fault : PySem.W.keepIn K (.ref f_doors_fault) = true)
    (a_fault_of : PySem.W.nsIn K mainGlobals "fault_of" = some (some (.ref f_fault_of)))
    (l_fault_of : K.lookup f_fault_of = some ⟨oc_fault_of, od_fault_of, .func (PySem.W.fnOf "fault_of" "fault_of" (defArgs sFault) (defBody sFault) (defScope sFault) .none kV_fault_of dc_fault_of pm_fault_of an_fault_of cd_fault_of ct_fault_of), sl_fault_of⟩)
    (c_fault_of : PySem.W.codeIn K cd_fault_of "fault_of" = true)
    (k_fault_of : PySem.W.keepIn K (.ref f_fault_of) = true)
    (a_without_in : PySem.W.nsIn K mainGlobals "without_in" = some (some (.ref f_without_in)))
    (l_without_in : K.lookup f_without_in = some ⟨oc_without_in, od_without_in, .func (PySem.W.fnOf "without_in" "without_in" (defArgs sWithoutIn) (defBody sWithoutIn) (defScope sWithoutIn) .none kV_without_in dc_without_in pm_without_in an_without_in cd_without_in ct_without_in), sl_without_in⟩)
    (c_without_in : PySem.W.codeIn K cd_without_in "without_in" = true)
    (k_without_in : PySem.W.keepIn K (.ref f_without_in) = true)
    (a_require_machine : PySem.W.nsIn K mainGlobals "require_machine" = some (some (.ref f_require_machine)))
    (l_require_machine : K.lookup f_require_machine = some ⟨oc_require_machine, od_require_machine, .func (PySem.W.fnOf "require_machine" "require_machine" (defArgs sReqM) (defBody sReqM) (defScope sReqM) .none kV_require_machine dc_require_machine pm_require_machine an_require_machine cd_require_machine ct_require_machine), sl_require_machine⟩)
    (c_require_machine : PySem.W.codeIn K cd_require_machine "require_machine" = true)
    (k_require_machine : PySem.W.keepIn K (.ref f_require_machine) = true)
    (a_require_lot : PySem.W.nsIn K mainGlobals "require_lot" = some (some (.ref f_require_lot)))
    (l_require_lot : K.lookup f_require_lot = some ⟨oc_require_lot, od_require_lot, .func (PySem.W.fnOf "require_lot" "require_lot" (defArgs sReqLot) (defBody sReqLot) (defScope sReqLot) .none kV_require_lot dc_require_lot pm_require_lot an_require_lot cd_require_lot ct_require_lot), sl_require_lot⟩)
    (c_require_lot : PySem.W.codeIn K cd_require_lot "require_lot" = true)
    (k_require_lot : PySem.W.keepIn K (.ref f_require_lot) = true)
    (a_without_doors : PySem.W.nsIn K mainGlobals "without_doors" = some (some (.ref f_without_doors)))
    (l_without_doors : K.lookup f_without_doors = some ⟨oc_without_doors, od_without_doors, .func (PySem.W.fnOf "without_doors" "without_doors" (defArgs sWithout) (defBody sWithout) (defScope sWithout) .none kV_without_doors dc_without_doors pm_without_doors an_without_doors cd_without_doors ct_without_doors), sl_without_doors⟩)
    (c_without_doors : PySem.W.codeIn K cd_without_doors "without_doors" = true)
    (k_without_doors : PySem.W.keepIn K (.ref f_without_doors) = true)
    (a_keeping_doors : PySem.W.nsIn K mainGlobals "keeping_doors" = some (some (.ref f_keeping_doors)))
    (l_keeping_doors : K.lookup f_keeping_doors = some ⟨oc_keeping_doors, od_keeping_doors, .func (PySem.W.fnOf "keeping_doors" "keeping_doors" (defArgs sKeeping) (defBody sKeeping) (defScope sKeeping) .none kV_keeping_doors dc_keeping_doors pm_keeping_doors an_keeping_doors cd_keeping_doors ct_keeping_doors), sl_keeping_doors⟩)
    (c_keeping_doors : PySem.W.codeIn K cd_keeping_doors "keeping_doors" = true)
    (k_keeping_doors : PySem.W.keepIn K (.ref f_keeping_doors) = true)
    (a_first_ways : PySem.W.nsIn K mainGlobals "first_ways" = some (some (.ref f_first_ways)))
    (l_first_ways : K.lookup f_first_ways = some ⟨oc_first_ways, od_first_ways, .func (PySem.W.fnOf "first_ways" "first_ways" (defArgs sFirst) (defBody sFirst) (defScope sFirst) .none kV_first_ways dc_first_ways pm_first_ways an_first_ways cd_first_ways ct_first_ways), sl_first_ways⟩)
    (c_first_ways : PySem.W.codeIn K cd_first_ways "first_ways" = true)
    (k_first_ways : PySem.W.keepIn K (.ref f_first_ways) = true)
    (a_round_from : PySem.W.nsIn K mainGlobals "round_from" = some (some (.ref f_round_from)))
    (l_round_from : K.lookup f_round_from = some ⟨oc_round_from, od_round_from, .func (PySem.W.fnOf "round_from" "round_from" (defArgs sRound) (defBody sRound) (defScope sRound) .none kV_round_from dc_round_from pm_round_from an_round_from cd_round_from ct_round_from), sl_round_from⟩)
    (c_round_from : PySem.W.codeIn K cd_round_from "round_from" = true)
    (k_round_from : PySem.W.keepIn K (.ref f_round_from) = true)
    (a_loose_round_of : PySem.W.nsIn K mainGlobals "loose_round_of" = some (some (.ref f_loose_round_of)))
    (l_loose_round_of : K.lookup f_loose_round_of = some ⟨oc_loose_round_of, od_loose_round_of, .func (PySem.W.fnOf "loose_round_of" "loose_round_of" (defArgs sLooseOf) (defBody sLooseOf) (defScope sLooseOf) .none kV_loose_round_of dc_loose_round_of pm_loose_round_of an_loose_round_of cd_loose_round_of ct_loose_round_of), sl_loose_round_of⟩)
    (c_loose_round_of : PySem.W.codeIn K cd_loose_round_of "loose_round_of" = true)
    (k_loose_round_of : PySem.W.keepIn K (.ref f_loose_round_of) = true)
    (a_loose_round : PySem.W.nsIn K mainGlobals "loose_round" = some (some (.ref f_loose_round)))
    (l_loose_round : K.lookup f_loose_round = some ⟨oc_loose_round, od_loose_round, .func (PySem.W.fnOf "loose_round" "loose_round" (defArgs sLoose) (defBody sLoose) (defScope sLoose) .none kV_loose_round dc_loose_round pm_loose_round an_loose_round cd_loose_round ct_loose_round), sl_loose_round⟩)
    (c_loose_round : PySem.W.codeIn K cd_loose_round "loose_round" = true)
    (k_loose_round : PySem.W.keepIn K (.ref f_loose_round) = true)
    (a_require_room : PySem.W.nsIn K mainGlobals "require_room" = some (some (.ref f_require_room)))
    (l_require_room : K.lookup f_require_room = some ⟨oc_require_room, od_require_room, .func (PySem.W.fnOf "require_room" "require_room" (defArgs sReqRoom) (defBody sReqRoom) (defScope sReqRoom) .none kV_require_room dc_require_room pm_require_room an_require_room cd_require_room ct_require_room), sl_require_room⟩)
    (c_require_room : PySem.W.codeIn K cd_require_room "require_room" = true)
    (k_require_room : PySem.W.keepIn K (.ref f_require_room) = true)
    (a_with_limits : PySem.W.nsIn K mainGlobals "with_limits" = some (some (.ref f_with_limits)))
    (l_with_limits : K.lookup f_with_limits = some ⟨oc_with_limits, od_with_limits, .func (PySem.W.fnOf "with_limits" "with_limits" (defArgs sWithLim) (defBody sWithLim) (defScope sWithLim) .none kV_with_limits dc_with_limits pm_with_limits an_with_limits cd_with_limits ct_with_limits), sl_with_limits⟩)
    (c_with_limits : PySem.W.codeIn K cd_with_limits "with_limits" = true)
    (k_with_limits : PySem.W.keepIn K (.ref f_with_limits) = true)
    (a_with_door : PySem.W.nsIn K mainGlobals "with_door" = some (some (.ref f_with_door)))
    (l_with_door : K.lookup f_with_door = some ⟨oc_with_door, od_with_door, .func (PySem.W.fnOf "with_door" "with_door" (defArgs sWithDoor) (defBody sWithDoor) (defScope sWithDoor) .none kV_with_door dc_with_door pm_with_door an_with_door cd_with_door ct_with_door), sl_with_door⟩)
    (c_with_door : PySem.W.codeIn K cd_with_door "with_door" = true)
    (k_with_door : PySem.W.keepIn K (.ref f_with_door) = true)
    (a__law_dice : PySem.W.nsIn K mainGlobals "_law_dice" = some (some (.ref f__law_dice)))
    (l__law_dice : K.lookup f__law_dice = some ⟨oc__law_dice, od__law_dice, .func (PySem.W.fnOf "_law_dice" "_law_dice" (defArgs sDice) (defBody sDice) (defScope sDice) .none kV__law_dice dc__law_dice pm__law_dice an__law_dice cd__law_dice ct__law_dice), sl__law_dice⟩)
    (c__law_dice : PySem.W.codeIn K cd__law_dice "_law_dice" = true)
    (k__law_dice : PySem.W.keepIn K (.ref f__law_dice) = true)
    (a__law_roll : PySem.W.nsIn K mainGlobals "_law_roll" = some (some (.ref f__law_roll)))
    (l__law_roll : K.lookup f__law_roll = some ⟨oc__law_roll, od__law_roll, .func (PySem.W.fnOf "_law_roll" "_law_roll" (defArgs sRoll) (defBody sRoll) (defScope sRoll) .none kV__law_roll dc__law_roll pm__law_roll an__law_roll cd__law_roll ct__law_roll), sl__law_roll⟩)
    (c__law_roll : PySem.W.codeIn K cd__law_roll "_law_roll" = true)
    (k__law_roll : PySem.W.keepIn K (.ref f__law_roll) = true)
    (a__law_pick : PySem.W.nsIn K mainGlobals "_law_pick" = some (some (.ref f__law_pick)))
    (l__law_pick : K.lookup f__law_pick = some ⟨oc__law_pick, od__law_pick, .func (PySem.W.fnOf "_law_pick" "_law_pick" (defArgs sPick) (defBody sPick) (defScope sPick) .none kV__law_pick dc__law_pick pm__law_pick an__law_pick cd__law_pick ct__law_pick), sl__law_pick⟩)
    (c__law_pick : PySem.W.codeIn K cd__law_pick "_law_pick" = true)
    (k__law_pick : PySem.W.keepIn K (.ref f__law_pick) = true)
    (a__law_ma_base : PySem.W.nsIn K mainGlobals "_law_ma_base" = some (some (.ref f__law_ma_base)))
    (l__law_ma_base : K.lookup f__law_ma_base = some ⟨oc__law_ma_base, od__law_ma_base, .func (PySem.W.fnOf "_law_ma_base" "_law_ma_base" (defArgs sBase) (defBody sBase) (defScope sBase) .none kV__law_ma_base dc__law_ma_base pm__law_ma_base an__law_ma_base cd__law_ma_base ct__law_ma_base), sl__law_ma_base⟩)
    (c__law_ma_base : PySem.W.codeIn K cd__law_ma_base "_law_ma_base" = true)
    (k__law_ma_base : PySem.W.keepIn K (.ref f__law_ma_base) = true)
    (a__law_ma_guard : PySem.W.nsIn K mainGlobals "_law_ma_guard" = some (some (.ref f__law_ma_guard)))
    (l__law_ma_guard : K.lookup f__law_ma_guard = some ⟨oc__law_ma_guard, od__law_ma_guard, .func (PySem.W.fnOf "_law_ma_guard" "_law_ma_guard" (defArgs sMaGuard) (defBody sMaGuard) (defScope sMaGuard) .none kV__law_ma_guard dc__law_ma_guard pm__law_ma_guard an__law_ma_guard cd__law_ma_guard ct__law_ma_guard), sl__law_ma_guard⟩)
    (c__law_ma_guard : PySem.W.codeIn K cd__law_ma_guard "_law_ma_guard" = true)
    (k__law_ma_guard : PySem.W.keepIn K (.ref f__law_ma_guard) = true)
    (a__law_ma_lot : PySem.W.nsIn K mainGlobals "_law_ma_lot" = some (some (.ref f__law_ma_lot)))
    (l__law_ma_lot : K.lookup f__law_ma_lot = some ⟨oc__law_ma_lot, od__law_ma_lot, .func (PySem.W.fnOf "_law_ma_lot" "_law_ma_lot" (defArgs sMaLot) (defBody sMaLot) (defScope sMaLot) .none kV__law_ma_lot dc__law_ma_lot pm__law_ma_lot an__law_ma_lot cd__law_ma_lot ct__law_ma_lot), sl__law_ma_lot⟩)
    (c__law_ma_lot : PySem.W.codeIn K cd__law_ma_lot "_law_ma_lot" = true)
    (k__law_ma_lot : PySem.W.keepIn K (.ref f__law_ma_lot) = true)
    (a__law_ma_door : PySem.W.nsIn K mainGlobals "_law_ma_door" = some (some (.ref f__law_ma_door)))
    (l__law_ma_door : K.lookup f__law_ma_door = some ⟨oc__law_ma_door, od__law_ma_door, .func (PySem.W.fnOf "_law_ma_door" "_law_ma_door" (defArgs sMaDoor) (defBody sMaDoor) (defScope sMaDoor) .none kV__law_ma_door dc__law_ma_door pm__law_ma_door an__law_ma_door cd__law_ma_door ct__law_ma_door), sl__law_ma_door⟩)
    (c__law_ma_door : PySem.W.codeIn K cd__law_ma_door "_law_ma_door" = true)
    (k__law_ma_door : PySem.W.keepIn K (.ref f__law_ma_door) = true)
    (a__law_ma_bent_door : PySem.W.nsIn K mainGlobals "_law_ma_bent_door" = some (some (.ref f__law_ma_bent_door)))
    (l__law_ma_bent_door : K.lookup f__law_ma_bent_door = some ⟨oc__law_ma_bent_door, od__law_ma_bent_door, .func (PySem.W.fnOf "_law_ma_bent_door" "_law_ma_bent_door" (defArgs sBent) (defBody sBent) (defScope sBent) .none kV__law_ma_bent_door dc__law_ma_bent_door pm__law_ma_bent_door an__law_ma_bent_door cd__law_ma_bent_door ct__law_ma_bent_door), sl__law_ma_bent_door⟩)
    (c__law_ma_bent_door : PySem.W.codeIn K cd__law_ma_bent_door "_law_ma_bent_door" = true)
    (k__law_ma_bent_door : PySem.W.keepIn K (.ref f__law_ma_bent_door) = true)
    (a__law_ma_drawn : PySem.W.nsIn K mainGlobals "_law_ma_drawn" = some (some (.ref f__law_ma_drawn)))
    (l__law_ma_drawn : K.lookup f__law_ma_drawn = some ⟨oc__law_ma_drawn, od__law_ma_drawn, .func (PySem.W.fnOf "_law_ma_drawn" "_law_ma_drawn" (defArgs sMaDrawn) (defBody sMaDrawn) (defScope sMaDrawn) .none kV__law_ma_drawn dc__law_ma_drawn pm__law_ma_drawn an__law_ma_drawn cd__law_ma_drawn ct__law_ma_drawn), sl__law_ma_drawn⟩)
    (c__law_ma_drawn : PySem.W.codeIn K cd__law_ma_drawn "_law_ma_drawn" = true)
    (k__law_ma_drawn : PySem.W.keepIn K (.ref f__law_ma_drawn) = true)
    (a__law_mm_drawn : PySem.W.nsIn K mainGlobals "_law_mm_drawn" = some (some (.ref f__law_mm_drawn)))
    (l__law_mm_drawn : K.lookup f__law_mm_drawn = some ⟨oc__law_mm_drawn, od__law_mm_drawn, .func (PySem.W.fnOf "_law_mm_drawn" "_law_mm_drawn" (defArgs sMmDrawn) (defBody sMmDrawn) (defScope sMmDrawn) .none kV__law_mm_drawn dc__law_mm_drawn pm__law_mm_drawn an__law_mm_drawn cd__law_mm_drawn ct__law_mm_drawn), sl__law_mm_drawn⟩)
    (c__law_mm_drawn : PySem.W.codeIn K cd__law_mm_drawn "_law_mm_drawn" = true)
    (k__law_mm_drawn : PySem.W.keepIn K (.ref f__law_mm_drawn) = true)
    (a__law_is : PySem.W.nsIn K mainGlobals "_law_is" = some (some (.ref f__law_is)))
    (l__law_is : K.lookup f__law_is = some ⟨oc__law_is, od__law_is, .func (PySem.W.fnOf "_law_is" "_law_is" (defArgs sIs) (defBody sIs) (defScope sIs) .none kV__law_is dc__law_is pm__law_is an__law_is cd__law_is ct__law_is), sl__law_is⟩)
    (c__law_is : PySem.W.codeIn K cd__law_is "_law_is" = true)
    (k__law_is : PySem.W.keepIn K (.ref f__law_is) = true)
    (a__law_changed : PySem.W.nsIn K mainGlobals "_law_changed" = some (some (.ref f__law_changed)))
    (l__law_changed : K.lookup f__law_changed = some ⟨oc__law_changed, od__law_changed, .func (PySem.W.fnOf "_law_changed" "_law_changed" (defArgs sChanged) (defBody sChanged) (defScope sChanged) .none kV__law_changed dc__law_changed pm__law_changed an__law_changed cd__law_changed ct__law_changed), sl__law_changed⟩)
    (c__law_changed : PySem.W.codeIn K cd__law_changed "_law_changed" = true)
    (k__law_changed : PySem.W.keepIn K (.ref f__law_changed) = true)
    (a__law_right : PySem.W.nsIn K mainGlobals "_law_right" = some (some (.ref f__law_right)))
    (l__law_right : K.lookup f__law_right = some ⟨oc__law_right, od__law_right, .func (PySem.W.fnOf "_law_right" "_law_right" (defArgs sRight) (defBody sRight) (defScope sRight) .none kV__law_right dc__law_right pm__law_right an__law_right cd__law_right ct__law_right), sl__law_right⟩)
    (c__law_right : PySem.W.codeIn K cd__law_right "_law_right" = true)
    (k__law_right : PySem.W.keepIn K (.ref f__law_right) = true)
    (a_law : PySem.W.nsIn K mainGlobals "law" = some (some (.ref f_law)))
    (l_law : K.lookup f_law = some ⟨oc_law, od_law, .func (PySem.W.fnOf "law" "law" (defArgs sLaw) (defBody sLaw) (defScope sLaw) .none kV_law dc_law pm_law an_law cd_law ct_law), sl_law⟩)
    (c_law : PySem.W.codeIn K cd_law "law" = true)
    (k_law : PySem.W.keepIn K (.ref f_law) = true)
    (tkC : PySem.W.keepIn K (.ref CT) = true)
    (tq : PySem.W.excInitIn K CT bmO "OverflowError.__new__" = true)
    (tov : PySem.W.excOver K CT bmO = true)
    (tsa : PySem.W.findIn K (.ref CT) "__setattr__" = some (some (.builtin "object.__setattr__")))
    (tno : PySem.W.takerIn K CT "limit" = some none)
    (thd : PySem.W.hasDictIn K CT = true)
    (tiC : PySem.W.findIn K (.ref CT) "__init__" = some (some (.ref fT)))
    (tfn : PySem.W.isFn K (.ref fT) = true)
    (tsu : PySem.W.ks_superIn K CT CT "__init__" = some (some (.builtin "OverflowError.__init__")))
    (tsB : PySem.W.subIn K (.ref CT) (.type "OverflowError") = some true)
    (tst : PySem.W.nsIn K PySem.cStatics "thirdparty.any" = some none)
    (texC : PySem.W.subIn K (.ref CT) (.type "BaseException") = some true)
    (ttyC : PySem.W.typeIn K (.ref CT) = some (.type "type"))
    (tic : PySem.W.isClsIn K CT = true)
    (tmm : PySem.W.mroIn K CT (.ref CT) = some true)
    (tl : K.lookup fT = some ⟨tocc, tod, .func (PySem.W.ksFn "__init__" "TooMany.__init__" (L2.defArgs sTm) (L2.defBody sTm) (L2.defScope sTm) .none tkV tdoc tpm tan (.ref cda) tct cc), tosl⟩)
    (tcd : PySem.W.codeIn K (.ref cda) "TooMany.__init__" = true)
    (tlc : K.lookup cda = some ⟨tccl, tcdd, .fields tvs, tccs⟩)
    (tvf : tvs[2]? = some (.str tfile ttf))
    (tff : ((l.prog.main.file : Str) == tfile) = true)
    (tcc : K.lookup cc = some ⟨tcl, tcld, .cell (some (.ref CT)), tcsl⟩)
    (ttop : (l.prog.main.scope.names.lookup ("super" : Str)).isSome = false)
    (tga : PySem.W.findIn K (.ref CT) "__getattribute__" = some (some (.builtin "BaseException.__getattribute__")))
    (tgg : PySem.W.findIn K (.ref CT) "__getattr__" = some none)
    (tnl : PySem.W.findIn K (.ref CT) "limit" = some none)
    (tss : PySem.W.subIn K (.ref CT) (.ref CT) = some true)
    : ∃ fd : FuncData, (∀ (s : Shared) (v : Value), BindsTo s fd ⟨[v], []⟩ [("_law_script", v)]) ∧ ∀ base : Heap, K.In base → base.Ns mainGlobals mg → FnOk l.prog w K mg base CX0 14 fa fd ["_law_script"] (toSp (spLaw K)) := by
  have e := hfa.symm.trans (mg_of X GN a_law)
  cases e
  have G : Gs mg := ⟨mg_none_of X GN n_isinstance, mg_none_of X GN n_len, mg_none_of X GN n_all, mg_none_of X GN n_enumerate, mg_none_of X GN n_zip, mg_none_of X GN n_range, mg_none_of X GN n_int, mg_none_of X GN n_bool, mg_none_of X GN n_tuple, mg_none_of X GN n_list, mg_none_of X GN n_abs, mg_none_of X GN n_max, mg_none_of X GN n_min, ⟨_, mg_of X GN m_MOST_CLOCKS⟩, ⟨_, mg_of X GN m_MOST_ROOMS⟩, ⟨_, mg_of X GN m_MOST_DOORS⟩, ⟨_, mg_of X GN m_MOST_NUMBER⟩, ⟨_, mg_of X GN m_PAIR⟩, ⟨_, mg_of X GN m_DOOR_SIZE⟩⟩
  have T : MTxt K mg C := ⟨mg_of X GN aC, ⟨pg, ic, po, sa⟩, ⟨ca, cn, ctk, cm⟩, kit_self, nf, slot_mk sa0 sg0 st0 sy0 sx0 (by decide), slot_mk sa1 sg1 st1 sy1 sx1 (by decide), slot_mk sa2 sg2 st2 sy2 sx2 (by decide)⟩
  have TM : TmTxt l.prog K mg CT fT := ⟨mg_of X GN aT, tkC, tq, tov, tsa, tno, thd, tiC, tfn, tsu, tsB, tst, texC, ttyC, tic, tmm, mg_none_of X GN n_super, ⟨_, _, _, _, _, _, _, _, _, _, tl, tcd, ⟨_, _, _, _, _, _, tlc, tvf, tff⟩, _, _, _, tcc⟩, ttop⟩
  have TX : TmX K mg CT := ⟨mg_of X GN aT, PySem.W.exm_ref texC thd ttyC tss, ⟨tga, tgg, texC, thd⟩, tnl⟩
  have M : Mk K C fI := ⟨mkC, aI, iI, kcC⟩
  have FI := fun_mk (st := sInit) lI cI kI
  have bI := FI.binds (ps := ["self", "clocks", "limits", "doors"]) fun _ _ _ _ _ _ us hl => match us, hl with | [_, _, _, _], _ => rfl
  have FE := fun_mk (st := sEq) lE cE kE
  have bE := FE.binds (ps := ["self", "other"]) fun _ _ _ _ _ _ us hl => match us, hl with | [_, _], _ => rfl
  have FPclocks := fun_mk (st := sPClocks) lPclocks cPclocks kPclocks
  have bPclocks := FPclocks.binds (ps := ["self"]) fun _ _ _ _ _ _ us hl => match us, hl with | [_], _ => rfl
  have FPlimits := fun_mk (st := sPLimits) lPlimits cPlimits kPlimits
  have bPlimits := FPlimits.binds (ps := ["self"]) fun _ _ _ _ _ _ us hl => match us, hl with | [_], _ => rfl
  have FPdoors := fun_mk (st := sPDoors) lPdoors cPdoors kPdoors
  have bPdoors := FPdoors.binds (ps := ["self"]) fun _ _ _ _ _ _ us hl => match us, hl with | [_], _ => rfl
  have F_is_whole := fun_mk (st := sWhole) l_is_whole c_is_whole k_is_whole
  have b_is_whole := F_is_whole.binds (ps := ["value"]) fun _ _ _ _ _ _ us hl => match us, hl with | [_], _ => rfl
  have F_is_from := fun_mk (st := sFrom) l_is_from c_is_from k_is_from
  have b_is_from := F_is_from.binds (ps := ["value", "least", "most"]) fun _ _ _ _ _ _ us hl => match us, hl with | [_, _, _], _ => rfl
  have F_require_from := fun_mk (st := sReqFrom) l_require_from c_require_from k_require_from
  have b_require_from := F_require_from.binds (ps := ["value", "least", "most"]) fun _ _ _ _ _ _ us hl => match us, hl with | [_, _, _], _ => rfl
  have F_are_limits := fun_mk (st := sLimits) l_are_limits c_are_limits k_are_limits
  have b_are_limits := F_are_limits.binds (ps := ["clocks", "value"]) fun _ _ _ _ _ _ us hl => match us, hl with | [_, _], _ => rfl
  have F_is_guard := fun_mk (st := sGuard) l_is_guard c_is_guard k_is_guard
  have b_is_guard := F_is_guard.binds (ps := ["value"]) fun _ _ _ _ _ _ us hl => match us, hl with | [_], _ => rfl
  have F_are_guards := fun_mk (st := sGuards) l_are_guards c_are_guards k_are_guards
  have b_are_guards := F_are_guards.binds (ps := ["clocks", "value"]) fun _ _ _ _ _ _ us hl => match us, hl with | [_, _], _ => rfl
  have F_is_ascending := fun_mk (st := sAsc) l_is_ascending c_is_ascending k_is_ascending
  have b_is_ascending := F_is_ascending.binds (ps := ["value", "many"]) fun _ _ _ _ _ _ us hl => match us, hl with | [_, _], _ => rfl
  have F_is_door_in := fun_mk (st := sDoorIn) l_is_door_in c_is_door_in k_is_door_in
  have b_is_door_in := F_is_door_in.binds (ps := ["clocks", "rooms", "value"]) fun _ _ _ _ _ _ us hl => match us, hl with | [_, _, _], _ => rfl
  have F_rooms_fault := fun_mk (st := sRoomsF) l_rooms_fault c_rooms_fault k_rooms_fault
  have b_rooms_fault := F_rooms_fault.binds (ps := ["clocks", "limits"]) fun _ _ _ _ _ _ us hl => match us, hl with | [_, _], _ => rfl
  have F_doors_fault := fun_mk (st := sDoorsF) l_doors_fault c_doors_fault k_doors_fault
  have b_doors_fault := F_doors_fault.binds (ps := ["clocks", "rooms", "doors"]) fun _ _ _ _ _ _ us hl => match us, hl with | [_, _, _], _ => rfl
  have F_fault_of := fun_mk (st := sFault) l_fault_of c_fault_of k_fault_of
  have b_fault_of := F_fault_of.binds (ps := ["clocks", "limits", "doors"]) fun _ _ _ _ _ _ us hl => match us, hl with | [_, _, _], _ => rfl
  have F_without_in := fun_mk (st := sWithoutIn) l_without_in c_without_in k_without_in
  have b_without_in := F_without_in.binds (ps := ["machine", "lot"]) fun _ _ _ _ _ _ us hl => match us, hl with | [_, _], _ => rfl
  have F_require_machine := fun_mk (st := sReqM) l_require_machine c_require_machine k_require_machine
  have b_require_machine := F_require_machine.binds (ps := ["value"]) fun _ _ _ _ _ _ us hl => match us, hl with | [_], _ => rfl
  have F_require_lot := fun_mk (st := sReqLot) l_require_lot c_require_lot k_require_lot
  have b_require_lot := F_require_lot.binds (ps := ["machine", "lot"]) fun _ _ _ _ _ _ us hl => match us, hl with | [_, _], _ => rfl
  have F_without_doors := fun_mk (st := sWithout) l_without_doors c_without_doors k_without_doors
  have b_without_doors := F_without_doors.binds (ps := ["machine", "lot"]) fun _ _ _ _ _ _ us hl => match us, hl with | [_, _], _ => rfl
  have F_keeping_doors := fun_mk (st := sKeeping) l_keeping_doors c_keeping_doors k_keeping_doors
  have b_keeping_doors := F_keeping_doors.binds (ps := ["machine", "clock"]) fun _ _ _ _ _ _ us hl => match us, hl with | [_, _], _ => rfl
  have F_first_ways := fun_mk (st := sFirst) l_first_ways c_first_ways k_first_ways
  have b_first_ways := F_first_ways.binds (ps := ["rows"]) fun _ _ _ _ _ _ us hl => match us, hl with | [_], _ => rfl
  have F_round_from := fun_mk (st := sRound) l_round_from c_round_from k_round_from
  have b_round_from := F_round_from.binds (ps := ["machine", "clock", "room"]) fun _ _ _ _ _ _ us hl => match us, hl with | [_, _, _], _ => rfl
  have F_loose_round_of := fun_mk (st := sLooseOf) l_loose_round_of c_loose_round_of k_loose_round_of
  have b_loose_round_of := F_loose_round_of.binds (ps := ["machine"]) fun _ _ _ _ _ _ us hl => match us, hl with | [_], _ => rfl
  have F_loose_round := fun_mk (st := sLoose) l_loose_round c_loose_round k_loose_round
  have b_loose_round := F_loose_round.binds (ps := ["machine"]) fun _ _ _ _ _ _ us hl => match us, hl with | [_], _ => rfl
  have F_require_room := fun_mk (st := sReqRoom) l_require_room c_require_room k_require_room
  have b_require_room := F_require_room.binds (ps := ["machine", "room"]) fun _ _ _ _ _ _ us hl => match us, hl with | [_, _], _ => rfl
  have F_with_limits := fun_mk (st := sWithLim) l_with_limits c_with_limits k_with_limits
  have b_with_limits := F_with_limits.binds (ps := ["machine", "room", "limits"]) fun _ _ _ _ _ _ us hl => match us, hl with | [_, _, _], _ => rfl
  have F_with_door := fun_mk (st := sWithDoor) l_with_door c_with_door k_with_door
  have b_with_door := F_with_door.binds (ps := ["machine", "door"]) fun _ _ _ _ _ _ us hl => match us, hl with | [_, _], _ => rfl
  have F__law_dice := fun_mk (st := sDice) l__law_dice c__law_dice k__law_dice
  have b__law_dice := F__law_dice.binds (ps := ["_law_script", "_law_spot"]) fun _ _ _ _ _ _ us hl => match us, hl with | [_, _], _ => rfl
  have F__law_roll := fun_mk (st := sRoll) l__law_roll c__law_roll k__law_roll
  have b__law_roll := F__law_roll.binds (ps := ["_law_dice_here", "_law_most"]) fun _ _ _ _ _ _ us hl => match us, hl with | [_, _], _ => rfl
  have F__law_pick := fun_mk (st := sPick) l__law_pick c__law_pick k__law_pick
  have b__law_pick := F__law_pick.binds (ps := ["_law_dice_here", "_law_items"]) fun _ _ _ _ _ _ us hl => match us, hl with | [_, _], _ => rfl
  have F__law_ma_base := fun_mk (st := sBase) l__law_ma_base c__law_ma_base k__law_ma_base
  have b__law_ma_base := F__law_ma_base.binds (ps := []) fun _ _ _ _ _ _ us hl => match us, hl with | [], _ => rfl
  have F__law_ma_guard := fun_mk (st := sMaGuard) l__law_ma_guard c__law_ma_guard k__law_ma_guard
  have b__law_ma_guard := F__law_ma_guard.binds (ps := ["_law_dice_here", "_law_most"]) fun _ _ _ _ _ _ us hl => match us, hl with | [_, _], _ => rfl
  have F__law_ma_lot := fun_mk (st := sMaLot) l__law_ma_lot c__law_ma_lot k__law_ma_lot
  have b__law_ma_lot := F__law_ma_lot.binds (ps := ["_law_dice_here", "_law_clocks"]) fun _ _ _ _ _ _ us hl => match us, hl with | [_, _], _ => rfl
  have F__law_ma_door := fun_mk (st := sMaDoor) l__law_ma_door c__law_ma_door k__law_ma_door
  have b__law_ma_door := F__law_ma_door.binds (ps := ["_law_dice_here", "_law_clocks", "_law_rooms"]) fun _ _ _ _ _ _ us hl => match us, hl with | [_, _, _], _ => rfl
  have F__law_ma_bent_door := fun_mk (st := sBent) l__law_ma_bent_door c__law_ma_bent_door k__law_ma_bent_door
  have b__law_ma_bent_door := F__law_ma_bent_door.binds (ps := ["_law_dice_here", "_law_door", "_law_clocks", "_law_rooms"]) fun _ _ _ _ _ _ us hl => match us, hl with | [_, _, _, _], _ => rfl
  have F__law_ma_drawn := fun_mk (st := sMaDrawn) l__law_ma_drawn c__law_ma_drawn k__law_ma_drawn
  have b__law_ma_drawn := F__law_ma_drawn.binds (ps := ["_law_dice_here"]) fun _ _ _ _ _ _ us hl => match us, hl with | [_], _ => rfl
  have F__law_mm_drawn := fun_mk (st := sMmDrawn) l__law_mm_drawn c__law_mm_drawn k__law_mm_drawn
  have b__law_mm_drawn := F__law_mm_drawn.binds (ps := ["_law_dice_here"]) fun _ _ _ _ _ _ us hl => match us, hl with | [_], _ => rfl
  have F__law_is := fun_mk (st := sIs) l__law_is c__law_is k__law_is
  have b__law_is := F__law_is.binds (ps := ["_law_machine", "_law_told"]) fun _ _ _ _ _ _ us hl => match us, hl with | [_, _], _ => rfl
  have F__law_changed := fun_mk (st := sChanged) l__law_changed c__law_changed k__law_changed
  have b__law_changed := F__law_changed.binds (ps := ["_law_dice_here", "_law_machine", "_law_told"]) fun _ _ _ _ _ _ us hl => match us, hl with | [_, _, _], _ => rfl
  have F__law_right := fun_mk (st := sRight) l__law_right c__law_right k__law_right
  have b__law_right := F__law_right.binds (ps := ["_law_dice_here"]) fun _ _ _ _ _ _ us hl => match us, hl with | [_], _ => rfl
  have F_law := fun_mk (st := sLaw) l_law c_law k_law
  refine ⟨PySem.W.fnOf "law" "law" (defArgs sLaw) (defBody sLaw) (defScope sLaw) .none kV_law dc_law pm_law an_law cd_law ct_law, fun s v => .of_eq rfl, fun base _ _ => ?_⟩
  have d_is_whole : DefU l.prog w K mg base 1 "is_whole" ["value"] spWhole := ⟨_, _, ok_whole F_is_whole G, mg_of X GN a_is_whole, k_is_whole, b_is_whole⟩
  have d_is_from : DefU l.prog w K mg base 2 "is_from" ["value", "least", "most"] spFrom := ⟨_, _, ok_from F_is_from d_is_whole, mg_of X GN a_is_from, k_is_from, b_is_from⟩
  have d_require_from : DefU l.prog w K mg base 3 "require_from" ["value", "least", "most"] spReqFrom := ⟨_, _, ok_reqFrom F_require_from d_is_from, mg_of X GN a_require_from, k_require_from, b_require_from⟩
  have d_are_limits : DefU l.prog w K mg base 3 "are_limits" ["clocks", "value"] (spLimits K) := ⟨_, _, ok_limits F_are_limits G d_is_from, mg_of X GN a_are_limits, k_are_limits, b_are_limits⟩
  have d_is_guard : DefU l.prog w K mg base 3 "is_guard" ["value"] (spGuard K) := ⟨_, _, ok_guard F_is_guard G d_is_from, mg_of X GN a_is_guard, k_is_guard, b_is_guard⟩
  have d_are_guards : DefU l.prog w K mg base 4 "are_guards" ["clocks", "value"] (spGuards K) := ⟨_, _, ok_guards F_are_guards G d_is_guard, mg_of X GN a_are_guards, k_are_guards, b_are_guards⟩
  have d_is_ascending : DefU l.prog w K mg base 3 "is_ascending" ["value", "many"] (spAsc K) := ⟨_, _, ok_asc F_is_ascending G d_is_from, mg_of X GN a_is_ascending, k_is_ascending, b_is_ascending⟩
  have d_is_door_in : DefU l.prog w K mg base 5 "is_door_in" ["clocks", "rooms", "value"] (spDoorIn K) := ⟨_, _, ok_doorIn F_is_door_in G d_is_from d_are_guards d_is_ascending, mg_of X GN a_is_door_in, k_is_door_in, b_is_door_in⟩
  have d_rooms_fault : DefU l.prog w K mg base 4 "rooms_fault" ["clocks", "limits"] (spRoomsF K) := ⟨_, _, ok_roomsF F_rooms_fault G d_are_limits, mg_of X GN a_rooms_fault, k_rooms_fault, b_rooms_fault⟩
  have d_doors_fault : DefU l.prog w K mg base 6 "doors_fault" ["clocks", "rooms", "doors"] (spDoorsF K) := ⟨_, _, ok_doorsF F_doors_fault G d_is_door_in, mg_of X GN a_doors_fault, k_doors_fault, b_doors_fault⟩
  have d_fault_of : DefU l.prog w K mg base 7 "fault_of" ["clocks", "limits", "doors"] (spFault K) := ⟨_, _, ok_fault F_fault_of G d_is_from d_rooms_fault d_doors_fault, mg_of X GN a_fault_of, k_fault_of, b_fault_of⟩
  have FI : FnU l.prog w K mg base 8 fI _ ["self", "clocks", "limits", "doors"] (spInit K C) := ok_init FI T d_fault_of
  have d_without_in : DefU l.prog w K mg base 10 "without_in" ["machine", "lot"] (spWithoutIn K C) := ⟨_, _, ok_withoutIn F_without_in G T M FI bI, mg_of X GN a_without_in, k_without_in, b_without_in⟩
  have d_require_machine : DefU l.prog w K mg base 1 "require_machine" ["value"] (spReqM K C) := ⟨_, _, ok_reqM F_require_machine G T, mg_of X GN a_require_machine, k_require_machine, b_require_machine⟩
  have d_require_lot : DefU l.prog w K mg base 4 "require_lot" ["machine", "lot"] (spReqLot K C) := ⟨_, _, ok_reqLot F_require_lot G T d_is_ascending, mg_of X GN a_require_lot, k_require_lot, b_require_lot⟩
  have d_without_doors : DefU l.prog w K mg base 11 "without_doors" ["machine", "lot"] (spWithout K C) := ⟨_, _, ok_without F_without_doors d_require_machine d_require_lot d_without_in, mg_of X GN a_without_doors, k_without_doors, b_without_doors⟩
  have d_keeping_doors : DefC l.prog w K mg base 1 "keeping_doors" ["machine", "clock"] (spKeeping K C) := ⟨_, _, ok_keeping F_keeping_doors G T, mg_of X GN a_keeping_doors, k_keeping_doors, b_keeping_doors⟩
  have d_first_ways : DefC l.prog w K mg base 1 "first_ways" ["rows"] (spFirst K) := ⟨_, _, ok_first F_first_ways, mg_of X GN a_first_ways, k_first_ways, b_first_ways⟩
  have d_round_from : DefC l.prog w K mg base 2 "round_from" ["machine", "clock", "room"] (spRound K C) := ⟨_, _, ok_round F_round_from G T d_keeping_doors d_first_ways, mg_of X GN a_round_from, k_round_from, b_round_from⟩
  have d_loose_round_of : DefC l.prog w K mg base 3 "loose_round_of" ["machine"] (spLoose K C) := ⟨_, _, ok_looseOf F_loose_round_of G T d_round_from, mg_of X GN a_loose_round_of, k_loose_round_of, b_loose_round_of⟩
  have d_loose_round : DefC l.prog w K mg base 4 "loose_round" ["machine"] (spLoose K C) := ⟨_, _, ok_loose F_loose_round d_require_machine d_loose_round_of, mg_of X GN a_loose_round, k_loose_round, b_loose_round⟩
  have d_require_room : DefC l.prog w K mg base 4 "require_room" ["machine", "room"] (spReqRoom K C) := ⟨_, _, ok_reqRoom F_require_room G T d_require_from, mg_of X GN a_require_room, k_require_room, b_require_room⟩
  have d_with_limits : DefC l.prog w K mg base 10 "with_limits" ["machine", "room", "limits"] (spWithLim K C) := ⟨_, _, ok_withLim F_with_limits G T d_require_machine d_require_room d_are_limits M FI bI, mg_of X GN a_with_limits, k_with_limits, b_with_limits⟩
  have d_with_door : DefN l.prog w K mg base 10 "with_door" ["machine", "door"] (spWithDoor K C CT) := ⟨_, _, ok_withDoor F_with_door G T TM d_require_machine d_is_door_in M FI bI, mg_of X GN a_with_door, k_with_door, b_with_door⟩
  have d__law_dice : DefC l.prog w K mg base 1 "_law_dice" ["_law_script", "_law_spot"] (spDice K) := ⟨_, _, ok_dice F__law_dice G, mg_of X GN a__law_dice, k__law_dice, b__law_dice⟩
  have d__law_roll : DefC l.prog w K mg base 1 "_law_roll" ["_law_dice_here", "_law_most"] spRoll := ⟨_, _, ok_roll F__law_roll G, mg_of X GN a__law_roll, k__law_roll, b__law_roll⟩
  have d__law_pick : DefC l.prog w K mg base 2 "_law_pick" ["_law_dice_here", "_law_items"] spPick := ⟨_, _, ok_pick F__law_pick G d__law_roll, mg_of X GN a__law_pick, k__law_pick, b__law_pick⟩
  have d__law_ma_base : DefC l.prog w K mg base 1 "_law_ma_base" [] (spMaBase K) := ⟨_, _, ok_maBase F__law_ma_base G, mg_of X GN a__law_ma_base, k__law_ma_base, b__law_ma_base⟩
  have d__law_ma_guard : DefC l.prog w K mg base 2 "_law_ma_guard" ["_law_dice_here", "_law_most"] (spMaGuard K) := ⟨_, _, ok_maGuard F__law_ma_guard d__law_roll, mg_of X GN a__law_ma_guard, k__law_ma_guard, b__law_ma_guard⟩
  have d__law_ma_lot : DefC l.prog w K mg base 2 "_law_ma_lot" ["_law_dice_here", "_law_clocks"] (spMaLot K) := ⟨_, _, ok_maLot F__law_ma_lot G d__law_roll, mg_of X GN a__law_ma_lot, k__law_ma_lot, b__law_ma_lot⟩
  have d__law_ma_door : DefC l.prog w K mg base 3 "_law_ma_door" ["_law_dice_here", "_law_clocks", "_law_rooms"] (spMaDoor K) := ⟨_, _, ok_maDoor F__law_ma_door G d__law_roll d__law_ma_guard d__law_ma_lot, mg_of X GN a__law_ma_door, k__law_ma_door, b__law_ma_door⟩
  have d__law_ma_bent_door : DefC l.prog w K mg base 3 "_law_ma_bent_door" ["_law_dice_here", "_law_door", "_law_clocks", "_law_rooms"] (spBent K) := ⟨_, _, ok_bent F__law_ma_bent_door G d__law_roll d__law_pick, mg_of X GN a__law_ma_bent_door, k__law_ma_bent_door, b__law_ma_bent_door⟩
  have d__law_ma_drawn : DefC l.prog w K mg base 4 "_law_ma_drawn" ["_law_dice_here"] (spDrawn K 8) := ⟨_, _, ok_drawn F__law_ma_drawn G d__law_roll d__law_pick d__law_ma_base d__law_ma_door d__law_ma_bent_door, mg_of X GN a__law_ma_drawn, k__law_ma_drawn, b__law_ma_drawn⟩
  have d__law_mm_drawn : DefC l.prog w K mg base 5 "_law_mm_drawn" ["_law_dice_here"] (spDrawn K 8) := ⟨_, _, ok_mm F__law_mm_drawn G d__law_roll d__law_ma_drawn d__law_ma_door, mg_of X GN a__law_mm_drawn, k__law_mm_drawn, b__law_mm_drawn⟩
  have E : EqF l.prog w K mg base C := ⟨ne, _, _, aE, iE, ok_eq FE G T, bE⟩
  have pc : PropF l.prog w K mg base C "clocks" (spPc K C) := ⟨_, _, _, pa_clocks, pg_clocks, pt_clocks, ⟨_, pr_clocks⟩, ok_pc FPclocks T, bPclocks⟩
  have pl : PropF l.prog w K mg base C "limits" (spPl K C) := ⟨_, _, _, pa_limits, pg_limits, pt_limits, ⟨_, pr_limits⟩, ok_pl FPlimits T, bPlimits⟩
  have pd : PropF l.prog w K mg base C "doors" (spPd K C) := ⟨_, _, _, pa_doors, pg_doors, pt_doors, ⟨_, pr_doors⟩, ok_pd FPdoors T, bPdoors⟩
  have d__law_is : DefC l.prog w K mg base 10 "_law_is" ["_law_machine", "_law_told"] (spIs K C) := ⟨_, _, ok_is F__law_is T M FI bI pc pl pd E, mg_of X GN a__law_is, k__law_is, b__law_is⟩
  have d__law_changed : DefC l.prog w K mg base 12 "_law_changed" ["_law_dice_here", "_law_machine", "_law_told"] (spChanged K C) := ⟨_, _, ok_changed F__law_changed G d__law_roll d__law_ma_door d_with_door d_without_doors d_with_limits, mg_of X GN a__law_changed, k__law_changed, b__law_changed⟩
  have d__law_right : DefC l.prog w K mg base 13 "_law_right" ["_law_dice_here"] spRight := ⟨_, _, ok_right F__law_right G T M FI bI pd E d__law_roll d__law_mm_drawn d__law_ma_door d__law_is d__law_changed d_loose_round d_with_door d_without_doors, mg_of X GN a__law_right, k__law_right, b__law_right⟩
  exact ok_law F_law G T M FI bI E TX d__law_dice d__law_right d_with_door d_without_doors
theorem walk {l : OpenLaw} {q : Program} {loose : List Str} {XP : (Str → Option Value) → Heap → Prop} {YP : World → Heap → Prop} {d : DefRec} {K : Params → Frag} (hn : l.most = some 63) (hdf : d.params.defaults = [])
    (hY : ∀ (w : World) (h : Heap), YP w h → (K w.params).In h)
    (F : ∀ (w : World) (mg : Str → Option Value) (fa : Addr) (h : Heap), (K w.params).In h → h.Ns mainGlobals mg → mg d.name = some (.ref fa) →
      ∃ fd : FuncData, (∀ (s : Shared) (u : Value), BindsTo s fd ⟨[u], []⟩ [("_law_script", u)]) ∧ ∀ base : Heap, (K w.params).In base → base.Ns mainGlobals mg → FnOk l.prog w (K w.params) mg base CX0 14 fa fd ["_law_script"] (toSp (spLaw (K w.params)))) :
    WalkO q loose XP YP l.row.toRowW d [] (fun f vs => PySem.call f vs) :=
  L2.walk_of (n := 63) (k := 14) (x := "_law_script") (CX := fun _ => CX0) (sp := fun w => toSp (spLaw (K w.params))) hn (by decide) hdf ⟨rfl, by decide, by decide⟩ hY F (fun _ _ a ns hl _ hS => ⟨a, ns, rfl, hS, hl, fun _ => rfl⟩) fun _ _ _ _ _ z => z
end K26

end PartZ0

open PySem PySem.W PyProof.Rows
set_option maxRecDepth 100000 in
set_option maxHeartbeats 0 in
theorem PySem.Challenge.cw_anymargin_k26_whole_changed_machines_holds : PySem.Challenge.rw_anymargin_k26_whole_changed_machines.Holds := by
  w_on; o_law; k_head; (case hw => w_witness2)
  k_fill
  refine K26.walk (l := PySem.Challenge.rw_anymargin_k26_whole_changed_machines) rfl rfl (fun w h Y => PySem.W.kIn_of Y) ?F
  case F =>
    intro w mg fa h KX G hmg
    replace hmg : mg "law" = some (.ref fa) := hmg
    refine' K26.all_mk KX G hmg ?aC ?aT ?n_isinstance ?n_len ?n_all ?n_enumerate ?n_zip ?n_range ?n_int ?n_bool ?n_tuple ?n_list ?n_abs ?n_max ?n_min ?n_super ?m_MOST_CLOCKS ?m_MOST_ROOMS ?m_MOST_DOORS ?m_MOST_NUMBER ?m_PAIR ?m_DOOR_SIZE ?pg ?ic ?po ?sa ?ca ?cn ?ctk ?cm ?nf ?mkC ?kcC ?ne ?sa0 ?sg0 ?st0 ?sy0 ?sx0 ?sa1 ?sg1 ?st1 ?sy1 ?sx1 ?sa2 ?sg2 ?st2 ?sy2 ?sx2 ?aI ?lI ?cI ?kI ?iI ?aE ?lE ?cE ?kE ?iE ?pa_clocks ?pg_clocks ?pt_clocks ?pr_clocks ?lPclocks ?cPclocks ?kPclocks ?pa_limits ?pg_limits ?pt_limits ?pr_limits ?lPlimits ?cPlimits ?kPlimits ?pa_doors ?pg_doors ?pt_doors ?pr_doors ?lPdoors ?cPdoors ?kPdoors ?a_is_whole ?l_is_whole ?c_is_whole ?k_is_whole ?a_is_from ?l_is_from ?c_is_from ?k_is_from ?a_require_from ?l_require_from ?c_require_from ?k_require_from ?a_are_limits ?l_are_limits ?c_are_limits ?k_are_limits ?a_is_guard ?l_is_guard ?c_is_guard ?k_is_guard ?a_are_guards ?l_are_guards ?c_are_guards ?k_are_guards ?a_is_ascending ?l_is_ascending ?c_is_ascending ?k_is_ascending ?a_is_door_in ?l_is_door_in ?c_is_door_in ?k_is_door_in ?a_rooms_fault ?l_rooms_fault ?c_rooms_fault ?k_rooms_fault ?a_doors_fault ?l_doors_fault ?c_doors_fault ?k_doors_fault ?a_fault_of ?l_fault_of ?c_fault_of ?k_fault_of ?a_without_in ?l_without_in ?c_without_in ?k_without_in ?a_require_machine ?l_require_machine ?c_require_machine ?k_require_machine ?a_require_lot ?l_require_lot ?c_require_lot ?k_require_lot ?a_without_doors ?l_without_doors ?c_without_doors ?k_without_doors ?a_keeping_doors ?l_keeping_doors ?c_keeping_doors ?k_keeping_doors ?a_first_ways ?l_first_ways ?c_first_ways ?k_first_ways ?a_round_from ?l_round_from ?c_round_from ?k_round_from ?a_loose_round_of ?l_loose_round_of ?c_loose_round_of ?k_loose_round_of ?a_loose_round ?l_loose_round ?c_loose_round ?k_loose_round ?a_require_room ?l_require_room ?c_require_room ?k_require_room ?a_with_limits ?l_with_limits ?c_with_limits ?k_with_limits ?a_with_door ?l_with_door ?c_with_door ?k_with_door ?a__law_dice ?l__law_dice ?c__law_dice ?k__law_dice ?a__law_roll ?l__law_roll ?c__law_roll ?k__law_roll ?a__law_pick ?l__law_pick ?c__law_pick ?k__law_pick ?a__law_ma_base ?l__law_ma_base ?c__law_ma_base ?k__law_ma_base ?a__law_ma_guard ?l__law_ma_guard ?c__law_ma_guard ?k__law_ma_guard ?a__law_ma_lot ?l__law_ma_lot ?c__law_ma_lot ?k__law_ma_lot ?a__law_ma_door ?l__law_ma_door ?c__law_ma_door ?k__law_ma_door ?a__law_ma_bent_door ?l__law_ma_bent_door ?c__law_ma_bent_door ?k__law_ma_bent_door ?a__law_ma_drawn ?l__law_ma_drawn ?c__law_ma_drawn ?k__law_ma_drawn ?a__law_mm_drawn ?l__law_mm_drawn ?c__law_mm_drawn ?k__law_mm_drawn ?a__law_is ?l__law_is ?c__law_is ?k__law_is ?a__law_changed ?l__law_changed ?c__law_changed ?k__law_changed ?a__law_right ?l__law_right ?c__law_right ?k__law_right ?a_law ?l_law ?c_law ?k_law ?tkC ?tq ?tov ?tsa ?tno ?thd ?tiC ?tfn ?tsu ?tsB ?tst ?texC ?ttyC ?tic ?tmm ?tl ?tcd ?tlc ?tvf ?tff ?tcc ?ttop ?tga ?tgg ?tnl ?tss
    (case aC => k_is)
    (case aT => k_is)
    (case n_isinstance => k_is)
    (case n_len => k_is)
    (case n_all => k_is)
    (case n_enumerate => k_is)
    (case n_zip => k_is)
    (case n_range => k_is)
    (case n_int => k_is)
    (case n_bool => k_is)
    (case n_tuple => k_is)
    (case n_list => k_is)
    (case n_abs => k_is)
    (case n_max => k_is)
    (case n_min => k_is)
    (case n_super => k_is)
    (case m_MOST_CLOCKS => k_is)
    (case m_MOST_ROOMS => k_is)
    (case m_MOST_DOORS => k_is)
    (case m_MOST_NUMBER => k_is)
    (case m_PAIR => k_is)
    (case m_DOOR_SIZE => k_is)
    (case pg => k_is)
    (case ic => k_is)
    (case po => k_is)
    (case sa => k_is)
    (case ca => k_is)
    (case cn => k_is)
    (case ctk => k_is)
    (case cm => k_is)
    (case nf => k_is)
    (case mkC => k_is)
    (case kcC => k_is)
    (case ne => k_is)
    (case sa0 => k_is)
    (case sg0 => k_is)
    (case st0 => k_is)
    (case sy0 => k_is)
    (case sx0 => k_is)
    (case sa1 => k_is)
    (case sg1 => k_is)
    (case st1 => k_is)
    (case sy1 => k_is)
    (case sx1 => k_is)
    (case sa2 => k_is)
    (case sg2 => k_is)
    (case st2 => k_is)
    (case sy2 => k_is)
    (case sx2 => k_is)
    (case aI => k_is)
    (case lI => k_is)
    (case cI => k_is)
    (case kI => k_is)
    (case iI => k_is)
    (case aE => k_is)
    (case lE => k_is)
    (case cE => k_is)
    (case kE => k_is)
    (case iE => k_is)
    (case pa_clocks => k_is)
    (case pg_clocks => k_is)
    (case pt_clocks => k_is)
    (case pr_clocks => k_is)
    (case lPclocks => k_is)
    (case cPclocks => k_is)
    (case kPclocks => k_is)
    (case pa_limits => k_is)
    (case pg_limits => k_is)
    (case pt_limits => k_is)
    (case pr_limits => k_is)
    (case lPlimits => k_is)
    (case cPlimits => k_is)
    (case kPlimits => k_is)
    (case pa_doors => k_is)
    (case pg_doors => k_is)
    (case pt_doors => k_is)
    (case pr_doors => k_is)
    (case lPdoors => k_is)
    (case cPdoors => k_is)
    (case kPdoors => k_is)
    (case a_is_whole => k_is)
    (case l_is_whole => k_is)
    (case c_is_whole => k_is)
    (case k_is_whole => k_is)
    (case a_is_from => k_is)
    (case l_is_from => k_is)
    (case c_is_from => k_is)
    (case k_is_from => k_is)
    (case a_require_from => k_is)
    (case l_require_from => k_is)
    (case c_require_from => k_is)
    (case k_require_from => k_is)
    (case a_are_limits => k_is)
    (case l_are_limits => k_is)
    (case c_are_limits => k_is)
    (case k_are_limits => k_is)
    (case a_is_guard => k_is)
    (case l_is_guard => k_is)
    (case c_is_guard => k_is)
    (case k_is_guard => k_is)
    (case a_are_guards => k_is)
    (case l_are_guards => k_is)
    (case c_are_guards => k_is)
    (case k_are_guards => k_is)
    (case a_is_ascending => k_is)
    (case l_is_ascending => k_is)
    (case c_is_ascending => k_is)
    (case k_is_ascending => k_is)
    (case a_is_door_in => k_is)
    (case l_is_door_in => k_is)
    (case c_is_door_in => k_is)
    (case k_is_door_in => k_is)
    (case a_rooms_fault => k_is)
    (case l_rooms_fault => k_is)
    (case c_rooms_fault => k_is)
    (case k_rooms_fault => k_is)
    (case a_doors_fault => k_is)
    (case l_doors_fault => k_is)
    (case c_doors_fault => k_is)
    (case k_doors_fault => k_is)
    (case a_fault_of => k_is)
    (case l_fault_of => k_is)
    (case c_fault_of => k_is)
    (case k_fault_of => k_is)
    (case a_without_in => k_is)
    (case l_without_in => k_is)
    (case c_without_in => k_is)
    (case k_without_in => k_is)
    (case a_require_machine => k_is)
    (case l_require_machine => k_is)
    (case c_require_machine => k_is)
    (case k_require_machine => k_is)
    (case a_require_lot => k_is)
    (case l_require_lot => k_is)
    (case c_require_lot => k_is)
    (case k_require_lot => k_is)
    (case a_without_doors => k_is)
    (case l_without_doors => k_is)
    (case c_without_doors => k_is)
    (case k_without_doors => k_is)
    (case a_keeping_doors => k_is)
    (case l_keeping_doors => k_is)
    (case c_keeping_doors => k_is)
    (case k_keeping_doors => k_is)
    (case a_first_ways => k_is)
    (case l_first_ways => k_is)
    (case c_first_ways => k_is)
    (case k_first_ways => k_is)
    (case a_round_from => k_is)
    (case l_round_from => k_is)
    (case c_round_from => k_is)
    (case k_round_from => k_is)
    (case a_loose_round_of => k_is)
    (case l_loose_round_of => k_is)
    (case c_loose_round_of => k_is)
    (case k_loose_round_of => k_is)
    (case a_loose_round => k_is)
    (case l_loose_round => k_is)
    (case c_loose_round => k_is)
    (case k_loose_round => k_is)
    (case a_require_room => k_is)
    (case l_require_room => k_is)
    (case c_require_room => k_is)
    (case k_require_room => k_is)
    (case a_with_limits => k_is)
    (case l_with_limits => k_is)
    (case c_with_limits => k_is)
    (case k_with_limits => k_is)
    (case a_with_door => k_is)
    (case l_with_door => k_is)
    (case c_with_door => k_is)
    (case k_with_door => k_is)
    (case a__law_dice => k_is)
    (case l__law_dice => k_is)
    (case c__law_dice => k_is)
    (case k__law_dice => k_is)
    (case a__law_roll => k_is)
    (case l__law_roll => k_is)
    (case c__law_roll => k_is)
    (case k__law_roll => k_is)
    (case a__law_pick => k_is)
    (case l__law_pick => k_is)
    (case c__law_pick => k_is)
    (case k__law_pick => k_is)
    (case a__law_ma_base => k_is)
    (case l__law_ma_base => k_is)
    (case c__law_ma_base => k_is)
    (case k__law_ma_base => k_is)
    (case a__law_ma_guard => k_is)
    (case l__law_ma_guard => k_is)
    (case c__law_ma_guard => k_is)
    (case k__law_ma_guard => k_is)
    (case a__law_ma_lot => k_is)
    (case l__law_ma_lot => k_is)
    (case c__law_ma_lot => k_is)
    (case k__law_ma_lot => k_is)
    (case a__law_ma_door => k_is)
    (case l__law_ma_door => k_is)
    (case c__law_ma_door => k_is)
    (case k__law_ma_door => k_is)
    (case a__law_ma_bent_door => k_is)
    (case l__law_ma_bent_door => k_is)
    (case c__law_ma_bent_door => k_is)
    (case k__law_ma_bent_door => k_is)
    (case a__law_ma_drawn => k_is)
    (case l__law_ma_drawn => k_is)
    (case c__law_ma_drawn => k_is)
    (case k__law_ma_drawn => k_is)
    (case a__law_mm_drawn => k_is)
    (case l__law_mm_drawn => k_is)
    (case c__law_mm_drawn => k_is)
    (case k__law_mm_drawn => k_is)
    (case a__law_is => k_is)
    (case l__law_is => k_is)
    (case c__law_is => k_is)
    (case k__law_is => k_is)
    (case a__law_changed => k_is)
    (case l__law_changed => k_is)
    (case c__law_changed => k_is)
    (case k__law_changed => k_is)
    (case a__law_right => k_is)
    (case l__law_right => k_is)
    (case c__law_right => k_is)
    (case k__law_right => k_is)
    (case a_law => k_is)
    (case l_law => k_is)
    (case c_law => k_is)
    (case k_law => k_is)
    (case tkC => k_is)
    (case tq => kx_is)
    (case tov => kx_is)
    (case tsa => k_is)
    (case tno => k_is)
    (case thd => k_is)
    (case tiC => k_is)
    (case tfn => k_is)
    (case tsu => ks_is)
    (case tsB => k_is)
    (case tst => k_is)
    (case texC => k_is)
    (case ttyC => k_is)
    (case tic => k_is)
    (case tmm => k_is)
    (case tl => k_is)
    (case tcd => k_is)
    (case tlc => k_is)
    (case tvf => rfl)
    (case tff => first | rfl | decide +kernel)
    (case tcc => k_is)
    (case ttop => exact K26.z_top)
    (case tga => k_is)
    (case tgg => k_is)
    (case tnl => k_is)
    (case tss => first | k_is | rfl)
