import PyProof.Rows.All
import Wide.All
import OpenK.AllK
import Wide.FinOn
import PySem.Challenge.RW_xm0574_01
open PySem PySem.W PySem.W.X PySem.Spec PySem.Calls PyProof.Rows
set_option Elab.async false
set_option linter.unusedVariables false
set_option linter.unusedSimpArgs false
set_option maxRecDepth 100000
set_option maxHeartbeats 8000000
namespace Mine
-- part Top0
open_top hd for PySem.Challenge.rw_xm0574_01
local macro_rules | `(tactic| walk_at $s:str) => `(tactic| k_extra $(Lean.Syntax.mkStrLit ("@" ++ s.getString)))
theorem topOff : True := by
  w_top off
  trivial
-- part Z0
abbrev zipO (f0 f1 : Value) (TI TO : Addr) : Obj := { cls := .type "zip", dict := none, data := .fields #[f0, f1, .bool false, .ref TI, .ref TO], slots := #[] }

section
variable {prog : Program} {w : World} {A : Around} {E : Value → Shared → Prop} {s : Shared}

theorem next_tup {it t : Addr} {i : Nat} {items : Array Value} {x : Value} {Q : Value → Shared → Prop} (hit : s.heap.IsTupleIter it t i)
    (ht : s.heap.IsTuple t items) (hx : items[i]? = some x)
    (hQ : ∀ h', h'.IsTupleIter it t (i + 1) → Heap.SameBut it s.heap h' → Q x { s with heap := h' }) :
    wpAny (model prog w) A (Builtin.SmallTypes.nextOf (.ref it)) Q E s := by
  obtain ⟨o, ho, hc, hd⟩ := id hit
  obtain ⟨ol, hol, _, nl, hdl⟩ := ht
  unfold Builtin.SmallTypes.nextOf
  refine wpAny_bind (wpAny_callSpecial?_slot (name := Str.ofString "__next__") hit.typeIs F.slot_tuple_iterator_next
    (wpAny_call_entry F.slot_tuple_iterator_next hit.typeIs F.entry_tuple_iterator_next ?_ (F.args_tuple_iterator_next_1 _)))
  show wpAny _ _ (field (.ref it) 0 >>= _) _ _ s
  refine wpAny_bind (wpAny_field ho hd (x := .ref t) rfl ?_)
  show wpAny _ _ (if (Value.ref t == Value.none) = true then _ else _) _ _ s
  rw [if_neg (show ¬ ((Value.ref t == Value.none) = true) from Bool.false_ne_true)]
  show wpAny _ _ (field (.ref it) 1 >>= _) _ _ s
  refine wpAny_bind (wpAny_field ho hd (x := .int i 0) rfl ?_)
  show wpAny _ _ (seqItems? (.ref t) >>= _) _ _ s
  refine wpAny_bind (wpAny_seqItems hol hdl ?_)
  simp only [Int.toNat_natCast, hx]
  refine wpAny_bind (wpAny_setField ho hd (by simp) (wpAny_pure ⟨x, rfl, wpAny_pure (hQ _ ?_ (Heap.SameBut.update ..))⟩))
  exact ⟨_, Heap.get?_update_self _ ho (Obj.isFreed_of_fields (Obj.data_mapFields hd _)), (Obj.cls_mapFields ..).trans hc, by
    rw [Obj.data_mapFields hd]; simp [rawInt]⟩

theorem next_tup_end {it t : Addr} {i : Nat} {items : Array Value} {Q : Value → Shared → Prop} (hh : A.handled = none)
    (hit : s.heap.IsTupleIter it t i) (ht : s.heap.IsTuple t items) (hx : items[i]? = none)
    (hE : ∀ h' e, Heap.ExtBut it s.heap h' → (∃ o, h'.get? e = some o ∧ o.cls = .type "StopIteration") → E (.ref e) { s with heap := h' }) :
    wpAny (model prog w) A (Builtin.SmallTypes.nextOf (.ref it)) Q E s := by
  obtain ⟨o, ho, hc, hd⟩ := id hit
  obtain ⟨ol, hol, _, nl, hdl⟩ := ht
  unfold Builtin.SmallTypes.nextOf
  refine wpAny_bind (wpAny_callSpecial?_slot (name := Str.ofString "__next__") hit.typeIs F.slot_tuple_iterator_next
    (wpAny_call_entry F.slot_tuple_iterator_next hit.typeIs F.entry_tuple_iterator_next ?_ (F.args_tuple_iterator_next_1 _)))
  show wpAny _ _ (field (.ref it) 0 >>= _) _ _ s
  refine wpAny_bind (wpAny_field ho hd (x := .ref t) rfl ?_)
  show wpAny _ _ (if (Value.ref t == Value.none) = true then _ else _) _ _ s
  rw [if_neg (show ¬ ((Value.ref t == Value.none) = true) from Bool.false_ne_true)]
  show wpAny _ _ (field (.ref it) 1 >>= _) _ _ s
  refine wpAny_bind (wpAny_field ho hd (x := .int i 0) rfl ?_)
  show wpAny _ _ (seqItems? (.ref t) >>= _) _ _ s
  refine wpAny_bind (wpAny_seqItems hol hdl ?_)
  simp only [Int.toNat_natCast, hx]
  refine wpAny_bind (wpAny_rule (wpAny_bind (wpAny_setField ho hd (by simp) ?_)))
  show wpAny _ _ (newExc (.type "StopIteration") [] >>= _) _ _ _
  refine wpAny_bind ?_
  simp only [newExc, newTuple]
  refine wpAny_bind (wpAny_newObj_type ?_ (by size_fits))
  refine wpAny_bind (m := firstArgMember _ _) (wpAny_of_eq (a := Value.none) (by first | rfl | (simp only [firstArgMember]; rfl)) ?_)
  refine wpAny_newObj_type ?_ (by size_fits)
  simp only [raiseNew]
  refine wpAny_bind (wpAny_handled ?_)
  first | rw [show A.in1.handled = none from hh] | rw [hh]
  refine wpAny_bind (wpAny_pure (wpAny_throw ?_))
  exact hE _ _ (((Heap.SameBut.update ..).extBut.push _).push _) ⟨_, Heap.get?_push_size _ rfl, rfl⟩

theorem loadAlive {a : Addr} {o : Obj} {Q : Option Obj → Shared → Prop} (ho : s.heap.get? a = some o) (h : Q (some o) s) : wpAny (model prog w) A (loadIfAlive a) Q E s := by
  intro Γ p _
  show Sem.wp (model prog w) Γ (.loadIfAlive a .pure) _ _ p s
  rw [Sem.wp_loadIfAlive, ho]
  exact h

theorem owned_held {z TI TO T : Addr} {f1 : Value} {oT : Obj} {Q : Bool → Shared → Prop}
    (hz : s.heap.get? z = some (zipO (rawInt T) f1 TI TO)) (hT : s.heap.get? T = some oT) (hf : f1 = .bool false ∨ f1 = .bool true)
    (hQ : ∀ h', h'.get? z = some (zipO (rawInt T) (.bool true) TI TO) → Heap.SameBut z s.heap h' → Q false { s with heap := h' }) :
    wpAny (model prog w) A (Builtin.SmallTypes.ownedTupleIsFree (.ref z)) Q E s := by
  unfold Builtin.SmallTypes.ownedTupleIsFree
  refine wpAny_bind (wpAny_field hz rfl (x := rawInt T) rfl ?_)
  show wpAny _ _ (loadIfAlive (Int.toNat (T : Int)) >>= _) _ _ _
  rw [Int.toNat_natCast]
  refine wpAny_bind (loadAlive hT ?_)
  show wpAny _ _ (field (.ref z) 1 >>= _) _ _ _
  refine wpAny_bind (wpAny_field hz rfl (x := f1) rfl ?_)
  rcases hf with rfl | rfl
  · show wpAny _ _ (setField (.ref z) 1 (.bool true) >>= _) _ _ _
    refine wpAny_bind (wpAny_setField_rec hz (by simp) fun h₁ hz₁ hs₁ => ?_)
    exact wpAny_pure (hQ h₁ hz₁ hs₁)
  · exact wpAny_pure (hQ s.heap hz ⟨rfl, fun _ _ => rfl⟩)

/-- the next pair, the last one still held -/
theorem zip_held {z TI TO i1 i2 t1 t2 T : Addr} {k1 k2 : Nat} {xs ys : Array Value} {x y f1 : Value} {oT : Obj} {Q : Value → Shared → Prop}
    (hz : s.heap.get? z = some (zipO (rawInt T) f1 TI TO)) (hT : s.heap.get? T = some oT) (hTI : IsPair s.heap TI (.ref i1) (.ref i2)) (hf : f1 = .bool false ∨ f1 = .bool true)
    (h1 : s.heap.IsTupleIter i1 t1 k1) (h2 : s.heap.IsTupleIter i2 t2 k2) (hl1 : s.heap.IsTuple t1 xs) (hl2 : s.heap.IsTuple t2 ys) (hx : xs[k1]? = some x) (hy : ys[k2]? = some y)
    (D1 : i1 ≠ z) (D2 : i2 ≠ z) (D3 : i1 ≠ i2) (D5 : t1 ≠ z) (D6 : t2 ≠ z) (D8 : t2 ≠ i1)
    (hQ : ∀ h', h'.get? z = some (zipO (rawInt T) (.bool true) TI TO) → h'.IsTupleIter i1 t1 (k1 + 1) → h'.IsTupleIter i2 t2 (k2 + 1) → IsPair h' s.heap.objs.size x y → h'.objs.size = s.heap.objs.size + 1 →
      (∀ c o, c ≠ z → c ≠ i1 → c ≠ i2 → s.heap.get? c = some o → h'.get? c = some o) → Q (.ref s.heap.objs.size) { s with heap := h' }) :
    wpAny (model prog w) A (Builtin.«zip.__next__» ⟨[.ref z], []⟩) (fun fin s' => ∃ v, fin = .done (.ret v) ∧ Q v s') E s := by
  show wpAny _ _ (field (.ref z) 2 >>= _) _ _ _
  refine wpAny_bind (wpAny_field hz rfl (x := .bool false) rfl ?_)
  show wpAny _ _ (field (.ref z) 3 >>= _) _ _ _
  refine wpAny_bind (wpAny_field hz rfl (x := .ref TI) rfl ?_)
  refine wpAny_bind (wpAny_seqItems hTI rfl ?_)
  show wpAny _ _ (Builtin.SmallTypes.ownedTupleIsFree (.ref z) >>= _) _ _ _
  refine wpAny_bind (owned_held hz hT hf fun h₁ hz₁ hs₁ => ?_)
  show wpAny _ _ ((forIn (#[.ref i1, .ref i2] : Array Value) _ _) >>= _) _ _ _
  rw [show (#[.ref i1, .ref i2] : Array Value) = [.ref i1, .ref i2].toArray from rfl, List.forIn_toArray]
  simp only [List.forIn_cons, List.forIn_nil]
  refine wpAny_bind (wpAny_bind (wpAny_bind (wpAny_holding ?_)))
  show wpAny _ _ (Builtin.SmallTypes.nextOf (.ref i1) >>= _) _ _ _
  refine wpAny_bind (next_tup (h1.extBut hs₁.extBut D1) (hl1.extBut hs₁.extBut D5) hx fun h₂ h1₂ hs₂ => wpAny_pure ?_)
  refine wpAny_pure ?_
  dsimp only
  refine wpAny_bind (wpAny_bind (wpAny_holding ?_))
  show wpAny _ _ (Builtin.SmallTypes.nextOf (.ref i2) >>= _) _ _ _
  refine wpAny_bind (next_tup ((h2.extBut hs₁.extBut D2).extBut hs₂.extBut D3.symm) ((hl2.extBut hs₁.extBut D6).extBut hs₂.extBut D8) hy fun h₃ h2₃ hs₃ => wpAny_pure ?_)
  refine wpAny_pure ?_
  dsimp only
  refine wpAny_pure ?_
  have hsz : h₃.objs.size = s.heap.objs.size := by rw [hs₃.1, hs₂.1, hs₁.1]
  show wpAny _ _ (newTuple [x, y] >>= fun v => ret v) _ _ _
  refine wpAny_bind (wpAny_newTuple (wpAny_pure ⟨_, rfl, ?_⟩))
  have up : ∀ c o, h₃.get? c = some o → (h₃.push { cls := .type "tuple", data := .seq #[x, y] }).get? c = some o := fun c o e => Heap.get?_push_of_some _ e
  show Q (.ref h₃.objs.size) _
  rw [hsz]
  refine hQ _ (up _ _ (hs₃.extBut _ _ D2.symm (hs₂.extBut _ _ D1.symm hz₁))) ?_ ?_ ?_ ?_ fun c o c1 c2 c3 e => up _ _ (hs₃.extBut _ _ c3 (hs₂.extBut _ _ c2 (hs₁.extBut _ _ c1 e)))
  · obtain ⟨o, e, r⟩ := h1₂
    exact ⟨o, up _ _ (hs₃.extBut _ _ D3 e), r⟩
  · obtain ⟨o, e, r⟩ := h2₃
    exact ⟨o, up _ _ e, r⟩
  · show (h₃.push _).get? _ = _
    rw [← hsz]
    exact Heap.get?_push_size _ rfl
  · rw [Heap.size_push, hsz]

/-- the end, the last pair still held -/
theorem zip_held_end {z TI TO i1 i2 t1 T : Addr} {k1 : Nat} {xs : Array Value} {f1 : Value} {oT : Obj} {Q : Fin → Shared → Prop} (hh : A.handled = none)
    (hz : s.heap.get? z = some (zipO (rawInt T) f1 TI TO)) (hT : s.heap.get? T = some oT) (hTI : IsPair s.heap TI (.ref i1) (.ref i2)) (hf : f1 = .bool false ∨ f1 = .bool true)
    (h1 : s.heap.IsTupleIter i1 t1 k1) (hl1 : s.heap.IsTuple t1 xs) (hx : xs[k1]? = none)
    (D1 : i1 ≠ z) (D5 : t1 ≠ z)
    (hE : ∀ h' e, (∀ c o, c ≠ z → c ≠ i1 → s.heap.get? c = some o → h'.get? c = some o) → (∃ o, h'.get? e = some o ∧ o.cls = .type "StopIteration") → E (.ref e) { s with heap := h' }) :
    wpAny (model prog w) A (Builtin.«zip.__next__» ⟨[.ref z], []⟩) Q E s := by
  show wpAny _ _ (field (.ref z) 2 >>= _) _ _ _
  refine wpAny_bind (wpAny_field hz rfl (x := .bool false) rfl ?_)
  show wpAny _ _ (field (.ref z) 3 >>= _) _ _ _
  refine wpAny_bind (wpAny_field hz rfl (x := .ref TI) rfl ?_)
  refine wpAny_bind (wpAny_seqItems hTI rfl ?_)
  show wpAny _ _ (Builtin.SmallTypes.ownedTupleIsFree (.ref z) >>= _) _ _ _
  refine wpAny_bind (owned_held hz hT hf fun h₁ hz₁ hs₁ => ?_)
  show wpAny _ _ ((forIn (#[.ref i1, .ref i2] : Array Value) _ _) >>= _) _ _ _
  rw [show (#[.ref i1, .ref i2] : Array Value) = [.ref i1, .ref i2].toArray from rfl, List.forIn_toArray]
  simp only [List.forIn_cons, List.forIn_nil]
  refine wpAny_bind (wpAny_bind (wpAny_bind (wpAny_holding ?_)))
  show wpAny _ _ (Builtin.SmallTypes.nextOf (.ref i1) >>= _) _ _ _
  exact wpAny_bind (next_tup_end hh (h1.extBut hs₁.extBut D1) (hl1.extBut hs₁.extBut D5) hx fun h₂ e hs₂ he => hE h₂ e (fun c o c1 c2 x => hs₂ c o c2 (hs₁.extBut _ _ c1 x)) he)

/-- the first pair -/
theorem zip_free {z TI TO i1 i2 t1 t2 : Addr} {k1 k2 : Nat} {xs ys : Array Value} {x y a b : Value} {Q : Value → Shared → Prop}
    (hz : s.heap.get? z = some (zipO .none (.bool false) TI TO)) (hTI : IsPair s.heap TI (.ref i1) (.ref i2)) (hTO : IsPair s.heap TO a b)
    (h1 : s.heap.IsTupleIter i1 t1 k1) (h2 : s.heap.IsTupleIter i2 t2 k2) (hl1 : s.heap.IsTuple t1 xs) (hl2 : s.heap.IsTuple t2 ys) (hx : xs[k1]? = some x) (hy : ys[k2]? = some y)
    (D1 : i1 ≠ z) (D2 : i2 ≠ z) (D3 : i1 ≠ i2) (D5 : t1 ≠ z) (D6 : t2 ≠ z) (D8 : t2 ≠ i1) (D9 : TO ≠ z) (D10 : TO ≠ i1) (D11 : TO ≠ i2) (D12 : t2 ≠ TO)
    (hQ : ∀ h', h'.get? z = some (zipO (rawInt s.heap.objs.size) (.bool false) TI TO) → h'.IsTupleIter i1 t1 (k1 + 1) → h'.IsTupleIter i2 t2 (k2 + 1) → IsPair h' s.heap.objs.size x y → h'.objs.size = s.heap.objs.size + 1 →
      (∀ c o, c ≠ z → c ≠ i1 → c ≠ i2 → c ≠ TO → s.heap.get? c = some o → h'.get? c = some o) → Q (.ref s.heap.objs.size) { s with heap := h' }) :
    wpAny (model prog w) A (Builtin.«zip.__next__» ⟨[.ref z], []⟩) (fun fin s' => ∃ v, fin = .done (.ret v) ∧ Q v s') E s := by
  show wpAny _ _ (field (.ref z) 2 >>= _) _ _ _
  refine wpAny_bind (wpAny_field hz rfl (x := .bool false) rfl ?_)
  show wpAny _ _ (field (.ref z) 3 >>= _) _ _ _
  refine wpAny_bind (wpAny_field hz rfl (x := .ref TI) rfl ?_)
  refine wpAny_bind (wpAny_seqItems hTI rfl ?_)
  show wpAny _ _ (Builtin.SmallTypes.ownedTupleIsFree (.ref z) >>= _) _ _ _
  refine wpAny_bind ?_
  unfold Builtin.SmallTypes.ownedTupleIsFree
  refine wpAny_bind (wpAny_field hz rfl (x := .none) rfl (wpAny_pure ?_))
  simp only [if_true]
  refine wpAny_bind (wpAny_rule ?_)
  refine wpAny_bind (wpAny_field hz rfl (x := .ref TO) rfl ?_)
  refine wpAny_bind (wpAny_setField_rec hz (by simp) fun h₁ hz₁ hs₁ => ?_)
  replace hz₁ : h₁.get? z = some (zipO .ellipsis (.bool false) TI TO) := hz₁
  refine wpAny_bind ?_
  simp only [List.zipIdx_cons, List.zipIdx_nil, List.forIn_cons, List.forIn_nil]
  refine wpAny_bind (wpAny_bind (wpAny_onRaise ?_))
  show wpAny _ _ (Builtin.SmallTypes.nextOf (.ref i1) >>= _) _ _ _
  refine wpAny_bind (next_tup (h1.extBut hs₁.extBut D1) (hl1.extBut hs₁.extBut D5) hx fun h₂ h1₂ hs₂ => wpAny_pure ?_)
  have hTO₂ : IsPair h₂ TO a b := hs₂.extBut _ _ D10 (hs₁.extBut _ _ D9 hTO)
  refine wpAny_bind (wpAny_seqItems hTO₂ rfl ?_)
  refine wpAny_bind (wpAny_updateSeq_pair hTO₂ fun h₃ hTO₃ hs₃ => ?_)
  replace hTO₃ : IsPair h₃ TO x b := hTO₃
  refine wpAny_bind (wpAny_letGo (wpAny_pure ?_))
  refine wpAny_bind (wpAny_bind (wpAny_onRaise ?_))
  show wpAny _ _ (Builtin.SmallTypes.nextOf (.ref i2) >>= _) _ _ _
  refine wpAny_bind (next_tup (((h2.extBut hs₁.extBut D2).extBut hs₂.extBut D3.symm).extBut hs₃.extBut D11.symm) (((hl2.extBut hs₁.extBut D6).extBut hs₂.extBut D8).extBut hs₃.extBut D12) hy fun h₄ h2₄ hs₄ => wpAny_pure ?_)
  have hTO₄ : IsPair h₄ TO x b := hs₄.extBut _ _ D11 hTO₃
  refine wpAny_bind (wpAny_seqItems hTO₄ rfl ?_)
  refine wpAny_bind (wpAny_updateSeq_pair hTO₄ fun h₅ hTO₅ hs₅ => ?_)
  replace hTO₅ : IsPair h₅ TO x y := hTO₅
  refine wpAny_bind (wpAny_letGo (wpAny_pure (wpAny_pure ?_)))
  refine wpAny_bind (wpAny_seqItems hTO₅ rfl ?_)
  refine wpAny_bind (wpAny_newTuple ?_)
  have hsz : h₅.objs.size = s.heap.objs.size := by rw [hs₅.1, hs₄.1, hs₃.1, hs₂.1, hs₁.1]
  have hz₅ : h₅.get? z = some (zipO .ellipsis (.bool false) TI TO) := hs₅.extBut _ _ D9.symm (hs₄.extBut _ _ D2.symm (hs₃.extBut _ _ D9.symm (hs₂.extBut _ _ D1.symm hz₁)))
  have hk₅ : ∀ c o, c ≠ z → c ≠ i1 → c ≠ i2 → c ≠ TO → s.heap.get? c = some o → h₅.get? c = some o := fun c o c1 c2 c3 c4 e =>
    hs₅.extBut _ _ c4 (hs₄.extBut _ _ c3 (hs₃.extBut _ _ c4 (hs₂.extBut _ _ c2 (hs₁.extBut _ _ c1 e))))
  have h1₅ : h₅.IsTupleIter i1 t1 (k1 + 1) := ((h1₂.extBut hs₃.extBut D10.symm).extBut hs₄.extBut D3).extBut hs₅.extBut D10.symm
  have h2₅ : h₅.IsTupleIter i2 t2 (k2 + 1) := h2₄.extBut hs₅.extBut D11.symm
  have hzlt : z < h₅.objs.size := Heap.lt_size hz₅
  show wpAny _ _ (Builtin.SmallTypes.ownedTupleHandOut (.ref z) (.ref h₅.objs.size) >>= _) _ _ _
  refine wpAny_bind ?_
  unfold Builtin.SmallTypes.ownedTupleHandOut
  have hz₆ : (h₅.push { cls := .type "tuple", data := .seq #[x, y] }).get? z = some (zipO .ellipsis (.bool false) TI TO) := Heap.get?_push_of_some _ hz₅
  refine wpAny_bind (wpAny_setField_rec hz₆ (by simp) fun h₇ hz₇ hs₇ => ?_)
  replace hz₇ : h₇.get? z = some (zipO (rawInt h₅.objs.size) (.bool false) TI TO) := hz₇
  refine wpAny_setField_rec hz₇ (by simp) fun h₈ hz₈ hs₈ => ?_
  replace hz₈ : h₈.get? z = some (zipO (rawInt h₅.objs.size) (.bool false) TI TO) := hz₈
  have up : ∀ c o, c ≠ z → h₅.get? c = some o → h₈.get? c = some o := fun c o c1 e => hs₈.extBut _ _ c1 (hs₇.extBut _ _ c1 (Heap.get?_push_of_some _ e))
  have hT₈ : IsPair h₈ h₅.objs.size x y := hs₈.extBut _ _ (Nat.ne_of_gt hzlt) (hs₇.extBut _ _ (Nat.ne_of_gt hzlt) (Heap.get?_push_size _ rfl))
  have hz8 : h₈.objs.size = h₅.objs.size + 1 := by rw [hs₈.1, hs₇.1, Heap.size_push]
  rw [hsz] at hz₈ hT₈ hz8
  refine wpAny_pure ⟨_, rfl, ?_⟩
  show Q (.ref h₅.objs.size) _
  rw [hsz]
  refine hQ h₈ hz₈ ?_ ?_ hT₈ hz8 fun c o c1 c2 c3 c4 e => up c o c1 (hk₅ c o c1 c2 c3 c4 e)
  · obtain ⟨o, e, r⟩ := h1₅
    exact ⟨o, up _ _ D1 e, r⟩
  · obtain ⟨o, e, r⟩ := h2₅
    exact ⟨o, up _ _ D2 e, r⟩

/-- the end at once -/
theorem zip_free_end {z TI TO i1 i2 t1 : Addr} {k1 : Nat} {xs : Array Value} {Q : Fin → Shared → Prop} (hh : A.handled = none)
    (hz : s.heap.get? z = some (zipO .none (.bool false) TI TO)) (hTI : IsPair s.heap TI (.ref i1) (.ref i2))
    (h1 : s.heap.IsTupleIter i1 t1 k1) (hl1 : s.heap.IsTuple t1 xs) (hx : xs[k1]? = none)
    (D1 : i1 ≠ z) (D5 : t1 ≠ z)
    (hE : ∀ h' e, (∀ c o, c ≠ z → c ≠ i1 → s.heap.get? c = some o → h'.get? c = some o) → (∃ o, h'.get? e = some o ∧ o.cls = .type "StopIteration") → E (.ref e) { s with heap := h' }) :
    wpAny (model prog w) A (Builtin.«zip.__next__» ⟨[.ref z], []⟩) Q E s := by
  show wpAny _ _ (field (.ref z) 2 >>= _) _ _ _
  refine wpAny_bind (wpAny_field hz rfl (x := .bool false) rfl ?_)
  show wpAny _ _ (field (.ref z) 3 >>= _) _ _ _
  refine wpAny_bind (wpAny_field hz rfl (x := .ref TI) rfl ?_)
  refine wpAny_bind (wpAny_seqItems hTI rfl ?_)
  show wpAny _ _ (Builtin.SmallTypes.ownedTupleIsFree (.ref z) >>= _) _ _ _
  refine wpAny_bind ?_
  unfold Builtin.SmallTypes.ownedTupleIsFree
  refine wpAny_bind (wpAny_field hz rfl (x := .none) rfl (wpAny_pure ?_))
  simp only [if_true]
  refine wpAny_bind (wpAny_rule ?_)
  refine wpAny_bind (wpAny_field hz rfl (x := .ref TO) rfl ?_)
  refine wpAny_bind (wpAny_setField_rec hz (by simp) fun h₁ hz₁ hs₁ => ?_)
  replace hz₁ : h₁.get? z = some (zipO .ellipsis (.bool false) TI TO) := hz₁
  refine wpAny_bind ?_
  simp only [List.zipIdx_cons, List.zipIdx_nil, List.forIn_cons, List.forIn_nil]
  refine wpAny_bind (wpAny_bind (wpAny_onRaise ?_))
  show wpAny _ _ (Builtin.SmallTypes.nextOf (.ref i1) >>= _) _ _ _
  refine wpAny_bind (next_tup_end hh (h1.extBut hs₁.extBut D1) (hl1.extBut hs₁.extBut D5) hx fun h₂ e hs₂ he => ?_)
  obtain ⟨oe, hoe, hce⟩ := he
  have hz₂ : h₂.get? z = some (zipO .ellipsis (.bool false) TI TO) := hs₂ _ _ D1.symm hz₁
  have hez : e ≠ z := fun x => by subst x; rw [hz₂] at hoe; cases hoe; simp at hce
  exact wpAny_setField_rec hz₂ (by simp) fun h₃ _ hs₃ => hE h₃ e (fun c o c1 c3 x => hs₃.extBut _ _ c1 (hs₂ _ _ c3 (hs₁.extBut _ _ c1 x))) ⟨oe, hs₃.extBut _ _ hez hoe, hce⟩
end
-- part Z1
structure ZI (h0 : Heap) (B : Nat) (t1 t2 : Addr) (xs ys : Array Value) (k : Nat) (Ts : List Addr) (h : Heap) : Prop where
  old : ∀ c o, h0.get? c = some o → h.get? c = some o
  base : h0.objs.size = B
  hz : (k = 0 ∧ h.get? (B + 4 : Nat) = some (zipO .none (.bool false) (B + 2 : Nat) (B + 3 : Nat)) ∧ IsPair h (B + 3 : Nat) .none .none) ∨
    (∃ (T : Addr) (f1 : Value) (o : Obj), h.get? (B + 4 : Nat) = some (zipO (rawInt ((T : Nat) : Int)) f1 (B + 2 : Nat) (B + 3 : Nat)) ∧ (f1 = .bool false ∨ f1 = .bool true) ∧ h.get? T = some o ∧ T ∈ Ts)
  hTI : IsPair h (B + 2 : Nat) (.ref B) (.ref (B + 1 : Nat))
  it1 : h.IsTupleIter B t1 k
  it2 : h.IsTupleIter (B + 1 : Nat) t2 k
  hS : ∃ c, h.get? (B + 5 : Nat) = some (listOf (Ts.map Value.ref).toArray c)
  len : Ts.length = k
  hTs : ∀ T ∈ Ts, B + 6 ≤ T
  pairs : ∀ (j : Nat) (T : Addr), Ts[j]? = some T → ∃ x y, xs[j]? = some x ∧ ys[j]? = some y ∧ IsPair h T x y

section
variable {prog : Program} {w : World} {A : Around} {E : Value → Shared → Prop} {s : Shared}

theorem tup_keep {h h' : Heap} {t : Addr} {items : Array Value} (x : h.IsTuple t items) (k : ∀ c o, h.get? c = some o → h'.get? c = some o) : h'.IsTuple t items := let ⟨o, e, r⟩ := x; ⟨o, k _ _ e, r⟩
theorem ne_of_old {h0 : Heap} {B k : Nat} {t : Addr} {items : Array Value} (x : h0.IsTuple t items) (b : h0.objs.size = B) : t ≠ B + k := by
  obtain ⟨o, e, _⟩ := x
  have := Heap.lt_size e
  rw [b] at this
  exact Nat.ne_of_lt (Nat.lt_of_lt_of_le this (Nat.le_add_right _ _))

theorem pyNext_of {z : Addr} {f0 f1 : Value} {TI TO : Addr} {Q : Option Value → Shared → Prop} (hz : s.heap.get? z = some (zipO f0 f1 TI TO))
    (h : wpAny (model prog w) A.in1 (Builtin.«zip.__next__» ⟨[.ref z], []⟩) (fun fin s' => ∃ v, fin = .done (.ret v) ∧ Q (some v) s') (fun e s' => ∃ a o, e = .ref a ∧ s'.heap.get? a = some o ∧ o.cls = .type "StopIteration" ∧ Q none s') s) :
    wpAny (model prog w) A (pyNext (.ref z)) Q E s := by
  have hT : s.TypeIs (.ref z) "zip" := ⟨_, hz, rfl⟩
  unfold pyNext
  refine wpAny_bind (wpAny_attempt (wpAny_callSpecial?_slot (name := Str.ofString "__next__") hT F.slot_zip_next
    (wpAny_call_entry F.slot_zip_next hT F.entry_zip_next (wpAny_mono h (fun fin s' hf => ?_) fun e s' he => ?_) (F.args_zip_next_1 _))))
  · obtain ⟨v, rfl, q⟩ := hf
    exact ⟨v, rfl, wpAny_pure q⟩
  · obtain ⟨a, o, rfl, ho, hc, q⟩ := he
    refine wpAny_bind (wpAny_isInstance (T := "StopIteration") (b := true) ⟨o, ho, hc⟩ isSubtype_stop ?_)
    exact wpAny_pure q

theorem at_ne {B j k : Nat} (h : j ≠ k) : (B + j : Nat) ≠ (B + k : Nat) := by omega
theorem at0_ne {B j : Nat} (h : j ≠ 0) : (B : Nat) ≠ (B + j : Nat) := by omega


structure ZEnd (h0 : Heap) (B : Nat) (xs ys : Array Value) (Ts : List Addr) (h : Heap) : Prop where
  old : ∀ c o, h0.get? c = some o → h.get? c = some o
  hS : ∃ c, h.get? (B + 5 : Nat) = some (listOf (Ts.map Value.ref).toArray c)
  len : Ts.length = xs.size
  hTs : ∀ T ∈ Ts, B + 6 ≤ T
  pairs : ∀ (j : Nat) (T : Addr), Ts[j]? = some T → ∃ x y, xs[j]? = some x ∧ ys[j]? = some y ∧ IsPair h T x y

theorem old_lt {h0 : Heap} {B : Nat} {c : Addr} {o : Obj} (b : h0.objs.size = B) (e : h0.get? c = some o) : @LT.lt Nat _ c B := by
  have := Heap.lt_size e
  rw [b] at this
  exact this
theorem nn {a b : Addr} (h : ¬ (@Eq Nat a b)) : a ≠ b := h

theorem ZI.fin {h0 h h' : Heap} {B k : Nat} {t1 t2 : Addr} {xs ys : Array Value} {Ts : List Addr} (Z : ZI h0 B t1 t2 xs ys k Ts h) (hn : k = xs.size)
    (hk : ∀ c o, c ≠ (B + 4 : Nat) → c ≠ B → h.get? c = some o → h'.get? c = some o) : ZEnd h0 B xs ys Ts h' where
  old := fun c o e => by
    have := old_lt Z.base e
    exact hk c o (nn (by omega)) (nn (by omega)) (Z.old c o e)
  hS := by
    obtain ⟨c, e⟩ := Z.hS
    exact ⟨c, hk _ _ (nn (by omega)) (nn (by omega)) e⟩
  len := Z.len.trans hn
  hTs := Z.hTs
  pairs := fun j T e => by
    obtain ⟨x, y, hx, hy, hp⟩ := Z.pairs j T e
    have := Z.hTs T (List.mem_of_getElem? e)
    have h2 : @LE.le Nat _ (B + 6) T := this
    exact ⟨x, y, hx, hy, hk _ _ (nn (by omega)) (nn (by omega)) hp⟩

theorem ZI.step {h0 h h' : Heap} {B k : Nat} {t1 t2 T' : Addr} {x y : Value} {xs ys : Array Value} {Ts : List Addr} (Z : ZI h0 B t1 t2 xs ys k Ts h) (hx : xs[k]? = some x) (hy : ys[k]? = some y)
    (hk : ∀ c o, c ≠ (B + 4 : Nat) → c ≠ B → c ≠ (B + 1 : Nat) → c ≠ (B + 3 : Nat) → c ≠ (B + 5 : Nat) → h.get? c = some o → h'.get? c = some o)
    (hz : ∃ (T : Addr) (f1 : Value), h'.get? (B + 4 : Nat) = some (zipO (rawInt ((T : Nat) : Int)) f1 (B + 2 : Nat) (B + 3 : Nat)) ∧ (f1 = .bool false ∨ f1 = .bool true) ∧ (T ∈ Ts ∨ T = T'))
    (it1 : h'.IsTupleIter B t1 (k + 1)) (it2 : h'.IsTupleIter (B + 1 : Nat) t2 (k + 1)) (hS : ∃ c, h'.get? (B + 5 : Nat) = some (listOf ((Ts ++ [T']).map Value.ref).toArray c)) (hT : @LE.le Nat _ (B + 6) T') (hp : IsPair h' T' x y) :
    ZI h0 B t1 t2 xs ys (k + 1) (Ts ++ [T']) h' where
  old := fun c o e => by
    have := old_lt Z.base e
    exact hk c o (nn (by omega)) (nn (by omega)) (nn (by omega)) (nn (by omega)) (nn (by omega)) (Z.old c o e)
  base := Z.base
  hz := by
    obtain ⟨T, f1, e, hf, hm⟩ := hz
    rcases hm with hm | rfl
    · obtain ⟨j, hj⟩ := List.mem_iff_getElem?.mp hm
      obtain ⟨x', y', _, _, hp'⟩ := Z.pairs j T hj
      have h2 : @LE.le Nat _ (B + 6) T := Z.hTs T hm
      exact .inr ⟨T, f1, _, e, hf, hk _ _ (nn (by omega)) (nn (by omega)) (nn (by omega)) (nn (by omega)) (nn (by omega)) hp', List.mem_append_left _ hm⟩
    · exact .inr ⟨T, f1, _, e, hf, hp, by simp⟩
  hTI := hk _ _ (nn (by omega)) (nn (by omega)) (nn (by omega)) (nn (by omega)) (nn (by omega)) Z.hTI
  it1 := it1
  it2 := it2
  hS := hS
  len := by rw [List.length_append, Z.len]; rfl
  hTs := fun T hm => by
    rcases List.mem_append.mp hm with hm | hm
    · exact Z.hTs T hm
    · rw [List.mem_singleton.mp hm]; exact hT
  pairs := fun j T e => by
    by_cases hj : j < Ts.length
    · rw [List.getElem?_append_left hj] at e
      obtain ⟨x', y', a1, a2, hp'⟩ := Z.pairs j T e
      have h2 : @LE.le Nat _ (B + 6) T := Z.hTs T (List.mem_of_getElem? e)
      exact ⟨x', y', a1, a2, hk _ _ (nn (by omega)) (nn (by omega)) (nn (by omega)) (nn (by omega)) (nn (by omega)) hp'⟩
    · rw [List.getElem?_append_right (by omega)] at e
      obtain ⟨h0', rfl⟩ : j - Ts.length = 0 ∧ T' = T := by
        cases hq : j - Ts.length with
        | zero => rw [hq] at e; exact ⟨rfl, by simpa using e⟩
        | succ q => rw [hq] at e; simp at e
      obtain rfl : j = k := by have := Z.len; omega
      exact ⟨x, y, hx, hy, hp⟩

/-- the loop of list(zip(..)) -/
theorem zip_loop {h0 : Heap} {B : Nat} {t1 t2 : Addr} {xs ys : Array Value} {n : Nat} {R : Result → Shared → Prop} (hh : A.handled = none)
    (hl1 : h0.IsTuple t1 xs) (hl2 : h0.IsTuple t2 ys) (hn1 : xs.size = n) (hn2 : ys.size = n) (hn : n ≤ 1000) :
    ∀ (j k : Nat) (Ts : List Addr) (s : Shared), n - k = j → k ≤ n → ZI h0 B t1 t2 xs ys k Ts s.heap →
    (∀ h' Ts', ZEnd h0 B xs ys Ts' h' → R (.ok (.ret .none)) { s with heap := h' }) →
    codeAny (model prog w) A (.builtin "list.extend.loop" ⟨[.ref (B + 5 : Nat), .ref (B + 4 : Nat), .none], []⟩) R s := by
  intro j
  induction j with
  | zero =>
    intro k Ts s hj hk Z hR
    obtain rfl : k = n := by omega
    refine codeAny_builtin F.entry_extend_loop ?_
    rw [Around.under_plainId F.plain_extend_loop _]
    show wpAny _ A.in1 (pyNext (.ref (B + 4 : Nat)) >>= _) _ _ s
    have hx : xs[k]? = none := by simp [hn1]
    have b0 := Z.base
    refine wpAny_bind ?_
    rcases Z.hz with ⟨_, hz, _⟩ | ⟨T, f1, o, hz, hf, hT, hmem⟩
    · refine pyNext_of hz (zip_free_end hh hz Z.hTI Z.it1 (tup_keep hl1 Z.old) hx (at0_ne (by decide)) (ne_of_old hl1 b0) fun h' e hk' he => ?_)
      obtain ⟨oe, hoe, hce⟩ := he
      exact ⟨e, oe, rfl, hoe, hce, wpAny_pure (hR h' Ts (Z.fin hn1.symm hk'))⟩
    · refine pyNext_of hz (zip_held_end hh hz hT Z.hTI hf Z.it1 (tup_keep hl1 Z.old) hx (at0_ne (by decide)) (ne_of_old hl1 b0) fun h' e hk' he => ?_)
      obtain ⟨oe, hoe, hce⟩ := he
      exact ⟨e, oe, rfl, hoe, hce, wpAny_pure (hR h' Ts (Z.fin hn1.symm hk'))⟩
  | succ j ih =>
    intro k Ts s hj hk Z hR
    have hlt : k < n := by omega
    refine codeAny_builtin F.entry_extend_loop ?_
    rw [Around.under_plainId F.plain_extend_loop _]
    show wpAny _ A.in1 (pyNext (.ref (B + 4 : Nat)) >>= _) _ _ s
    have hx : xs[k]? = some xs[k] := Array.getElem?_eq_getElem (by omega)
    have hy : ys[k]? = some ys[k] := Array.getElem?_eq_getElem (by omega)
    have b0 := Z.base
    obtain ⟨cS, hSo⟩ := Z.hS
    have hSlt : @LT.lt Nat _ (B + 5) s.heap.objs.size := Heap.lt_size hSo
    -- what follows the draw
    have go : ∀ h₁ (f1 : Value) (T : Addr), h₁.get? (B + 4 : Nat) = some (zipO (rawInt ((T : Nat) : Int)) f1 (B + 2 : Nat) (B + 3 : Nat)) → (f1 = .bool false ∨ f1 = .bool true) → (T ∈ Ts ∨ T = s.heap.objs.size) →
        h₁.IsTupleIter B t1 (k + 1) → h₁.IsTupleIter (B + 1 : Nat) t2 (k + 1) → IsPair h₁ s.heap.objs.size xs[k] ys[k] →
        (∀ c o, c ≠ (B + 4 : Nat) → c ≠ B → c ≠ (B + 1 : Nat) → c ≠ (B + 3 : Nat) → s.heap.get? c = some o → h₁.get? c = some o) →
        wpAny (model prog w) A.in1 (updateSeq (B + 5 : Nat) (·.push (.ref s.heap.objs.size)) >>= fun _ => again (.builtin "list.extend.loop" ⟨[.ref (B + 5 : Nat), .ref (B + 4 : Nat), .none], []⟩))
          (fun fin s' => match fin with | .done f => R (.ok f) s' | .again c' => c'.quiet = true ∧ codeAny (model prog w) A c' R s') (fun e s' => R (.error e) s') { s with heap := h₁ } := by
      intro h₁ f1 T hz hf hT it1 it2 hp hk'
      have hS' := hk' _ _ (nn (by omega)) (nn (by omega)) (nn (by omega)) (nn (by omega)) hSo
      have hTl : (Ts.map Value.ref).toArray.size = k := by simp [Z.len]
      refine wpAny_bind (wpAny_updateSeq hS' rfl (wpAny_pure ⟨plainId_quiet F.plain_extend_loop _, ?_⟩) (by rw [hTl, sizeLine_eq]; omega) (by rw [Array.size_push, hTl, sizeLine_eq]; omega))
      have keep5 : ∀ c o, c ≠ (B + 5 : Nat) → h₁.get? c = some o → (h₁.update (B + 5 : Nat) (Obj.mapSeq (·.push (.ref s.heap.objs.size)))).get? c = some o := fun c o hc e => (Heap.get?_update_other _ _ (Ne.symm hc)).trans e
      refine ih (k + 1) (Ts ++ [s.heap.objs.size]) _ (by omega) hlt (Z.step (h' := h₁.update (B + 5 : Nat) (Obj.mapSeq (·.push (.ref s.heap.objs.size)))) hx hy (fun c o c1 c2 c3 c4 c5 e => keep5 c o c5 (hk' c o c1 c2 c3 c4 e))
        ⟨T, f1, keep5 _ _ (nn (by omega)) hz, hf, hT⟩ ?_ ?_ ?_ ?_ (keep5 _ _ (nn (by omega)) hp)) (fun h' Ts' ze => hR h' Ts' ze)
      · obtain ⟨o, e, r⟩ := it1
        exact ⟨o, keep5 _ _ (nn (by omega)) e, r⟩
      · obtain ⟨o, e, r⟩ := it2
        exact ⟨o, keep5 _ _ (nn (by omega)) e, r⟩
      · refine ⟨cS + 1, ?_⟩
        rw [Heap.get?_update_self _ hS' rfl]
        simp [Obj.mapSeq]
      · show B + 6 ≤ s.heap.objs.size
        omega
    refine wpAny_bind ?_
    rcases Z.hz with ⟨_, hz, hTO⟩ | ⟨T, f1, o, hz, hf, hT, hmem⟩
    · refine pyNext_of hz (zip_free hz Z.hTI hTO Z.it1 Z.it2 (tup_keep hl1 Z.old) (tup_keep hl2 Z.old) hx hy (nn (by omega)) (nn (by omega)) (nn (by omega)) (ne_of_old hl1 b0) (ne_of_old hl2 b0) (ne_of_old (k := 0) hl2 b0) (nn (by omega)) (nn (by omega)) (nn (by omega)) (ne_of_old hl2 b0)
        fun h' a1 a2 a3 a4 a5 a6 => ?_)
      exact go h' _ _ a1 (.inl rfl) (.inr rfl) a2 a3 a4 fun c o c1 c2 c3 c4 e => a6 c o c1 c2 c3 c4 e
    · refine pyNext_of hz (zip_held hz hT Z.hTI hf Z.it1 Z.it2 (tup_keep hl1 Z.old) (tup_keep hl2 Z.old) hx hy (nn (by omega)) (nn (by omega)) (nn (by omega)) (ne_of_old hl1 b0) (ne_of_old hl2 b0) (ne_of_old (k := 0) hl2 b0)
        fun h' a1 a2 a3 a4 a5 a6 => ?_)
      exact go h' _ _ a1 (.inr rfl) (.inl hmem) a2 a3 a4 fun c o c1 c2 c3 c4 e => a6 c o c1 c2 c3 e

abbrev zH1 (h : Heap) (l1 : Addr) : Heap := h.push { cls := .type "tuple_iterator", data := .fields #[.ref l1, .int 0 0] }
abbrev zH2 (h : Heap) (l1 l2 : Addr) : Heap := (zH1 h l1).push { cls := .type "tuple_iterator", data := .fields #[.ref l2, .int 0 0] }
abbrev zH3 (h : Heap) (l1 l2 : Addr) : Heap := (zH2 h l1 l2).push { cls := .type "tuple", data := .seq #[.ref h.objs.size, .ref (zH1 h l1).objs.size] }
abbrev zH4 (h : Heap) (l1 l2 : Addr) : Heap := (zH3 h l1 l2).push { cls := .type "tuple", data := .seq #[.none, .none] }
abbrev zH5 (h : Heap) (l1 l2 : Addr) : Heap := (zH4 h l1 l2).push (zipO .none (.bool false) (zH2 h l1 l2).objs.size (zH3 h l1 l2).objs.size)

theorem meets_zip_tup (l1 l2 : Addr) (xs ys : Array Value) :
    Meets (Builtin.«zip.__new__» ⟨[.type "zip", .ref l1, .ref l2], []⟩) (fun _ R s => s.heap.IsTuple l1 xs ∧ s.heap.IsTuple l2 ys ∧
      R (.ok (.ret (.ref (zH4 s.heap l1 l2).objs.size))) { s with heap := zH5 s.heap l1 l2 }) :=
  .of_wp fun prog w A R s h => by
    obtain ⟨hp, g, d, tk, os⟩ := s; obtain ⟨hl1, hl2, h⟩ := h
    have hsub := sub_zip
    have hL1 : Heap.IsTuple (Shared.heap ⟨hp, g, d, tk, os⟩) l1 xs := hl1
    have hL2 : Heap.IsTuple (Shared.heap ⟨hp.push { cls := .type "tuple_iterator", data := .fields #[.ref l1, .int 0 0] }, g, d, tk, os⟩) l2 ys := Heap.IsTuple.push hl2 _
    wp_walk using wpAny_pyIter_tuple hL1, wpAny_pyIter_tuple hL2
    exact ⟨_, rfl, h⟩

theorem no_len_zip : typeLookup (.type "zip") "__len__" = pure none := by rw [typeLookup_type, builtinLookup_eq_fast]; kernel_rfl
theorem no_hint_zip : typeLookup (.type "zip") "__length_hint__" = pure none := by rw [typeLookup_type, builtinLookup_eq_fast]; kernel_rfl

theorem call_zip_tup {l1 l2 : Addr} {xs ys : Array Value} {Q : Value → Shared → Prop} (hl1 : s.heap.IsTuple l1 xs) (hl2 : s.heap.IsTuple l2 ys)
    (h : Q (.ref (s.heap.objs.size + 4 : Nat)) { s with heap := zH5 s.heap l1 l2 }) :
    wpAny (model prog w) A (call (.type "zip") [.ref l1, .ref l2]) Q E s := by
  refine callType_new F.called_zip (by decide) (F.typeCall_zip_2 _ _) (F.newCall_zip_2 _ _) (fun obj => F.args_object_init_3 obj _ _) F.entry_zip_new
    (meets_zip_tup l1 l2 xs ys) ⟨hl1, hl2, ?_⟩
  have z4 : (zH4 s.heap l1 l2).objs.size = (s.heap.objs.size + 4 : Nat) := by simp [Heap.size_push]
  have g5 : (zH5 s.heap l1 l2).get? (zH4 s.heap l1 l2).objs.size = some _ := Heap.get?_push_size _ rfl
  show _ ∧ _
  rw [z4] at g5 ⊢
  exact ⟨⟨_, g5, rfl⟩, h⟩

/-- the state behind zip(..) and the new list -/
theorem ZI.start {h : Heap} {l1 l2 : Addr} {xs ys : Array Value} {o : Obj} (e : o = ({ cls := .type "list", data := .seq #[] } : Obj)) : ZI h h.objs.size l1 l2 xs ys 0 [] ((zH5 h l1 l2).push o) := by
  subst e
  have z1 : (zH1 h l1).objs.size = (h.objs.size + 1 : Nat) := by simp [Heap.size_push]
  have z2 : (zH2 h l1 l2).objs.size = (h.objs.size + 2 : Nat) := by simp [Heap.size_push]
  have z3 : (zH3 h l1 l2).objs.size = (h.objs.size + 3 : Nat) := by simp [Heap.size_push]
  have z4 : (zH4 h l1 l2).objs.size = (h.objs.size + 4 : Nat) := by simp [Heap.size_push]
  have z5 : (zH5 h l1 l2).objs.size = (h.objs.size + 5 : Nat) := by simp [Heap.size_push]
  have g6 : ((zH5 h l1 l2).push { cls := .type "list", data := .seq #[] }).get? (zH5 h l1 l2).objs.size = some _ := Heap.get?_push_size _ rfl
  have g5 : ((zH5 h l1 l2).push { cls := .type "list", data := .seq #[] }).get? (zH4 h l1 l2).objs.size = some _ := Heap.get?_push_of_some _ (Heap.get?_push_size _ rfl)
  have g4 : ((zH5 h l1 l2).push { cls := .type "list", data := .seq #[] }).get? (zH3 h l1 l2).objs.size = some _ := Heap.get?_push_of_some _ (Heap.get?_push_of_some _ (Heap.get?_push_size _ rfl))
  have g3 : ((zH5 h l1 l2).push { cls := .type "list", data := .seq #[] }).get? (zH2 h l1 l2).objs.size = some _ := Heap.get?_push_of_some _ (Heap.get?_push_of_some _ (Heap.get?_push_of_some _ (Heap.get?_push_size _ rfl)))
  have g2 : ((zH5 h l1 l2).push { cls := .type "list", data := .seq #[] }).get? (zH1 h l1).objs.size = some _ := Heap.get?_push_of_some _ (Heap.get?_push_of_some _ (Heap.get?_push_of_some _ (Heap.get?_push_of_some _ (Heap.get?_push_size _ rfl))))
  have g1 : ((zH5 h l1 l2).push { cls := .type "list", data := .seq #[] }).get? h.objs.size = some _ := Heap.get?_push_of_some _ (Heap.get?_push_of_some _ (Heap.get?_push_of_some _ (Heap.get?_push_of_some _ (Heap.get?_push_of_some _ (Heap.get?_push_size _ rfl)))))
  rw [z1] at g2
  rw [z1, z2] at g3
  rw [z3] at g4
  rw [z2, z3, z4] at g5
  rw [z5] at g6
  exact ⟨fun c o e => Heap.get?_push_of_some _ (Heap.get?_push_of_some _ (Heap.get?_push_of_some _ (Heap.get?_push_of_some _ (Heap.get?_push_of_some _ (Heap.get?_push_of_some _ e))))), rfl, .inl ⟨rfl, g5, g4⟩, g3, ⟨_, g1, rfl, rfl⟩, ⟨_, g2, rfl, rfl⟩, ⟨0, g6⟩, rfl, (fun _ h => nomatch h), fun j T e => by simp at e⟩

theorem ZI.listSet {h0 h : Heap} {B : Nat} {t1 t2 : Addr} {xs ys : Array Value} {f : Array Value → Array Value} (hf : f #[] = #[]) (Z : ZI h0 B t1 t2 xs ys 0 [] h) : ZI h0 B t1 t2 xs ys 0 [] (h.update (B + 5 : Nat) (Obj.mapSeq f)) := by
  obtain ⟨c, hS⟩ := Z.hS
  have keep5 : ∀ c o, c ≠ (B + 5 : Nat) → h.get? c = some o → (h.update (B + 5 : Nat) (Obj.mapSeq f)).get? c = some o := fun c o hc e => (Heap.get?_update_other _ _ (Ne.symm hc)).trans e
  refine ⟨fun c o e => ?_, Z.base, ?_, keep5 _ _ (nn (by omega)) Z.hTI, ?_, ?_, ?_, rfl, (fun _ h => nomatch h), fun j T e => by simp at e⟩
  · have := old_lt Z.base e
    exact keep5 _ _ (nn (by omega)) (Z.old c o e)
  · rcases Z.hz with ⟨a, b, c⟩ | ⟨_, _, _, _, _, _, m⟩
    · exact .inl ⟨a, keep5 _ _ (nn (by omega)) b, keep5 _ _ (nn (by omega)) c⟩
    · cases m
  · obtain ⟨o, e, r⟩ := Z.it1
    exact ⟨o, keep5 _ _ (nn (by omega)) e, r⟩
  · obtain ⟨o, e, r⟩ := Z.it2
    exact ⟨o, keep5 _ _ (nn (by omega)) e, r⟩
  · have e := Heap.get?_update_self (Obj.mapSeq f) hS (by rfl)
    rw [show Obj.mapSeq f (listOf (([] : List Addr).map Value.ref).toArray c) = { cls := .type "list", data := _ } from rfl] at e
    simp only [List.map_nil] at e
    rw [show f ([] : List Value).toArray = ([] : List Value).toArray from hf] at e
    exact ⟨_, e⟩

theorem zip_extend {h0 : Heap} {B : Nat} {t1 t2 : Addr} {xs ys : Array Value} {n : Nat} {R : Result → Shared → Prop} (hh : A.handled = none)
    (hl1 : h0.IsTuple t1 xs) (hl2 : h0.IsTuple t2 ys) (hn1 : xs.size = n) (hn2 : ys.size = n) (hn : n ≤ 1000) (Z : ZI h0 B t1 t2 xs ys 0 [] s.heap)
    (hR : ∀ h' Ts', ZEnd h0 B xs ys Ts' h' → R (.ok (.ret .none)) { s with heap := h' }) :
    wpAny (model prog w) A.in1 (Builtin.List.listExtendWith (.ref (B + 5 : Nat)) (.ref (B + 4 : Nat)) .none)
      (fun fin s' => match fin with | .done f => R (.ok f) s' | .again c' => c'.quiet = true ∧ codeAny (model prog w) A c' R s') (fun e s' => R (.error e) s') s := by
  obtain ⟨cS, hS⟩ := Z.hS
  have hz : s.heap.get? (B + 4 : Nat) = some (zipO .none (.bool false) (B + 2 : Nat) (B + 3 : Nat)) := by
    rcases Z.hz with ⟨_, b, _⟩ | ⟨_, _, _, _, _, _, m⟩
    · exact b
    · cases m
  have hT : s.TypeIs (.ref (B + 4 : Nat)) "zip" := ⟨_, hz, rfl⟩
  unfold Builtin.List.listExtendWith
  refine wpAny_bind (wpAny_typeOf hT ?_)
  have h1 : Builtin.List.listSameRef (.ref (B + 5 : Nat)) (.ref (B + 4 : Nat)) = false := by simp [Builtin.List.listSameRef]
  have h2 : (Value.type "zip" == Value.type "list") = false := by decide
  have h3 : (Value.type "zip" == Value.type "tuple") = false := by decide
  simp only [h1, h2, h3, Bool.or_false, Bool.false_eq_true, if_false]
  refine wpAny_bind (wpAny_pyIter_zip hz ?_)
  refine wpAny_bind (wpAny_holding ?_)
  unfold Builtin.List.listLengthHint
  refine wpAny_bind (wpAny_specialOf hT no_len_zip ?_)
  show wpAny _ A.in1 (specialOf (Value.ref (B + 4 : Nat)) (Str.ofString "__length_hint__") >>= _) _ _ _
  refine wpAny_bind (wpAny_specialOf hT no_hint_zip ?_)
  refine wpAny_pure ?_
  show wpAny _ A.in1 (rule "list.extend.makes-room" >>= fun _ => Builtin.List.listTouch (.ref (B + 5 : Nat)) >>= fun _ =>
    again (.builtin "list.extend.loop" ⟨[.ref (B + 5 : Nat), .ref (B + 4 : Nat), .none], []⟩)) _ _ _
  refine wpAny_bind (wpAny_rule ?_)
  refine wpAny_bind ?_
  show wpAny _ A.in1 (updateSeq (B + 5 : Nat) (·.push .none) >>= fun _ => updateSeq (B + 5 : Nat) (·.pop)) _ _ _
  refine wpAny_bind (wpAny_updateSeq hS rfl ?_)
  have hS₂ := Heap.get?_update_self (Obj.mapSeq (·.push Value.none)) hS rfl
  refine wpAny_updateSeq (hz := by seq_fits) hS₂ rfl ?_
  have hS₃ := Heap.get?_update_self (Obj.mapSeq (·.pop)) hS₂ rfl
  have oth : ∀ b o, b ≠ (B + 5 : Nat) → s.heap.get? b = some o → ((s.heap.update (B + 5 : Nat) (Obj.mapSeq (·.push Value.none))).update (B + 5 : Nat) (Obj.mapSeq (·.pop))).get? b = some o :=
    fun b o hb e => (Heap.get?_update_other _ _ (Ne.symm hb)).trans ((Heap.get?_update_other _ _ (Ne.symm hb)).trans e)
  refine wpAny_pure ⟨plainId_quiet F.plain_extend_loop _, zip_loop (h0 := h0) (B := B) (t1 := t1) (t2 := t2) (xs := xs) (ys := ys) (n := n) hh hl1 hl2 hn1 hn2 hn n 0 [] _ rfl (Nat.zero_le _) ?_ fun h' Ts' ze => hR h' Ts' ze⟩
  show ZI h0 B t1 t2 xs ys 0 [] ((s.heap.update (B + 5 : Nat) (Obj.mapSeq (·.push Value.none))).update (B + 5 : Nat) (Obj.mapSeq (·.pop)))
  refine ⟨fun c o e => ?_, Z.base, ?_, oth _ _ (nn (by omega)) Z.hTI, ?_, ?_, ⟨_, hS₃⟩, rfl, (fun _ h => nomatch h), fun j T e => by simp at e⟩
  · have := old_lt Z.base e
    exact oth _ _ (nn (by omega)) (Z.old c o e)
  · rcases Z.hz with ⟨a, b, c⟩ | ⟨_, _, _, _, _, _, m⟩
    · exact .inl ⟨a, oth _ _ (nn (by omega)) b, oth _ _ (nn (by omega)) c⟩
    · cases m
  · obtain ⟨o, e, r⟩ := Z.it1
    exact ⟨o, oth _ _ (nn (by omega)) e, r⟩
  · obtain ⟨o, e, r⟩ := Z.it2
    exact ⟨o, oth _ _ (nn (by omega)) e, r⟩

theorem zip_init {h0 : Heap} {B : Nat} {t1 t2 : Addr} {xs ys : Array Value} {n : Nat} {R : Result → Shared → Prop} (hh : A.handled = none)
    (hl1 : h0.IsTuple t1 xs) (hl2 : h0.IsTuple t2 ys) (hn1 : xs.size = n) (hn2 : ys.size = n) (hn : n ≤ 1000) (Z : ZI h0 B t1 t2 xs ys 0 [] s.heap)
    (hR : ∀ h' Ts', ZEnd h0 B xs ys Ts' h' → R (.ok (.ret .none)) { s with heap := h' }) :
    wpAny (model prog w) A.in1 (Builtin.«list.__init__» ⟨[.ref (B + 5 : Nat), .ref (B + 4 : Nat)], []⟩)
      (fun fin s' => match fin with | .done f => R (.ok f) s' | .again c' => c'.quiet = true ∧ codeAny (model prog w) A c' R s') (fun e s' => R (.error e) s') s := by
  obtain ⟨cS, hS⟩ := Z.hS
  show wpAny _ A.in1 (do let old ← Builtin.List.listItems (.ref (B + 5 : Nat)); Builtin.List.listUpdate (.ref (B + 5 : Nat)) (fun _ => #[]); letGo old.toList.reverse; Builtin.List.listExtendWith (.ref (B + 5 : Nat)) (.ref (B + 4 : Nat)) .none) _ _ s
  refine wpAny_bind ?_
  unfold Builtin.List.listItems
  refine wpAny_bind (wpAny_seqItems hS rfl (wpAny_pure ?_))
  show wpAny _ A.in1 (updateSeq (B + 5 : Nat) (fun _ => #[]) >>= fun _ => letGo (#[] : Array Value).toList.reverse >>= fun _ => Builtin.List.listExtendWith (.ref (B + 5 : Nat)) (.ref (B + 4 : Nat)) .none) _ _ s
  refine wpAny_bind (wpAny_updateSeq hS rfl ?_)
  refine wpAny_bind (wpAny_letGo ?_)
  exact zip_extend hh hl1 hl2 hn1 hn2 hn (Z.listSet (f := fun _ => #[]) rfl) fun h' Ts' ze => hR h' Ts' ze

/-- list(zip(t1, t2)), two tuples of one length: the list call behind the zip call -/
theorem call_list_zip {l1 l2 : Addr} {xs ys : Array Value} {n : Nat} {Q : Value → Shared → Prop} (hh : A.handled = none)
    (hl1 : s.heap.IsTuple l1 xs) (hl2 : s.heap.IsTuple l2 ys) (hn1 : xs.size = n) (hn2 : ys.size = n) (hn : n ≤ 1000)
    (hQ : ∀ h' Ts', ZEnd s.heap s.heap.objs.size xs ys Ts' h' → Q (.ref (s.heap.objs.size + 5 : Nat)) { s with heap := h' }) :
    wpAny (model prog w) A (call (.type "list") [.ref (s.heap.objs.size + 4 : Nat)]) Q E { s with heap := zH5 s.heap l1 l2 } := by
  have z5 : (zH5 s.heap l1 l2).objs.size = (s.heap.objs.size + 5 : Nat) := by simp [Heap.size_push]
  refine callType_codes (Q₁ := fun obj s₁ => obj = .ref (s.heap.objs.size + 5 : Nat) ∧ s₁ = { s with heap := (zH5 s.heap l1 l2).push { cls := .type "list", data := .seq #[] } }) F.called_list (F.typeCall_list_1 _) F.entry_list_init
    (code_list_new _ ⟨by show Value.ref (zH5 s.heap l1 l2).objs.size = _; rw [z5], rfl⟩) fun obj s₁ h₁ => ?_
  obtain ⟨rfl, rfl⟩ := h₁
  have Z := ZI.start (h := s.heap) (l1 := l1) (l2 := l2) (xs := xs) (ys := ys) (o := { cls := .type "list", data := .seq #[] }) rfl
  obtain ⟨cS, hS⟩ := Z.hS
  refine ⟨⟨_, hS, rfl⟩, F.args_list_init_2 _ _, zip_init (A := A.in1) (h0 := s.heap) (B := s.heap.objs.size) hh hl1 hl2 hn1 hn2 hn Z fun h' Ts' ze => ?_⟩
  exact ⟨rfl, hQ h' Ts' ze⟩
end
-- part B0
abbrev Bag := List (Addr × Obj)
abbrev jar (a b : Int) (ta tb : Tok) (n : Nat) : Obj := listOf #[.int a ta, .int b tb] n
abbrev tup (vs : List Value) (n : Nat) : Obj := { cls := .type "tuple", data := .seq vs.toArray n }

structure JarOk (a b : Int) : Prop where
  a0 : 0 ≤ a
  b0 : 0 ≤ b
  b1 : b < 2147483647

def Tups (bag : Bag) : Prop := ∀ p ∈ bag, ∃ vs n, p.2 = tup vs n
def OffJ (J : Addr) (keep : Bag) : Prop := ∀ p ∈ keep, p.1 ≠ J
theorem Tups.cons {bag : Bag} {a : Addr} {vs : List Value} {n : Nat} (h : Tups bag) : Tups ((a, tup vs n) :: bag) := by
  intro p hp
  rcases List.mem_cons.mp hp with rfl | hp
  · exact ⟨vs, n, rfl⟩
  · exact h p hp
theorem OffJ.cons {J a : Addr} {o : Obj} {keep : Bag} (h : OffJ J keep) (ha : a ≠ J) : OffJ J ((a, o) :: keep) := by
  intro p hp
  rcases List.mem_cons.mp hp with rfl | hp
  · exact ha
  · exact h p hp
theorem OffJ.nil {J : Addr} : OffJ J [] := fun _ hp => nomatch hp

/-- how a ledger parts: the jar, what else may be written, the tuples -/
structure Parts (news : Bag) (J : Addr) (o : Obj) (keep bag : Bag) : Prop where
  sub : ∀ p ∈ (J, o) :: (keep ++ bag), p ∈ news
  off : OffJ J keep
  tups : Tups bag
theorem Parts.base {J : Addr} {o : Obj} {keep bag : Bag} (h1 : OffJ J keep) (h2 : Tups bag) : Parts ((J, o) :: (keep ++ bag)) J o keep bag := ⟨fun _ h => h, h1, h2⟩
theorem Parts.tup {J a : Addr} {o : Obj} {vs : List Value} {n : Nat} {news keep bag : Bag} (h : Parts news J o keep bag) : Parts ((a, Mine.tup vs n) :: news) J o keep ((a, Mine.tup vs n) :: bag) := by
  refine ⟨fun p hp => ?_, h.off, h.tups.cons⟩
  have := h.sub p
  simp only [List.mem_cons, List.mem_append] at hp this ⊢
  rcases hp with hp | hp | hp | hp
  · exact .inr (this (.inl hp))
  · exact .inr (this (.inr (.inl hp)))
  · exact .inl hp
  · exact .inr (this (.inr (.inr hp)))
theorem Parts.other {J a : Addr} {o o' : Obj} {news keep bag : Bag} (h : Parts news J o keep bag) (ha : a ≠ J) : Parts ((a, o') :: news) J o ((a, o') :: keep) bag := by
  refine ⟨fun p hp => ?_, h.off.cons ha, h.tups⟩
  have := h.sub p
  simp only [List.mem_cons, List.mem_append] at hp this ⊢
  rcases hp with hp | (hp | hp) | hp
  · exact .inr (this (.inl hp))
  · exact .inl hp
  · exact .inr (this (.inr (.inl hp)))
  · exact .inr (this (.inr (.inr hp)))

structure Amb (w : World) (mean : ExcName → Option Value) (mg mb : Str → Option Value) (A : Around) (h₀ : Heap) (L : Addr) (d : Nat) : Prop where
  hh : A.handled = none
  fr : ∃ (A₀ : Around) (base : Heap) (env : Env) (outer : List Env), A.frames = some (env :: outer) ∧ env.frame = some L ∧ env.scope.kind = .function ∧ Below A₀ base outer h₀
  depth : A.depth + d < 1000
  units : A.units + 8 * d + 200 < 9900
  X : (hd.heap_39 w.params).In h₀
  T : Top hd.view_39 (looseW hd.view_39 []) mean mg mb h₀

theorem Amb.inner {w : World} {mean : ExcName → Option Value} {mg mb : Str → Option Value} {A : Around} {h₀ base g : Heap} {L L' : Addr} {d : Nat} {env env' : Env} {outer : List Env}
    (Am : Amb w mean mg mb A h₀ L (d + 1)) (hA : A.frames = some (env :: outer)) (B : Below A base (env :: outer) g) (X : (hd.heap_39 w.params).In g) (T : Top hd.view_39 (looseW hd.view_39 []) mean mg mb g)
    (hf : env'.frame = some L') (hk : env'.scope.kind = .function) : Amb w mean mg mb (A.deeper env') g L' d where
  hh := Am.hh
  fr := ⟨A, base, env', env :: outer, by simp [Around.deeper, hA], hf, hk, B⟩
  depth := by have := Am.depth; show A.depth + 1 + d < 1000; omega
  units := by have := Am.units; show A.units + 3 + 8 * d + 200 < 9900; omega
  X := X
  T := T
theorem Amb.into {w : World} {mean : ExcName → Option Value} {mg mb : Str → Option Value} {A : Around} {h₀ base g : Heap} {L L' : Addr} {d : Nat} {env env' : Env} {outer : List Env} {α : Type} {M : Model} {t : Sem α} {Q : α → Shared → Prop} {E : Value → Shared → Prop} {s : Shared}
    (Am : Amb w mean mg mb A h₀ L (d + 1)) (hA : A.frames = some (env :: outer)) (B : Below A base (env :: outer) g) (X : (hd.heap_39 w.params).In g) (T : Top hd.view_39 (looseW hd.view_39 []) mean mg mb g)
    (k : Amb w mean mg mb (A.deeper env') g L' d → wpAny M (A.deeper env') t Q E s) (hf : env'.frame = some L') (hk : env'.scope.kind = .function) : wpAny M (A.deeper env') t Q E s := k (Amb.inner Am hA B X T hf hk)
theorem Amb.mono {w : World} {mean : ExcName → Option Value} {mg mb : Str → Option Value} {A : Around} {h₀ : Heap} {L : Addr} {d d' : Nat} (Am : Amb w mean mg mb A h₀ L d) (h : d' ≤ d) : Amb w mean mg mb A h₀ L d' :=
  ⟨Am.hh, Am.fr, by have := Am.depth; omega, by have := Am.units; omega, Am.X, Am.T⟩

theorem News.sub {h₀ h : Heap} {L : Addr} {news news' : Bag} (N : News h₀ L h news) (hs : ∀ p ∈ news', p ∈ news) : News h₀ L h news' := fun p hp => N p (hs p hp)

def Ends (news : Bag) (J : Addr) (o : Obj) (keep bag : Bag) : Prop := ∀ p ∈ (J, o) :: (keep ++ bag), p ∈ news
theorem Ends.base {J : Addr} {o : Obj} {keep bag : Bag} : Ends ((J, o) :: (keep ++ bag)) J o keep bag := fun _ h => h
theorem Ends.less {J : Addr} {o : Obj} {x : Addr × Obj} {rest keep bag : Bag} (h : Ends ((J, o) :: rest) J o keep bag) : Ends ((J, o) :: x :: rest) J o keep bag := fun p hp => by
  rcases List.mem_cons.mp (h p hp) with h | h
  · exact h ▸ .head _
  · exact .tail _ (.tail _ h)
theorem Ends.skip {J : Addr} {o : Obj} {x : Addr × Obj} {news keep bag : Bag} (h : Ends news J o keep bag) : Ends (x :: news) J o keep bag := fun p hp => .tail _ (h p hp)
theorem Ends.tup {J a : Addr} {o : Obj} {vs : List Value} {n : Nat} {news keep bag : Bag} (h : Ends news J o keep bag) : Ends ((a, Mine.tup vs n) :: news) J o keep ((a, Mine.tup vs n) :: bag) := by
  intro p hp
  have := h p
  simp only [List.mem_cons, List.mem_append] at hp this ⊢
  rcases hp with hp | hp | hp | hp
  · exact .inr (this (.inl hp))
  · exact .inr (this (.inr (.inl hp)))
  · exact .inl hp
  · exact .inr (this (.inr (.inr hp)))
/-- what is new in bag' lies above all of keep -/
def Fresh (keep bag bag' : Bag) : Prop := ∀ p ∈ bag', p ∈ bag ∨ ∀ q ∈ keep, q.1 < p.1
theorem Fresh.refl {keep bag : Bag} : Fresh keep bag bag := fun _ h => .inl h
theorem Fresh.cons {keep bag bag' : Bag} {a : Addr} {o : Obj} (h : Fresh keep bag bag') (l : ∀ q ∈ keep, q.1 < a) : Fresh keep bag ((a, o) :: bag') := by
  intro p hp
  rcases List.mem_cons.mp hp with rfl | hp
  · exact .inr l
  · exact h p hp
theorem Fresh.trans {keep keep' bag b1 b2 : Bag} (h : Fresh keep bag b1) (k : Fresh keep' b1 b2) (s : ∀ q ∈ keep, q ∈ keep') : Fresh keep bag b2 := by
  intro p hp
  rcases k p hp with hp | hp
  · exact h p hp
  · exact .inr fun q hq => hp q (s q hq)
theorem above_of {news keep : Bag} {D : Addr} (l : ∀ p ∈ news, p.1 < D) (hs : ∀ q ∈ keep, q ∈ news) : ∀ q ∈ keep, q.1 < D := fun q hq => l q (hs q hq)

/-- what a call leaves: the jar changed, keep as it stood, more tuples, and R of these -/
inductive Back (h₀ : Heap) (L : Addr) (m : Str → Option Value) (J : Addr) (keep bag : Bag) (R : Bag → Prop) (h' : Heap) : Prop
  | mk (a b : Int) (ta tb : Tok) (n : Nat) (bag' : Bag) (ok : JarOk a b) (F : Fr h₀ L h' m) (N : News h₀ L h' ((J, jar a b ta tb n) :: (keep ++ bag'))) (s : ∀ p ∈ bag, p ∈ bag') (t : Tups bag') (f : Fresh keep bag bag') (r : R bag') : Back h₀ L m J keep bag R h'
theorem Back.intro {h₀ h' : Heap} {L J : Addr} {m : Str → Option Value} {keep bag bag' news : Bag} {R : Bag → Prop} {a b : Int} {ta tb : Tok} {n : Nat} (ok : JarOk a b) (F : Fr h₀ L h' m) (N : News h₀ L h' news) (e : Ends news J (jar a b ta tb n) keep bag')
    (s : ∀ p ∈ bag, p ∈ bag') (t : Tups bag') (f : Fresh keep bag bag') (r : R bag') : Back h₀ L m J keep bag R h' := ⟨a, b, ta, tb, n, bag', ok, F, News.sub N e, s, t, f, r⟩
theorem off_new {news keep : Bag} {L c : Addr} (l : ∀ p ∈ news, p.1 < L) (hc : @LE.le Nat _ L c) (hs : ∀ p ∈ keep, p ∈ news) : ∀ p ∈ keep, p.1 ≠ c := fun p hp e => by
  have h1 : @LT.lt Nat _ p.1 L := l p (hs p hp)
  rw [e] at h1
  exact absurd h1 (Nat.not_lt.mpr hc)
theorem off_tup {h₀ h : Heap} {L c : Addr} {o : Obj} {v : Option Value} {news bag : Bag} (N : News h₀ L h news) (hm : (c, o) ∈ news) (ho : o.data = .cell v) (t : Tups bag) (hs : ∀ p ∈ bag, p ∈ news) : ∀ p ∈ bag, p.1 ≠ c := fun p hp e => by
  have h1 := (N p (hs p hp)).1
  rw [e, (N _ hm).1] at h1
  obtain ⟨vs, n, e2⟩ := t p hp
  rw [← Option.some.inj h1] at e2
  have e3 : o = tup vs n := e2
  rw [e3] at ho
  cases ho
theorem sub_cons {bag bag' : Bag} {x : Addr × Obj} (h : ∀ p ∈ bag, p ∈ bag') : ∀ p ∈ bag, p ∈ x :: bag' := fun p hp => List.mem_cons_of_mem _ (h p hp)
theorem sub_refl {bag : Bag} : ∀ p ∈ bag, p ∈ bag := fun _ h => h
theorem sub_trans {b1 b2 b3 : Bag} (h : ∀ p ∈ b1, p ∈ b2) (k : ∀ p ∈ b2, p ∈ b3) : ∀ p ∈ b1, p ∈ b3 := fun p hp => k p (h p hp)
theorem News.drop {h₀ h : Heap} {L : Addr} {q x : Addr × Obj} {keep bag : Bag} (N : News h₀ L h (q :: (x :: keep ++ bag))) : News h₀ L h (q :: (keep ++ bag)) :=
  News.sub N fun p hp => by
    rcases List.mem_cons.mp hp with rfl | hp
    · exact .head _
    · exact .tail _ (.tail _ hp)

theorem fm {x k : Int} (h : 0 < k) : 0 ≤ x.fmod k ∧ x.fmod k < k := by
  rw [Int.fmod_eq_emod_of_nonneg x (Int.le_of_lt h)]
  exact ⟨Int.emod_nonneg _ (by omega), Int.emod_lt_of_pos _ h⟩
theorem fd {x k : Int} (h : 0 < k) (hx : 0 ≤ x) : 0 ≤ x.fdiv k := by
  rw [Int.fdiv_eq_ediv_of_nonneg x (Int.le_of_lt h)]
  exact Int.ediv_nonneg hx (Int.le_of_lt h)
theorem sq_ok {x y : Int} (h : 0 ≤ x ∧ x < 2147483647) : IntMulOk x y := IntMulOk.of_left (intBits_le_64 (by omega) (by omega))


section
variable {prog : Program} {w : World} {A : Around} {E : Value → Shared → Prop} {s : Shared} {h₀ : Heap} {L l : Addr} {news : Bag} {vs : List Value} {n : Nat} {Q : Value → Shared → Prop}
theorem item_list {value slice : Expr} {k : Int} {u : Tok} (N : News h₀ L s.heap news) (hm : (l, listOf vs.toArray n) ∈ news) (h0 : 0 ≤ k) (hk : k < (vs.length : Int)) (hv : vs.length ≤ 1000) (h : ∀ v, vs[k.toNat]? = some v → Q v s)
    (hs : subscripted slice false (.ref l) (.int k u) = operate [.ref l, .int k u] (getItem (.ref l) (.int k u)) := by with_unfolding_all rfl) :
    wpAny (model prog w) A (subscriptTail value slice (.ref l) (.int k u)) Q E s := by
  have hl : s.heap.IsList l vs.toArray := ⟨_, (N _ hm).1, rfl, n, rfl⟩
  have hlt : k.toNat < vs.length := by omega
  have hx : vs[k.toNat]? = some vs[k.toNat] := List.getElem?_eq_getElem hlt
  exact tail_any hl.typeIs slot_list_getitem.lookup (wpAny_getItem_list hl h0 (by omega) (by simpa using hx) (h _ hx)) hs
theorem item_list0 {value slice : Expr} {k : Int} {u : Tok} {v : Value} (N : News h₀ L s.heap news) (hm : (l, listOf vs.toArray n) ∈ news) (h0 : 0 ≤ k) (hk : k < 2 ^ 63) (hx : vs[k.toNat]? = some v) (h : Q v s)
    (hs : subscripted slice false (.ref l) (.int k u) = operate [.ref l, .int k u] (getItem (.ref l) (.int k u)) := by with_unfolding_all rfl) :
    wpAny (model prog w) A (subscriptTail value slice (.ref l) (.int k u)) Q E s :=
  have hl : s.heap.IsList l vs.toArray := ⟨_, (N _ hm).1, rfl, n, rfl⟩
  tail_any hl.typeIs slot_list_getitem.lookup (wpAny_getItem_list hl h0 hk (by simpa using hx) h) hs
theorem tupleOf {m : Str → Option Value} (F : Fr h₀ L s.heap m) (N : News h₀ L s.heap news) (hm : (l, listOf vs.toArray n) ∈ news) (hz : vs.length ≤ 1000)
    (h : ∀ D h', Fr h₀ L h' m → News h₀ L h' ((D, tup vs 0) :: news) → (∀ p ∈ news, p.1 < D) → Q (.ref D) { s with heap := h' }) : wpAny (model prog w) A (call (.type "tuple") [.ref l]) Q E s :=
  kde_tupleOf F N (items := vs.toArray) ⟨_, (N _ hm).1, rfl, n, rfl⟩ (by rw [List.size_toArray]; omega) (by simp) (fun D h' F' N' l1 => h D h' F' N' l1)
theorem len_lst (N : News h₀ L s.heap news) (hm : (l, listOf vs.toArray n) ∈ news) (hv : vs.length ≤ 1000) (h : Q (.int (vs.length : Int) (s.toks + 1)) { s with toks := s.toks + 1 + 1 }) : wpAny (model prog w) A (call (.builtin "len") [.ref l]) Q E s := by
  have hl : s.heap.IsList l vs.toArray := ⟨_, (N _ hm).1, rfl, n, rfl⟩
  exact len_list hl (by rw [List.size_toArray]; omega) (by rw [List.size_toArray]; exact h)
theorem len_tup (N : News h₀ L s.heap news) (hm : (l, tup vs n) ∈ news) (hv : vs.length ≤ 1000) (h : Q (.int (vs.length : Int) (s.toks + 1)) { s with toks := s.toks + 1 + 1 }) : wpAny (model prog w) A (call (.builtin "len") [.ref l]) Q E s := by
  have ht : IsTup s.heap l vs.toArray := ⟨_, (N _ hm).1, rfl, n, rfl⟩
  exact len_tuple ht (by rw [List.size_toArray]; omega) (by rw [List.size_toArray]; exact h)
end

theorem newTup {M : Model} {A : Around} {E : Value → Shared → Prop} {s : Shared} {h₀ : Heap} {L : Addr} {m : Str → Option Value} {news : Bag} {vs : List Value} {Q : Value → Shared → Prop} (F : Fr h₀ L s.heap m) (N : News h₀ L s.heap news)
    (h : ∀ D h', Fr h₀ L h' m → News h₀ L h' ((D, tup vs 0) :: news) → (∀ p ∈ news, p.1 < D) → Q (.ref D) { s with heap := h' }) (hz : vs.length ≤ sizeLine) : wpAny M A (newTuple vs) Q E s :=
  newTuple_N F N (fun h' F' N' => h _ h' F' N' fun p hp => Heap.lt_size (N p hp).1) hz
theorem newLst {M : Model} {A : Around} {E : Value → Shared → Prop} {s : Shared} {h₀ : Heap} {L J : Addr} {m : Str → Option Value} {news : Bag} {vs : List Value} {o : Obj} {Q : Value → Shared → Prop} (F : Fr h₀ L s.heap m) (N : News h₀ L s.heap news) (hJ : (J, o) ∈ news)
    (h : ∀ D h', Fr h₀ L h' m → News h₀ L h' ((D, listOf vs.toArray 0) :: news) → D ≠ J → Q (.ref D) { s with heap := h' }) (hz : vs.length ≤ sizeLine) : wpAny M A (newList vs) Q E s :=
  newList_N F N (fun h' F' N' => h _ h' F' N' (Nat.ne_of_gt (Heap.lt_size (N _ hJ).1))) hz

-- the walk's own words
theorem rows17 : True := by
  (k_with "MyBack" => ((refine' Back.intro ?k1v1w ?k2v1w ?k3v1w ?k4v1w ?k5v1w ?k6v1w ?k7v1w ?_; (case k1v1w => assumption); (case k2v1w => k_asm); (case k3v1w => k_asm); (case k4v1w => walk_at "MyEnds"); (case k5v1w => walk_at "MySub"); (case k6v1w => walk_at "MyTups"); (case k7v1w => walk_at "MyFresh"))))
  (k_with "MyAbove" => ((refine' above_of ?l9v2w ?s9v2w; (case l9v2w => assumption); (case s9v2w => (intro q9v2w hq9v2w; k_mem)))))
  (k_with "MyFresh" => (first | exact Fresh.refl | with_reducible assumption | (refine' Fresh.cons ?h9v3w ?l9v3w; (case l9v3w => walk_at "MyAbove"); (case h9v3w => walk_at "MyFresh"))))
  (k_with "MyEnds" => (first | exact Ends.base | (refine' Ends.less ?he9v4w; (case he9v4w => walk_at "MyEnds")) | (refine' Ends.tup ?he9v4w; (case he9v4w => walk_at "MyEnds")) | (refine' Ends.skip ?he9v4w; (case he9v4w => walk_at "MyEnds"))))
  (k_with "@newTuple" => ((k_here; k_dflt (refine' newTup ?Fv5w ?Nv5w ?_ ?zv5w; (case Fv5w => k_asm); (case Nv5w => k_asm); (case zv5w => exact Nat.le_of_ble_eq_true rfl)); intro D9v5w h9v5w F9v5w N9v5w l9v5w; (try k_sweep))))
  trivial
local macro_rules | `(tactic| k_mem) => `(tactic| first | (with_reducible assumption) | exact List.mem_cons_self | (refine List.mem_cons_of_mem _ ?_; k_mem) | (refine List.mem_append.mpr (Or.inl ?_); k_mem) | (refine List.mem_append.mpr (Or.inr ?_); k_mem))
local macro_rules | `(tactic| k_ne) => `(tactic| first | (with_reducible assumption) | (refine Ne.symm ?_; with_reducible assumption))
theorem rows18 : True := by
  (k_with "MyOff" => (first | with_reducible assumption | exact OffJ.nil | (refine' OffJ.cons ?ho9v6w ?hn9v6w; (case hn9v6w => first | assumption | k_ne); (case ho9v6w => walk_at "MyOff"))))
  (k_with "MyParts" => (first | exact Parts.base (by walk_at "MyOff") (by with_reducible assumption) | (refine' Parts.tup ?hp9v7w; (case hp9v7w => walk_at "MyParts")) | (refine' Parts.other ?hp9v7w ?hne9v7w; (case hne9v7w => first | assumption | k_ne); (case hp9v7w => walk_at "MyParts"))))
  (k_with "MyEnter" => ((refine' code_def ?k1v8w ?k2v8w ?k3v8w ?k4v8w ?k5v8w ?kAv8w ?kFv8w ?kKv8w ?k6v8w ?k7v8w ?k8v8w ?k9v8w ?kBv8w ?_ ?c2v8w ?c3v8w ?c4v8w ?c5v8w; (case kAv8w => first | assumption | exact rfl); (case kFv8w => assumption); (case kKv8w => assumption); (case k1v8w => k_asm); (case k2v8w => k_asm); (case k3v8w => k_asm); (case k4v8w => k_asm); (case k5v8w => k_asm); (case k6v8w => k_is); (case k7v8w => k_is); (case k8v8w => ((try dsimp only); simp only [recursionLimit]; omega)); (case k9v8w => exact BindsTo.of_eq rfl); (case c5v8w => decide); (case kBv8w => exact locs rfl); (case c2v8w => exact rfl); (case c3v8w => exact rfl); (case c4v8w => exact rfl); k_whole; intro g' L' h' FG' F' N' B' X' T'; (refine Amb.into (by assumption) (by first | assumption | exact rfl) B' X' T' ?_ rfl rfl); intro Am'; (try dsimp only); (try k_fold))))
  (k_with "@call builtin:len" => ((k_here; k_dflt (first
  | (refine' len_lst ?Nv9w ?mv9w ?vv9w ?_; (case Nv9w => k_asm); (case mv9w => k_mem); (case vv9w => omega))
  | (refine' len_tup ?Nv9w ?mv9w ?vv9w ?_; (case Nv9w => k_asm); (case mv9w => k_mem); (case vv9w => omega))))))
  (k_with "@subscriptTail" => ((k_here; (with_reducible show wpAny _ _ (subscriptTail _ _ (Value.ref _) (Value.int _ _)) _ _ _); k_dflt (first
  | (refine' item_tupleT ?tv10w ?av10w ?bv10w ?cv10w ?dv10w ?_ ?hsv10w; (case tv10w => exact News.isTup (by k_asm) (by k_mem)); (case av10w => decide); (case bv10w => decide); (case cv10w => rfl); (case dv10w => rfl); (case hsv10w => with_unfolding_all rfl); k_whole)
  | (refine' item_list0 ?Nv10w ?mv10w ?av10w ?bv10w ?dv10w ?_ ?hsv10w; (case Nv10w => k_asm); (case mv10w => k_mem); (case av10w => decide); (case bv10w => decide); (case dv10w => rfl); (case hsv10w => with_unfolding_all rfl); k_whole)))))
  (k_with "@call type:tuple" => ((k_here; (with_reducible show wpAny _ _ (call (Value.type _) [Value.ref _]) _ _ _); k_dflt (refine' tupleOf ?Fv11w ?Nv11w ?mv11w ?zv11w ?_; (case Fv11w => k_asm); (case Nv11w => k_asm); (case mv11w => k_mem); (case zv11w => omega)); intro D9v11w h9v11w F9v11w N9v11w l9v11w; (try k_sweep))))
  (k_with "@subscriptTail" => ((k_here; (with_reducible show wpAny _ _ (subscriptTail _ _ (Value.ref _) (Value.int _ _)) _ _ _); k_dflt (refine' item_list ?Nv12w ?mv12w ?av12w ?bv12w ?vv12w ?_ ?hsv12w; (case Nv12w => k_asm); (case mv12w => k_mem); (case av12w => omega); (case bv12w => omega); (case vv12w => omega); (case hsv12w => with_unfolding_all rfl)); intro v9v12w hv9v12w)))
  (k_with "MyIn" => (first | exact DatIn.none | exact DatIn.int _ _ | exact DatIn.str _ _ | exact DatIn.bool _ | with_reducible assumption | (refine' DatIn.mono ?s9v13w ?a9v13w; (case a9v13w => with_reducible assumption); (case s9v13w => walk_at "MySub")) | exact DatIn.tuple (by k_mem) (by walk_at "MyAll")))
  (k_with "MyAll" => (first | with_reducible assumption | exact DatAll.nil | (refine' DatAll.mono ?s9v14w ?a9v14w; (case a9v14w => with_reducible assumption); (case s9v14w => walk_at "MySub")) | exact DatAll.cons (by walk_at "MyIn") (by walk_at "MyAll")))
  (k_with "MyTups" => (first | with_reducible assumption | (refine Tups.cons ?_; walk_at "MyTups")))
  (k_with "MySub" => (first | exact sub_refl | with_reducible assumption | (intro p9v16w hp9v16w; k_mem) | (refine List.forall_mem_append.mpr ⟨?_, ?_⟩ <;> walk_at "MySub") | (refine List.forall_mem_cons.mpr ⟨?_, ?_⟩; k_mem; walk_at "MySub") | (refine sub_cons ?_; walk_at "MySub")))
  trivial
-- part B1
local macro_rules | `(tactic| k_all) => `(tactic| assumption)
theorem rows22 : True := by
  (k_with "@binaryOp Mult int int" => ((k_here; refine mul_int ?_ (sq_ok (fm (k := 2147483647) (by decide))))))
  trivial
theorem dip0 {w : World} {mean : ExcName → Option Value} {mg mb : Str → Option Value} {A : Around} {h₀ : Heap} {L J : Addr} {m : Str → Option Value} {s : Shared} {rest : Bag}
    {a b top : Int} {ta tb tt : Tok} {n : Nat} {Q E : Value → Shared → Prop}
    (Am : Amb w mean mg mb A h₀ L (0 + 1)) (F : Fr h₀ L s.heap m)
    (N : News h₀ L s.heap ((J, jar a b ta tb n) :: rest)) (hJ : ∀ p ∈ rest, p.1 ≠ J) (ok : JarOk a b) (ht : 1 ≤ top) (ht' : top ≤ 100)
    (ret : ∀ (r a' b' : Int) tr ta' tb' n' h' tk', 0 ≤ r → r < top → JarOk a' b' → Fr h₀ L h' m → News h₀ L h' ((J, jar a' b' ta' tb' n') :: rest) → Q (.int r tr) { s with heap := h', toks := tk' }) :
    wpAny (model Challenge.rw_xm0574_01.prog w) A (call (.ref 40) [.ref J, .int top tt]) Q E s := by
  obtain ⟨ha0, hb0, hb1⟩ := ok
  obtain ⟨A₀, base, env, outer, hA, hf, hke, B⟩ := Am.fr
  have X := Am.X
  have T := Am.T
  have hdep := Am.depth
  refine wpAny_call ?_
  k_dflt walk_at "MyEnter"
  k_steps
  · refine ret _ _ _ _ _ _ _ _ _ ?_ ?_ ?_ (by k_asm) (by k_asm)
    · exact (fm (by omega)).1
    · exact (fm (by omega)).2
    · exact ⟨fd (by omega) ha0, hb0, hb1⟩
  · refine ret _ _ _ _ _ _ _ _ _ ?_ ?_ ?_ (by k_asm) (by k_asm)
    · exact (fm (by omega)).1
    · exact (fm (by omega)).2
    · exact ⟨ha0, (fm (by omega)).1, (fm (by omega)).2⟩

theorem dip {w : World} {mean : ExcName → Option Value} {mg mb : Str → Option Value} {A : Around} {h₀ : Heap} {L J : Addr} {m : Str → Option Value} {s : Shared} {news keep bag : Bag}
    {a b top : Int} {ta tb tt : Tok} {n d : Nat} {Q E : Value → Shared → Prop}
    (Am : Amb w mean mg mb A h₀ L (d + 1)) (F : Fr h₀ L s.heap m)
    (N : News h₀ L s.heap news) (P : Parts news J (jar a b ta tb n) keep bag) (ok : JarOk a b) (ht : 1 ≤ top) (ht' : top ≤ 100)
    (ret : ∀ (r a' b' : Int) tr ta' tb' n' h' tk', 0 ≤ r → r < top → JarOk a' b' → Fr h₀ L h' m → News h₀ L h' ((J, jar a' b' ta' tb' n') :: (keep ++ bag)) → Q (.int r tr) { s with heap := h', toks := tk' }) :
    wpAny (model Challenge.rw_xm0574_01.prog w) A (call (.ref 40) [.ref J, .int top tt]) Q E s := by
  refine dip0 (Am.mono (by omega)) F (News.sub N P.sub) (fun p hp => ?_) ok ht ht' (fun r a' b' tr ta' tb' n' h' tk' h1 h2 h3 F' N' => ret r a' b' tr ta' tb' n' h' tk' h1 h2 h3 F' N')
  rcases List.mem_append.mp hp with hp' | hp'
  · exact P.off p hp'
  · intro e
    have h1 := (N _ (P.sub _ (List.mem_cons_of_mem _ hp))).1
    have h2 := (N _ (P.sub _ List.mem_cons_self)).1
    rw [e, h2] at h1
    obtain ⟨vs9, n9, h3⟩ := P.tups p hp'
    rw [← Option.some.inj h1] at h3
    have h4 : (jar a b ta tb n).cls = (tup vs9 n9).cls := congrArg Obj.cls h3
    exact absurd h4 (show Value.type "list" ≠ Value.type "tuple" by decide)
theorem rows23 : True := by
  (k_with "@call ref" => ((k_here; (with_reducible show wpAny _ _ (call (Value.ref 40) _) _ _ _); k_dflt (refine' dip ?amv20w ?Fv20w ?Nv20w ?Pv20w ?okv20w ?htv20w ?ht'v20w ?_; (case amv20w => assumption); (case Fv20w => k_asm); (case Nv20w => k_asm); (case Pv20w => walk_at "MyParts"); (case okv20w => assumption); (case htv20w => omega); (case ht'v20w => omega)); intro r9v20w a9v20w b9v20w tr9v20w ta9v20w tb9v20w n9v20w h9v20w tk9v20w hr9v20w hrt9v20w ok9v20w F9v20w N9v20w)))
  trivial
theorem one {w : World} {mean : ExcName → Option Value} {mg mb : Str → Option Value} {A : Around} {h₀ : Heap} {L J l : Addr} {m : Str → Option Value} {s : Shared} {news keep bag : Bag}
    {a b : Int} {ta tb : Tok} {n d k : Nat} {vs : List Value} {Q E : Value → Shared → Prop}
    (Am : Amb w mean mg mb A h₀ L (d + 2)) (F : Fr h₀ L s.heap m)
    (N : News h₀ L s.heap news) (P : Parts news J (jar a b ta tb n) keep bag) (ok : JarOk a b) (hl : (l, listOf vs.toArray k) ∈ keep) (hv : 1 ≤ vs.length) (hv' : vs.length ≤ 100)
    (ret : ∀ (i : Nat) (r : Value) a' b' ta' tb' n' h' tk', vs[i]? = some r → JarOk a' b' → Fr h₀ L h' m → News h₀ L h' ((J, jar a' b' ta' tb' n') :: (keep ++ bag)) → Q r { s with heap := h', toks := tk' }) :
    wpAny (model Challenge.rw_xm0574_01.prog w) A (call (.ref 47) [.ref J, .ref l]) Q E s := by
  obtain ⟨A₀, base, env, outer, hA, hf, hke, B⟩ := Am.fr
  have X := Am.X
  have T := Am.T
  have hdep := Am.depth
  have N1 := News.sub N P.sub
  have hoff := P.off
  have htup := P.tups
  refine wpAny_call ?_
  k_dflt walk_at "MyEnter"
  k_steps
  exact ret _ _ _ _ _ _ _ _ _ (by assumption) (by assumption) (by k_asm) (by k_asm)
theorem rows24 : True := by
  (k_with "@call ref" => ((k_here; (with_reducible show wpAny _ _ (call (Value.ref 47) _) _ _ _); k_dflt (refine' one ?amv21w ?Fv21w ?Nv21w ?Pv21w ?okv21w ?mv21w ?v1v21w ?v2v21w ?_; (case amv21w => assumption); (case Fv21w => k_asm); (case Nv21w => k_asm); (case Pv21w => walk_at "MyParts"); (case okv21w => assumption); (case mv21w => k_mem); (case v1v21w => exact Nat.le_of_ble_eq_true rfl); (case v2v21w => exact Nat.le_of_ble_eq_true rfl)); intro i9v21w r9v21w a9v21w b9v21w ta9v21w tb9v21w n9v21w h9v21w tk9v21w hi9v21w ok9v21w F9v21w N9v21w)))
  trivial
theorem pick_dat {bag : Bag} : ∀ {vs : List Value} {ds : List Dat}, DatAll bag vs ds → ∀ {i : Nat} {r : Value}, vs[i]? = some r → ∃ d ∈ ds, DatIn bag r d
  | _, _, .nil, i, r, h => by simp at h
  | _, _, .cons hd _, 0, r, h => ⟨_, .head _, Option.some.inj h ▸ hd⟩
  | _, _, .cons _ hr, i + 1, r, h =>
    let ⟨d, hd, hi⟩ := pick_dat hr (i := i) (by simpa using h)
    ⟨d, .tail _ hd, hi⟩
theorem pick_in {bag : Bag} {vs : List Value} {ds : List Dat} {i : Nat} {r : Value} (hi : vs[i]? = some r) (h : DatAll bag vs ds) : ∃ d ∈ ds, DatIn bag r d := pick_dat h hi
def leafs : List Dat := [.tuple [.str "bool"], .tuple [.str "int", .str "u8"], .tuple [.str "param", .str "T"], .tuple [.str "var", .int 3], .tuple [.str "box", .tuple [.str "bool"]]]

theorem leaf {w : World} {mean : ExcName → Option Value} {mg mb : Str → Option Value} {A : Around} {h₀ : Heap} {L J : Addr} {m : Str → Option Value} {s : Shared} {news keep bag : Bag}
    {a b : Int} {ta tb : Tok} {n d : Nat} {Q E : Value → Shared → Prop}
    (Am : Amb w mean mg mb A h₀ L (d + 3)) (F : Fr h₀ L s.heap m)
    (N : News h₀ L s.heap news) (P : Parts news J (jar a b ta tb n) keep bag) (ok : JarOk a b)
    (ret : ∀ (r : Value) h' tk', Back h₀ L m J keep bag (fun bag' => ∃ e ∈ leafs, DatIn bag' r e) h' → Q r { s with heap := h', toks := tk' }) :
    wpAny (model Challenge.rw_xm0574_01.prog w) A (call (.ref 54) [.ref J]) Q E s := by
  obtain ⟨A₀, base, env, outer, hA, hf, hke, B⟩ := Am.fr
  have X := Am.X
  have T := Am.T
  have hdep := Am.depth
  have N1 := News.sub N P.sub
  have hoff := P.off
  have htup := P.tups
  refine wpAny_call ?_
  k_dflt walk_at "MyEnter"
  k_steps
  refine ret _ _ _ ?_
  walk_at "MyBack"
  exact pick_in (ds := leafs) (by assumption) (by walk_at "MyAll")

abbrev Hd := Str × Dat × Nat
def heads : List Hd := [("int", .str "u8", 0), ("int", .str "i32", 0), ("bool", .none, 0), ("never", .none, 0), ("param", .str "T", 0), ("param", .str "U", 0), ("var", .int 0, 0), ("var", .int 1, 0), ("intvar", .int 1, 0),
  ("tuple", .none, 0), ("tuple", .none, 1), ("tuple", .none, 3), ("ref", .bool true, 1), ("ref", .bool false, 1), ("box", .none, 1), ("array", .int 0, 1), ("array", .int 3, 1), ("adt", .str "m::S", 0), ("adt", .str "m::S", 1), ("adt", .str "m::S", 2), ("adt", .str "m::E", 1)]
def hdat (h : Hd) : Dat := .tuple [.str h.1, h.2.1, .int (h.2.2 : Int)]

theorem pick_head {bag : Bag} {vs : List Value} {i : Nat} {r : Value} (hi : vs[i]? = some r) (h : DatAll bag vs (heads.map hdat)) : ∃ hd9 ∈ heads, DatIn bag r (hdat hd9) := by
  obtain ⟨d, hd, hr⟩ := pick_dat h hi
  obtain ⟨x, hx, rfl⟩ := List.mem_map.mp hd
  exact ⟨x, hx, hr⟩

theorem head {w : World} {mean : ExcName → Option Value} {mg mb : Str → Option Value} {A : Around} {h₀ : Heap} {L J : Addr} {m : Str → Option Value} {s : Shared} {news keep bag : Bag}
    {a b : Int} {ta tb : Tok} {n d : Nat} {Q E : Value → Shared → Prop}
    (Am : Amb w mean mg mb A h₀ L (d + 3)) (F : Fr h₀ L s.heap m)
    (N : News h₀ L s.heap news) (P : Parts news J (jar a b ta tb n) keep bag) (ok : JarOk a b)
    (ret : ∀ (r : Value) h' tk', Back h₀ L m J keep bag (fun bag' => ∃ hd9 ∈ heads, DatIn bag' r (hdat hd9)) h' → Q r { s with heap := h', toks := tk' }) :
    wpAny (model Challenge.rw_xm0574_01.prog w) A (call (.ref 61) [.ref J]) Q E s := by
  obtain ⟨A₀, base, env, outer, hA, hf, hke, B⟩ := Am.fr
  have X := Am.X
  have T := Am.T
  have hdep := Am.depth
  have N1 := News.sub N P.sub
  have hoff := P.off
  have htup := P.tups
  refine wpAny_call ?_
  k_dflt walk_at "MyEnter"
  k_steps
  refine ret _ _ _ ?_
  walk_at "MyBack"
  exact pick_head (by assumption) (by walk_at "MyAll")
-- part B2
theorem in_tup {bag : Bag} {v : Value} {ds : List Dat} (h : DatIn bag v (.tuple ds)) : ∃ a vs n, v = .ref a ∧ (a, tup vs n) ∈ bag ∧ DatAll bag vs ds := by
  cases h with | tuple hm hall => exact ⟨_, _, _, rfl, hm, hall⟩
theorem all_c {bag : Bag} {vs : List Value} {d : Dat} {ds : List Dat} (h : DatAll bag vs (d :: ds)) : ∃ x xs, vs = x :: xs ∧ DatIn bag x d ∧ DatAll bag xs ds := by
  cases h with | cons a b => exact ⟨_, _, rfl, a, b⟩
theorem all_n {bag : Bag} {vs : List Value} (h : DatAll bag vs []) : vs = [] := by cases h; rfl
theorem in_str {bag : Bag} {v : Value} {x : Str} (h : DatIn bag v (.str x)) : ∃ t, v = .str x t := by cases h; exact ⟨_, rfl⟩
theorem in_int {bag : Bag} {v : Value} {x : Int} (h : DatIn bag v (.int x)) : ∃ t, v = .int x t := by cases h; exact ⟨_, rfl⟩
theorem in_bool {bag : Bag} {v : Value} {x : Bool} (h : DatIn bag v (.bool x)) : v = .bool x := by cases h; rfl
theorem in_none {bag : Bag} {v : Value} (h : DatIn bag v .none) : v = .none := by cases h; rfl
section
variable {bag : Bag} {v : Value} {w x : Str} {i : Int} {b : Bool} {d g : Dat} {ds : List Dat} {P : Value → Prop}
/-- a tuple whose head is a word -/
theorem el_w (h : DatIn bag v (.tuple (.str w :: ds))) (k : ∀ a t xs n, (a, tup (.str w t :: xs) n) ∈ bag → DatAll bag xs ds → P (.ref a)) : P v := by
  obtain ⟨a, vs, n, rfl, hm, h1⟩ := in_tup h
  obtain ⟨y, xs, rfl, hy, h2⟩ := all_c h1
  obtain ⟨t, rfl⟩ := in_str hy
  exact k a t xs n hm h2
theorem el_1 (h : DatIn bag v (.tuple [.str w])) (k : ∀ a t n, (a, tup [.str w t] n) ∈ bag → P (.ref a)) : P v :=
  el_w h fun a t xs n hm hr => by
    obtain rfl := all_n hr
    exact k a t n hm
theorem el_d (h : DatIn bag v (.tuple [.str w, d])) (k : ∀ a t x n, (a, tup [.str w t, x] n) ∈ bag → DatIn bag x d → P (.ref a)) : P v :=
  el_w h fun a t xs n hm hr => by
    obtain ⟨x, xs, rfl, hx, hr⟩ := all_c hr
    obtain rfl := all_n hr
    exact k a t x n hm hx
theorem el_s (h : DatIn bag v (.tuple [.str w, .str x])) (k : ∀ a t u n, (a, tup [.str w t, .str x u] n) ∈ bag → P (.ref a)) : P v :=
  el_d h fun a t y n hm hy => by
    obtain ⟨u, rfl⟩ := in_str hy
    exact k a t u n hm
theorem el_i (h : DatIn bag v (.tuple [.str w, .int i])) (k : ∀ a t u n, (a, tup [.str w t, .int i u] n) ∈ bag → P (.ref a)) : P v :=
  el_d h fun a t y n hm hy => by
    obtain ⟨u, rfl⟩ := in_int hy
    exact k a t u n hm
theorem el_t (h : DatIn bag v (.tuple [.str w, .tuple ds])) (k : ∀ a t l n vs n2, (a, tup [.str w t, .ref l] n) ∈ bag → (l, tup vs n2) ∈ bag → DatAll bag vs ds → P (.ref a)) : P v :=
  el_d h fun a t y n hm hy => by
    obtain ⟨l, vs, n2, rfl, hm2, hr⟩ := in_tup hy
    exact k a t l n vs n2 hm hm2 hr
theorem el_dx (h : DatIn bag v (.tuple [.str w, d, g])) (k : ∀ a t x y n, (a, tup [.str w t, x, y] n) ∈ bag → DatIn bag x d → DatIn bag y g → P (.ref a)) : P v :=
  el_w h fun a t xs n hm hr => by
    obtain ⟨x, xs, rfl, hx, hr⟩ := all_c hr
    obtain ⟨y, xs, rfl, hy, hr⟩ := all_c hr
    obtain rfl := all_n hr
    exact k a t x y n hm hx hy
theorem el_di (h : DatIn bag v (.tuple [.str w, d, .int i])) (k : ∀ a t x u n, (a, tup [.str w t, x, .int i u] n) ∈ bag → DatIn bag x d → P (.ref a)) : P v :=
  el_dx h fun a t x y n hm hx hy => by
    obtain ⟨u, rfl⟩ := in_int hy
    exact k a t x u n hm hx
theorem el_4 {d1 d2 d3 : Dat} (h : DatIn bag v (.tuple [.str w, d1, d2, d3])) (k : ∀ a t x y z n, (a, tup [.str w t, x, y, z] n) ∈ bag → DatIn bag x d1 → DatIn bag y d2 → DatIn bag z d3 → P (.ref a)) : P v :=
  el_w h fun a t xs n hm hr => by
    obtain ⟨x, xs, rfl, hx, hr⟩ := all_c hr
    obtain ⟨y, xs, rfl, hy, hr⟩ := all_c hr
    obtain ⟨z, xs, rfl, hz, hr⟩ := all_c hr
    obtain rfl := all_n hr
    exact k a t x y z n hm hx hy hz
theorem el_r (h : DatIn bag v (.tuple [.str w, g, .bool b, d])) (k : ∀ a t y x n, (a, tup [.str w t, y, .bool b, x] n) ∈ bag → DatIn bag y g → DatIn bag x d → P (.ref a)) : P v :=
  el_4 h fun a t x y z n hm hx hy hz => by
    obtain rfl := in_bool hy
    exact k a t x z n hm hx hz
theorem el_a (h : DatIn bag v (.tuple [.str w, .str x, g, .tuple ds])) (k : ∀ a t u y l n vs n2, (a, tup [.str w t, .str x u, y, .ref l] n) ∈ bag → DatIn bag y g → (l, tup vs n2) ∈ bag → DatAll bag vs ds → P (.ref a)) : P v :=
  el_4 h fun a t x y z n hm hx hy hz => by
    obtain ⟨u, rfl⟩ := in_str hx
    obtain ⟨l, vs, n2, rfl, hm2, hr⟩ := in_tup hz
    exact k a t u y l n vs n2 hm hy hm2 hr
end
/-- the kinds of types that the law makes, by number -/
inductive Sh : Nat → Str → Dat → List Dat → Dat → Prop
  | tuple {ds : List Dat} : Sh 0 "tuple" .none ds (.tuple [.str "tuple", .tuple ds])
  | ref {b : Bool} {d g : Dat} : g ∈ [Dat.none, .str "'a", .int 4] → Sh 1 "ref" (.bool b) [d] (.tuple [.str "ref", g, .bool b, d])
  | box {d : Dat} : Sh 2 "box" .none [d] (.tuple [.str "box", d])
  | array {i : Int} {d : Dat} : Sh 3 "array" (.int i) [d] (.tuple [.str "array", d, .int i])
  | adt {x : Str} {g : Dat} {ds : List Dat} : g ∈ [Dat.tuple [], .tuple [.str "'a"], .tuple [.none, .int 2]] → Sh 4 "adt" (.str x) ds (.tuple [.str "adt", .str x, g, .tuple ds])
  | wpl {w : Str} : w = "bool" ∨ w = "never" → Sh 5 w .none [] (.tuple [.str w])
  | wstr {w x : Str} : w = "int" ∨ w = "param" → Sh 6 w (.str x) [] (.tuple [.str w, .str x])
  | wint {w : Str} {i : Int} : w = "var" ∨ w = "intvar" → Sh 7 w (.int i) [] (.tuple [.str w, .int i])
def kn (w : Str) : Nat := if w = "tuple" then 0 else if w = "ref" then 1 else if w = "box" then 2 else if w = "array" then 3 else if w = "adt" then 4 else if w = "bool" ∨ w = "never" then 5 else if w = "int" ∨ w = "param" then 6 else 7
theorem Sh.num {k : Nat} {w : Str} {t e : Dat} {ds : List Dat} (h : Sh k w t ds e) : k = kn w := by
  cases h with
  | wpl h => rcases h with rfl | rfl <;> decide +kernel
  | wstr h => rcases h with rfl | rfl <;> decide +kernel
  | wint h => rcases h with rfl | rfl <;> decide +kernel
  | _ => decide +kernel
def Made (w : Str) (t : Dat) (ds : List Dat) (e : Dat) : Prop := ∃ k, Sh k w t ds e
theorem Made.at {w : Str} {t e : Dat} {ds : List Dat} {k : Nat} (h : Made w t ds e) (hk : kn w = k := by decide +kernel) : Sh k w t ds e := by
  obtain ⟨k', h⟩ := h
  have := h.num
  exact (this.trans hk) ▸ h
theorem Sh.head {k : Nat} {w : Str} {t e : Dat} {ds : List Dat} (h : Sh k w t ds e) : ∃ rest, e = .tuple (.str w :: rest) := by
  cases h <;> exact ⟨_, rfl⟩
theorem made_ref {bag : Bag} {vs : List Value} {i : Nat} {g r : Value} {b : Bool} {d : Dat} (hi : vs[i]? = some g) (hg : DatAll bag vs [Dat.none, .str "'a", .int 4]) (k : ∀ gd, DatIn bag g gd → DatIn bag r (.tuple [.str "ref", gd, .bool b, d])) : ∃ e, Made "ref" (.bool b) [d] e ∧ DatIn bag r e :=
  let ⟨_, hm, hd⟩ := pick_in hi hg
  ⟨_, ⟨_, .ref hm⟩, k _ hd⟩
theorem made_adt {bag : Bag} {vs : List Value} {i : Nat} {g r : Value} {x : Str} {ds : List Dat} (hi : vs[i]? = some g) (hg : DatAll bag vs [Dat.tuple [], .tuple [.str "'a"], .tuple [.none, .int 2]]) (k : ∀ gd, DatIn bag g gd → DatIn bag r (.tuple [.str "adt", .str x, gd, .tuple ds])) : ∃ e, Made "adt" (.str x) ds e ∧ DatIn bag r e :=
  let ⟨_, hm, hd⟩ := pick_in hi hg
  ⟨_, ⟨_, .adt hm⟩, k _ hd⟩
/-- the words that _law_made asks for -/
def offW (w : Str) : Prop := (w == ("tuple" : Str)) = false ∧ (w == ("ref" : Str)) = false ∧ (w == ("box" : Str)) = false ∧ (w == ("array" : Str)) = false ∧ (w == ("adt" : Str)) = false

theorem made {w : World} {mean : ExcName → Option Value} {mg mb : Str → Option Value} {A : Around} {h₀ : Heap} {L J pl : Addr} {m : Str → Option Value} {s : Shared} {news keep bag : Bag}
    {a b : Int} {ta tb : Tok} {n d np : Nat} {Q E : Value → Shared → Prop} {vh : Value} {ps : List Value} {ds : List Dat} {wd : Str} {td : Dat} {kd : Int} {e0 : Dat}
    (Am : Amb w mean mg mb A h₀ L (d + 3)) (F : Fr h₀ L s.heap m)
    (N : News h₀ L s.heap news) (P : Parts news J (jar a b ta tb n) keep bag) (ok : JarOk a b)
    (hh : DatIn bag vh (.tuple [.str wd, td, .int kd])) (hp : (pl, listOf ps.toArray np) ∈ keep) (hds : DatAll bag ps ds) (hlen : ps.length ≤ 100) (hm : Made wd td ds e0)
    (ret : ∀ (r : Value) h' tk', Back h₀ L m J keep bag (fun bag' => ∃ e, Made wd td ds e ∧ DatIn bag' r e) h' → Q r { s with heap := h', toks := tk' }) :
    wpAny (model Challenge.rw_xm0574_01.prog w) A (call (.ref 68) [.ref J, vh, .ref pl]) Q E s := by
  obtain ⟨k9, hm⟩ := hm
  revert ret
  refine el_di (P := fun v => _ → wpAny _ _ (call (.ref 68) [.ref J, v, .ref pl]) _ _ _) hh ?_
  intro ah th vt uh nh hmem ht ret
  obtain ⟨A₀, base, env, outer, hA, hf, hke, B⟩ := Am.fr
  obtain ⟨hd8, dp, fr, gd, un⟩ := A
  obtain rfl : hd8 = none := Am.hh
  obtain rfl : fr = some (env :: outer) := hA
  have X := Am.X
  have T := Am.T
  have hdep : dp + (d + 3) < 1000 := Am.depth
  have N1 := News.sub N P.sub
  have hoff := P.off
  have htup := P.tups
  cases hm with
  | tuple =>
    refine wpAny_call ?_
    k_dflt walk_at "MyEnter"
    k_steps
    refine ret _ _ _ ?_
    walk_at "MyBack"
    exact ⟨_, ⟨_, .tuple⟩, by walk_at "MyIn"⟩
  | ref hg =>
    obtain rfl := in_bool ht
    obtain ⟨y, ys, rfl, hd1, hds1⟩ := all_c hds
    refine wpAny_call ?_
    k_dflt walk_at "MyEnter"
    k_steps
    (rename _ = some _ => hi)
    refine ret _ _ _ ?_
    walk_at "MyBack"
    exact made_ref hi (by walk_at "MyAll") fun g9 ig9 => by walk_at "MyIn"
  | box =>
    obtain ⟨y, ys, rfl, hd1, hds1⟩ := all_c hds
    refine wpAny_call ?_
    k_dflt walk_at "MyEnter"
    k_steps
    refine ret _ _ _ ?_
    walk_at "MyBack"
    exact ⟨_, ⟨_, .box⟩, by walk_at "MyIn"⟩
  | array =>
    obtain ⟨y, ys, rfl, hd1, hds1⟩ := all_c hds
    refine wpAny_call ?_
    k_dflt walk_at "MyEnter"
    k_steps
    refine ret _ _ _ ?_
    walk_at "MyBack"
    exact ⟨_, ⟨_, .array⟩, by walk_at "MyIn"⟩
  | adt hg =>
    refine wpAny_call ?_
    k_dflt walk_at "MyEnter"
    k_steps
    (rename _ = some _ => hi)
    refine ret _ _ _ ?_
    walk_at "MyBack"
    exact made_adt hi (by walk_at "MyAll") fun g9 ig9 => by walk_at "MyIn"
  | wpl hw =>
    obtain rfl := in_none ht
    have q : offW wd := by unfold offW; rcases hw with rfl | rfl <;> decide +kernel
    obtain ⟨w1, w2, w3, w4, w5⟩ := q
    refine wpAny_call ?_
    k_dflt walk_at "MyEnter"
    k_steps
    refine ret _ _ _ ?_
    walk_at "MyBack"
    exact ⟨_, ⟨_, .wpl hw⟩, by walk_at "MyIn"⟩
  | wstr hw =>
    obtain ⟨u9, rfl⟩ := in_str ht
    have q : offW wd := by unfold offW; rcases hw with rfl | rfl <;> decide +kernel
    obtain ⟨w1, w2, w3, w4, w5⟩ := q
    refine wpAny_call ?_
    k_dflt walk_at "MyEnter"
    k_steps
    refine ret _ _ _ ?_
    walk_at "MyBack"
    exact ⟨_, ⟨_, .wstr hw⟩, by walk_at "MyIn"⟩
  | wint hw =>
    obtain ⟨u9, rfl⟩ := in_int ht
    have q : offW wd := by unfold offW; rcases hw with rfl | rfl <;> decide +kernel
    obtain ⟨w1, w2, w3, w4, w5⟩ := q
    refine wpAny_call ?_
    k_dflt walk_at "MyEnter"
    k_steps
    refine ret _ _ _ ?_
    walk_at "MyBack"
    exact ⟨_, ⟨_, .wint hw⟩, by walk_at "MyIn"⟩
-- part Z2
def pairD (p : Dat × Dat) : Dat := .tuple [p.1, p.2]
def zipBag : List Addr → List Value → List Value → Bag
  | T :: Ts, x :: xs, y :: ys => (T, tup [x, y] 0) :: zipBag Ts xs ys
  | _, _, _ => []
theorem zipBag_tups : ∀ (Ts : List Addr) (xs ys : List Value), Tups (zipBag Ts xs ys)
  | [], _, _ => fun _ h => nomatch h
  | _ :: _, [], _ => fun _ h => nomatch h
  | _ :: _, _ :: _, [] => fun _ h => nomatch h
  | _ :: Ts, _ :: xs, _ :: ys => (zipBag_tups Ts xs ys).cons
theorem zipBag_mem : ∀ (Ts : List Addr) (xs ys : List Value) (p : Addr × Obj), p ∈ zipBag Ts xs ys → ∃ (j : Nat) (T : Addr) (x y : Value), Ts[j]? = some T ∧ xs[j]? = some x ∧ ys[j]? = some y ∧ p = (T, tup [x, y] 0)
  | [], _, _, _, h => nomatch h
  | _ :: _, [], _, _, h => nomatch h
  | _ :: _, _ :: _, [], _, h => nomatch h
  | T :: Ts, x :: xs, y :: ys, p, h => by
    rcases List.mem_cons.mp h with rfl | h
    · exact ⟨0, T, x, y, rfl, rfl, rfl, rfl⟩
    · obtain ⟨j, T', x', y', a, b, c, e⟩ := zipBag_mem Ts xs ys p h
      exact ⟨j + 1, T', x', y', a, b, c, e⟩
theorem zipBag_dat {bag : Bag} : ∀ (Ts : List Addr) (xs ys : List Value) (ds es : List Dat), Ts.length = xs.length → DatAll bag xs ds → DatAll bag ys es → DatAll (zipBag Ts xs ys ++ bag) ((Ts.zip ys).map fun p => Value.ref p.1) ((ds.zip es).map pairD)
  | [], _, _, ds, es, hl, h1, h2 => by
    cases h1 with
    | nil => exact .nil
    | cons => simp at hl
  | T :: Ts, x :: xs, [], ds, es, hl, h1, h2 => by cases h2; cases ds <;> exact .nil
  | T :: Ts, x :: xs, y :: ys, _, _, hl, .cons a1 r1, .cons a2 r2 => by
    have ih := zipBag_dat Ts xs ys _ _ (by simpa using hl) r1 r2
    refine .cons (.tuple (List.mem_cons_self) (.cons (a1.mono fun p hp => ?_) (.cons (a2.mono fun p hp => ?_) .nil))) (ih.mono fun p hp => ?_)
    · exact List.mem_append_right _ hp
    · exact List.mem_append_right _ hp
    · exact List.mem_cons_of_mem _ hp
theorem zip_fst : ∀ (Ts : List Addr) (ys : List Value), Ts.length = ys.length → ((Ts.zip ys).map fun p => Value.ref p.1) = Ts.map Value.ref
  | [], _, _ => rfl
  | T :: Ts, y :: ys, h => by simp at h ⊢; exact zip_fst Ts ys h

structure ZipAt (h₀ : Heap) (L : Addr) (m : Str → Option Value) (news : Bag) (l1 l2 z : Addr) (h' : Heap) : Prop where
  was : ∃ h, h' = zH5 h l1 l2 ∧ z = (h.objs.size + 4 : Nat) ∧ Fr h₀ L h m ∧ News h₀ L h news

section
variable {prog : Program} {w : World} {A : Around} {E : Value → Shared → Prop} {s : Shared} {h₀ : Heap} {L l1 l2 z : Addr} {m : Str → Option Value} {news bag : Bag} {xs ys : List Value} {n1 n2 : Nat} {Q : Value → Shared → Prop}

theorem zH5_old {h : Heap} {c : Addr} {o : Obj} (e : h.get? c = some o) : (zH5 h l1 l2).get? c = some o := Heap.get?_push_of_some _ (Heap.get?_push_of_some _ (Heap.get?_push_of_some _ (Heap.get?_push_of_some _ (Heap.get?_push_of_some _ e))))

theorem zip_K (F : Fr h₀ L s.heap m) (N : News h₀ L s.heap news) (m1 : (l1, tup xs n1) ∈ news) (m2 : (l2, tup ys n2) ∈ news)
    (h : ∀ z h', ZipAt h₀ L m news l1 l2 z h' → Fr h₀ L h' m → News h₀ L h' news → Q (.ref z) { s with heap := h' }) :
    wpAny (model prog w) A (call (.type "zip") [.ref l1, .ref l2]) Q E s := by
  have hl1 : s.heap.IsTuple l1 xs.toArray := ⟨_, (N _ m1).1, rfl, n1, rfl⟩
  have hl2 : s.heap.IsTuple l2 ys.toArray := ⟨_, (N _ m2).1, rfl, n2, rfl⟩
  exact call_zip_tup hl1 hl2 (h _ _ ⟨s.heap, rfl, rfl, F, N⟩ (F.keeps fun _ _ e => zH5_old e) fun p hp => ⟨zH5_old (N p hp).1, (N p hp).2⟩)

theorem list_zip_K {ds es : List Dat} (Z : ZipAt h₀ L m news l1 l2 z s.heap) (hh : A.handled = none) (m1 : (l1, tup xs n1) ∈ news) (m2 : (l2, tup ys n2) ∈ news) (hd1 : DatAll bag xs ds) (hd2 : DatAll bag ys es) (hlen : xs.length = ys.length) (hn : xs.length ≤ 1000)
    (k : ∀ S rs c tl h', Fr h₀ L h' m → News h₀ L h' ((S, listOf rs.toArray c) :: (tl ++ news)) → Tups tl → DatAll (tl ++ bag) rs ((ds.zip es).map pairD) → rs.length = xs.length → (∀ p ∈ news, p.1 < S) → Q (.ref S) { s with heap := h' }) :
    wpAny (model prog w) A (call (.type "list") [.ref z]) Q E s := by
  obtain ⟨h, e, rfl, F, N⟩ := Z.was
  have hl1 : h.IsTuple l1 xs.toArray := ⟨_, (N _ m1).1, rfl, n1, rfl⟩
  have hl2 : h.IsTuple l2 ys.toArray := ⟨_, (N _ m2).1, rfl, n2, rfl⟩
  have hs : s = { ({ s with heap := h } : Shared) with heap := zH5 h l1 l2 } := by rw [← e]
  rw [hs]
  refine call_list_zip (s := { s with heap := h }) hh hl1 hl2 (n := xs.length) (by simp) (by simp [hlen]) hn fun h' Ts ze => ?_
  obtain ⟨c, hS⟩ := ze.hS
  have hlenT : Ts.length = xs.length := by simpa using ze.len
  have fresh : ∀ a : Addr, @LE.le Nat _ h.objs.size a → h₀.get? a = none ∧ a ≠ L := fun a ha => by
    refine ⟨?_, fun q => ?_⟩
    · cases q : h₀.get? a with
      | none => rfl
      | some o =>
        have : @LT.lt Nat _ a h.objs.size := Heap.lt_size (F.keep a o q)
        exact absurd this (Nat.not_lt.mpr ha)
    · have : @LT.lt Nat _ L h.objs.size := F.ns.lt
      rw [← q] at this
      exact absurd this (Nat.not_lt.mpr ha)
  have F' : Fr h₀ L h' m := F.keeps ze.old
  have hD := zipBag_dat Ts xs ys ds es hlenT hd1 hd2
  rw [zip_fst Ts ys (hlenT.trans hlen)] at hD
  refine k (h.objs.size + 5 : Nat) (Ts.map Value.ref) c (zipBag Ts xs ys) h' F' (fun p hp => ?_) (zipBag_tups _ _ _) hD (by simp [hlenT]) (fun p hp => ?_)
  · rcases List.mem_cons.mp hp with rfl | hp
    · have := fresh (h.objs.size + 5 : Nat) (Nat.le_add_right _ _)
      exact ⟨hS, this.2, this.1⟩
    · rcases List.mem_append.mp hp with hp | hp
      · obtain ⟨j, T, x, y, a, b, d, rfl⟩ := zipBag_mem _ _ _ _ hp
        have hT : @LE.le Nat _ (h.objs.size + 6) T := ze.hTs T (List.mem_of_getElem? a)
        have := fresh T (by omega)
        obtain ⟨x', y', b', d', hp'⟩ := ze.pairs j T a
        obtain rfl : x = x' := by simpa [b] using b'
        obtain rfl : y = y' := by simpa [d] using d'
        exact ⟨hp', this.2, this.1⟩
      · exact ⟨ze.old _ _ (N p hp).1, (N p hp).2⟩
  · have : @LT.lt Nat _ p.1 h.objs.size := Heap.lt_size (N p hp).1
    exact Nat.lt_of_lt_of_le this (Nat.le_add_right _ _)
end
theorem rows27 : True := by
  (k_with "@call type:zip" => ((k_here; (with_reducible show wpAny _ _ (call (Value.type _) [Value.ref _, Value.ref _]) _ _ _); k_dflt (refine' zip_K ?Fv25w ?Nv25w ?av25w ?bv25w ?_; (case Fv25w => k_asm); (case Nv25w => k_asm); (case av25w => k_mem); (case bv25w => k_mem)); intro z9v25w h9v25w Z9v25w F9v25w N9v25w; (try k_sweep))))
  (k_with "@call type:list" => ((k_here; (with_reducible show wpAny _ _ (call (Value.type _) [Value.ref _]) _ _ _); k_dflt (refine' list_zip_K ?Zv26w ?hv26w ?av26w ?bv26w ?cv26w ?dv26w ?ev26w ?fv26w ?_; (case Zv26w => assumption); (case hv26w => first | exact rfl | assumption); (case av26w => k_mem); (case bv26w => k_mem); (case cv26w => assumption); (case dv26w => assumption); (case ev26w => omega); (case fv26w => omega)); intro S9v26w rs9v26w c9v26w tl9v26w h9v26w F9v26w N9v26w tt9v26w dd9v26w ll9v26w lt9v26w; (try k_sweep))))
  trivial
-- part B3
def Alike (w1 : Str) (t1 : Dat) (ds1 : List Dat) (w2 : Str) (t2 : Dat) (ds2 : List Dat) : Prop := w1 = w2 ∧ t1 = t2 ∧ ds1.length = ds2.length

structure HpBack (h₀ : Heap) (L : Addr) (m : Str → Option Value) (news bag : Bag) (al : Prop) (ps : List (Dat × Dat)) (r : Value) (h' : Heap) : Prop where
  yes : al → ∃ S rs c tl, r = .ref S ∧ Fr h₀ L h' m ∧ News h₀ L h' ((S, listOf rs.toArray c) :: (tl ++ news)) ∧ Tups tl ∧ DatAll (tl ++ bag) rs (ps.map pairD)
  no : ¬ al → r = .none ∧ Fr h₀ L h' m ∧ News h₀ L h' news

section
variable {h₀ : Heap} {L S D : Addr} {m : Str → Option Value} {news bag tl rest : Bag} {al : Prop} {ps : List (Dat × Dat)} {rs : List Value} {c n : Nat} {h' : Heap} {a b : Value} {d e : Dat}
theorem HpBack.zip (ha : al) (F : Fr h₀ L h' m) (N : News h₀ L h' ((S, listOf rs.toArray c) :: (tl ++ rest))) (t : Tups tl) (d : DatAll (tl ++ bag) rs (ps.map pairD)) (hs : ∀ p ∈ news, p ∈ rest) : HpBack h₀ L m news bag al ps (.ref S) h' :=
  ⟨fun _ => ⟨S, rs, c, tl, rfl, F, News.sub N (fun p hp => by
    rcases List.mem_cons.mp hp with rfl | hp
    · exact .head _
    · rcases List.mem_append.mp hp with hp | hp
      · exact .tail _ (List.mem_append_left _ hp)
      · exact .tail _ (List.mem_append_right _ (hs p hp))), t, d⟩, fun hn => absurd ha hn⟩
theorem HpBack.nil (ha : al) (F : Fr h₀ L h' m) (N : News h₀ L h' ((S, listOf ([] : List Value).toArray c) :: rest)) (hs : ∀ p ∈ news, p ∈ rest) (hp : ps = []) : HpBack h₀ L m news bag al ps (.ref S) h' :=
  HpBack.zip (tl := []) ha F N (fun _ h => nomatch h) (by subst hp; exact .nil) hs
theorem HpBack.one (ha : al) (F : Fr h₀ L h' m) (N : News h₀ L h' ((S, listOf [Value.ref D].toArray c) :: (D, tup [a, b] n) :: rest)) (hs : ∀ p ∈ news, p ∈ rest) (hd : DatIn bag a d) (he : DatIn bag b e) (hp : ps = [(d, e)]) : HpBack h₀ L m news bag al ps (.ref S) h' :=
  HpBack.zip (tl := [(D, tup [a, b] n)]) ha F N (Tups.cons fun _ h => nomatch h) (by
    subst hp
    exact .cons (.tuple (List.mem_cons_self) (.cons (hd.mono fun p hp => List.mem_append_right _ hp) (.cons (he.mono fun p hp => List.mem_append_right _ hp) .nil))) .nil) hs
theorem HpBack.none (ha : ¬ al) (F : Fr h₀ L h' m) (N : News h₀ L h' rest) (hs : ∀ p ∈ news, p ∈ rest) : HpBack h₀ L m news bag al ps .none h' := ⟨fun hy => absurd hy ha, fun _ => ⟨rfl, F, News.sub N hs⟩⟩
end
theorem rows32 : True := by
  (k_with "MyHpNo" => ((refine' HpBack.none ?n9v28w ?F9v28w ?N9v28w ?s9v28w; (case F9v28w => k_asm); (case N9v28w => k_asm); (case s9v28w => walk_at "MySub"); (case n9v28w => (intro h9v28w; obtain ⟨_, h8, h7⟩ := h9v28w; first | omega | simp_all)))))
  (k_with "MyHpOne" => ((refine' HpBack.one ?n9v29w ?F9v29w ?N9v29w ?s9v29w ?a9v29w ?b9v29w ?p9v29w; (case F9v29w => k_asm); (case N9v29w => k_asm); (case s9v29w => walk_at "MySub"); (case a9v29w => assumption); (case b9v29w => assumption); (case p9v29w => rfl); (case n9v29w => (refine ⟨rfl, ?_, rfl⟩; simp_all)))))
  (k_with "MyHpNil" => ((refine' HpBack.nil ?n9v30w ?F9v30w ?N9v30w ?s9v30w ?p9v30w; (case F9v30w => k_asm); (case N9v30w => k_asm); (case s9v30w => walk_at "MySub"); (case p9v30w => rfl); (case n9v30w => (refine ⟨rfl, ?_, rfl⟩; simp_all)))))
  (k_with "MyHpZip" => ((refine' HpBack.zip ?n9v31w ?F9v31w ?N9v31w ?t9v31w ?d9v31w ?s9v31w; (case F9v31w => k_asm); (case N9v31w => k_asm); (case t9v31w => assumption); (case d9v31w => assumption); (case s9v31w => walk_at "MySub"); (case n9v31w => (refine ⟨rfl, ?_, by omega⟩; simp_all)))))
  trivial
theorem hp_same {w : World} {mean : ExcName → Option Value} {mg mb : Str → Option Value} {A : Around} {h₀ : Heap} {L : Addr} {m : Str → Option Value} {s : Shared} {news bag : Bag}
    {d kk : Nat} {Q E : Value → Shared → Prop} {v1 v2 : Value} {ds1 ds2 : List Dat} {wd : Str} {td1 td2 e1 e2 : Dat}
    (Am : Amb w mean mg mb A h₀ L (d + 3)) (F : Fr h₀ L s.heap m)
    (N : News h₀ L s.heap news) (hb : ∀ p ∈ bag, p ∈ news) (hh1 : DatIn bag v1 e1) (hh2 : DatIn bag v2 e2) (hm1 : Sh kk wd td1 ds1 e1) (hm2 : Sh kk wd td2 ds2 e2) (hl1 : ds1.length ≤ 100) (hl2 : ds2.length ≤ 100)
    (ret : ∀ r h' tk', HpBack h₀ L m news bag (Alike wd td1 ds1 wd td2 ds2) (ds1.zip ds2) r h' → Q r { s with heap := h', toks := tk' }) :
    wpAny (model Challenge.rw_xm0574_01.prog w) A (call (.ref 21) [v1, v2]) Q E s := by
  obtain ⟨A₀, base, env, outer, hA, hf, hke, B⟩ := Am.fr
  obtain ⟨hd8, dp, fr, gd, un⟩ := A
  obtain rfl : hd8 = none := Am.hh
  obtain rfl : fr = some (env :: outer) := hA
  have X := Am.X
  have T := Am.T
  have hdep : dp + (d + 3) < 1000 := Am.depth
  cases hm1 with
  | tuple =>
    cases hm2
    refine el_t (P := fun v => wpAny _ _ (call (.ref 21) [v, _]) _ _ _) hh1 ?_
    intro a1 t1 l1 n1 vs1 k1 m1 p1 i1
    refine el_t (P := fun v => wpAny _ _ (call (.ref 21) [_, v]) _ _ _) hh2 ?_
    intro a2 t2 l2 n2 vs2 k2 m2 p2 i2
    have m1' := hb _ m1
    have m2' := hb _ m2
    have ht1' := hb _ p1
    have ht2' := hb _ p2
    have e1 := i1.length
    have e2 := i2.length
    refine wpAny_call ?_
    k_dflt walk_at "MyEnter"
    k_steps
    · refine ret _ _ _ ?_
      walk_at "MyHpZip"
    · refine ret _ _ _ ?_
      walk_at "MyHpNo"
  | ref hg1 =>
    cases hm2
    refine el_r (P := fun v => wpAny _ _ (call (.ref 21) [v, _]) _ _ _) hh1 ?_
    intro a1 t1 y1 x1 n1 m1 iy1 ix1
    refine el_r (P := fun v => wpAny _ _ (call (.ref 21) [_, v]) _ _ _) hh2 ?_
    intro a2 t2 y2 x2 n2 m2 iy2 ix2
    have m1' := hb _ m1
    have m2' := hb _ m2
    refine wpAny_call ?_
    k_dflt walk_at "MyEnter"
    k_steps
    · refine ret _ _ _ ?_
      walk_at "MyHpOne"
    · refine ret _ _ _ ?_
      walk_at "MyHpNo"
  | box =>
    cases hm2
    refine el_d (P := fun v => wpAny _ _ (call (.ref 21) [v, _]) _ _ _) hh1 ?_
    intro a1 t1 x1 n1 m1 ix1
    refine el_d (P := fun v => wpAny _ _ (call (.ref 21) [_, v]) _ _ _) hh2 ?_
    intro a2 t2 x2 n2 m2 ix2
    have m1' := hb _ m1
    have m2' := hb _ m2
    refine wpAny_call ?_
    k_dflt walk_at "MyEnter"
    k_steps
    · refine ret _ _ _ ?_
      walk_at "MyHpOne"
  | array =>
    cases hm2
    refine el_di (P := fun v => wpAny _ _ (call (.ref 21) [v, _]) _ _ _) hh1 ?_
    intro a1 t1 x1 u1 n1 m1 ix1
    refine el_di (P := fun v => wpAny _ _ (call (.ref 21) [_, v]) _ _ _) hh2 ?_
    intro a2 t2 x2 u2 n2 m2 ix2
    have m1' := hb _ m1
    have m2' := hb _ m2
    refine wpAny_call ?_
    k_dflt walk_at "MyEnter"
    k_steps
    · refine ret _ _ _ ?_
      walk_at "MyHpOne"
    · refine ret _ _ _ ?_
      walk_at "MyHpNo"
  | adt hg1 =>
    cases hm2
    refine el_a (P := fun v => wpAny _ _ (call (.ref 21) [v, _]) _ _ _) hh1 ?_
    intro a1 t1 u1 y1 l1 n1 vs1 k1 m1 iy1 p1 i1
    refine el_a (P := fun v => wpAny _ _ (call (.ref 21) [_, v]) _ _ _) hh2 ?_
    intro a2 t2 u2 y2 l2 n2 vs2 k2 m2 iy2 p2 i2
    have m1' := hb _ m1
    have m2' := hb _ m2
    have ht1' := hb _ p1
    have ht2' := hb _ p2
    have e1 := i1.length
    have e2 := i2.length
    refine wpAny_call ?_
    k_dflt walk_at "MyEnter"
    k_steps
    · refine ret _ _ _ ?_
      walk_at "MyHpZip"
    · refine ret _ _ _ ?_
      walk_at "MyHpNo"
    · refine ret _ _ _ ?_
      walk_at "MyHpNo"
  | wpl hw =>
    cases hm2
    refine el_1 (P := fun v => wpAny _ _ (call (.ref 21) [v, _]) _ _ _) hh1 ?_
    intro a1 t1 n1 m1
    refine el_1 (P := fun v => wpAny _ _ (call (.ref 21) [_, v]) _ _ _) hh2 ?_
    intro a2 t2 n2 m2
    have m1' := hb _ m1
    have m2' := hb _ m2
    rcases hw with rfl | rfl
    · refine wpAny_call ?_
      k_dflt walk_at "MyEnter"
      k_steps
      · refine ret _ _ _ ?_
        walk_at "MyHpNil"
    · refine wpAny_call ?_
      k_dflt walk_at "MyEnter"
      k_steps
      · refine ret _ _ _ ?_
        walk_at "MyHpNil"
  | wstr hw =>
    cases hm2
    refine el_s (P := fun v => wpAny _ _ (call (.ref 21) [v, _]) _ _ _) hh1 ?_
    intro a1 t1 u1 n1 m1
    refine el_s (P := fun v => wpAny _ _ (call (.ref 21) [_, v]) _ _ _) hh2 ?_
    intro a2 t2 u2 n2 m2
    have m1' := hb _ m1
    have m2' := hb _ m2
    rcases hw with rfl | rfl
    · refine wpAny_call ?_
      k_dflt walk_at "MyEnter"
      k_steps
      · refine ret _ _ _ ?_
        walk_at "MyHpNil"
      · refine ret _ _ _ ?_
        walk_at "MyHpNo"
    · refine wpAny_call ?_
      k_dflt walk_at "MyEnter"
      k_steps
      · refine ret _ _ _ ?_
        walk_at "MyHpNil"
      · refine ret _ _ _ ?_
        walk_at "MyHpNo"
  | wint hw =>
    cases hm2
    refine el_i (P := fun v => wpAny _ _ (call (.ref 21) [v, _]) _ _ _) hh1 ?_
    intro a1 t1 u1 n1 m1
    refine el_i (P := fun v => wpAny _ _ (call (.ref 21) [_, v]) _ _ _) hh2 ?_
    intro a2 t2 u2 n2 m2
    have m1' := hb _ m1
    have m2' := hb _ m2
    rcases hw with rfl | rfl
    · refine wpAny_call ?_
      k_dflt walk_at "MyEnter"
      k_steps
      · refine ret _ _ _ ?_
        walk_at "MyHpNil"
      · refine ret _ _ _ ?_
        walk_at "MyHpNo"
    · refine wpAny_call ?_
      k_dflt walk_at "MyEnter"
      k_steps
      · refine ret _ _ _ ?_
        walk_at "MyHpNil"
      · refine ret _ _ _ ?_
        walk_at "MyHpNo"
-- part B4
theorem item_head {prog : Program} {w : World} {A : Around} {E : Value → Shared → Prop} {s : Shared} {h₀ : Heap} {L l : Addr} {news : Bag} {v : Value} {vs : List Value} {n : Nat} {Q : Value → Shared → Prop} {value slice : Expr} {u : Tok}
    (N : News h₀ L s.heap news) (hm : (l, tup (v :: vs) n) ∈ news) (h : Q v s)
    (hs : subscripted slice false (.ref l) (.int 0 u) = operate [.ref l, .int 0 u] (getItem (.ref l) (.int 0 u)) := by with_unfolding_all rfl) :
    wpAny (model prog w) A (subscriptTail value slice (.ref l) (.int 0 u)) Q E s :=
  item_tupleT (News.isTup N hm) (by decide) (by decide) (j := 0) (by simp [seqIndex?]) rfl h hs
theorem rows34 : True := by
  (k_with "@subscriptTail" => ((k_here; (with_reducible show wpAny _ _ (subscriptTail _ _ (Value.ref _) (Value.int 0 _)) _ _ _); k_dflt (refine' item_head ?Nv33w ?mv33w ?_ ?hsv33w; (case Nv33w => k_asm); (case mv33w => k_mem); (case hsv33w => with_unfolding_all rfl); k_whole))))
  trivial
theorem hp_ne {w : World} {mean : ExcName → Option Value} {mg mb : Str → Option Value} {A : Around} {h₀ : Heap} {L : Addr} {m : Str → Option Value} {s : Shared} {news bag : Bag}
    {d : Nat} {Q E : Value → Shared → Prop} {v1 v2 : Value} {w1 w2 : Str} {r1 r2 : List Dat}
    (Am : Amb w mean mg mb A h₀ L (d + 3)) (F : Fr h₀ L s.heap m)
    (N : News h₀ L s.heap news) (hb : ∀ p ∈ bag, p ∈ news) (hh1 : DatIn bag v1 (.tuple (.str w1 :: r1))) (hh2 : DatIn bag v2 (.tuple (.str w2 :: r2))) (hne : (w1 != w2) = true)
    (ret : ∀ h' tk', Fr h₀ L h' m → News h₀ L h' news → Q .none { s with heap := h', toks := tk' }) :
    wpAny (model Challenge.rw_xm0574_01.prog w) A (call (.ref 21) [v1, v2]) Q E s := by
  obtain ⟨A₀, base, env, outer, hA, hf, hke, B⟩ := Am.fr
  obtain ⟨hd8, dp, fr, gd, un⟩ := A
  obtain rfl : hd8 = none := Am.hh
  obtain rfl : fr = some (env :: outer) := hA
  have X := Am.X
  have T := Am.T
  have hdep : dp + (d + 3) < 1000 := Am.depth
  refine el_w (P := fun v => wpAny _ _ (call (.ref 21) [v, _]) _ _ _) hh1 ?_
  intro a1 u1 xs1 n1 m1 hall1
  refine el_w (P := fun v => wpAny _ _ (call (.ref 21) [_, v]) _ _ _) hh2 ?_
  intro a2 u2 xs2 n2 m2 hall2
  have m1' := hb _ m1
  have m2' := hb _ m2
  refine wpAny_call ?_
  k_dflt walk_at "MyEnter"
  k_steps
  exact ret _ _ (by k_asm) (by k_asm)

theorem hpairs {w : World} {mean : ExcName → Option Value} {mg mb : Str → Option Value} {A : Around} {h₀ : Heap} {L : Addr} {m : Str → Option Value} {s : Shared} {news bag : Bag}
    {d : Nat} {Q E : Value → Shared → Prop} {v1 v2 : Value} {ds1 ds2 : List Dat} {w1 w2 : Str} {t1 t2 e1 e2 : Dat}
    (Am : Amb w mean mg mb A h₀ L (d + 3)) (F : Fr h₀ L s.heap m)
    (N : News h₀ L s.heap news) (hb : ∀ p ∈ bag, p ∈ news) (hh1 : DatIn bag v1 e1) (hh2 : DatIn bag v2 e2) (hm1 : Made w1 t1 ds1 e1) (hm2 : Made w2 t2 ds2 e2) (hl1 : ds1.length ≤ 100) (hl2 : ds2.length ≤ 100)
    (ret : ∀ r h' tk', HpBack h₀ L m news bag (Alike w1 t1 ds1 w2 t2 ds2) (ds1.zip ds2) r h' → Q r { s with heap := h', toks := tk' }) :
    wpAny (model Challenge.rw_xm0574_01.prog w) A (call (.ref 21) [v1, v2]) Q E s := by
  obtain ⟨k1, hm1⟩ := hm1
  obtain ⟨k2, hm2⟩ := hm2
  by_cases hw : w1 = w2
  · subst hw
    obtain rfl : k1 = k2 := hm1.num.trans hm2.num.symm
    exact hp_same Am F N hb hh1 hh2 hm1 hm2 hl1 hl2 ret
  · obtain ⟨r1, rfl⟩ := hm1.head
    obtain ⟨r2, rfl⟩ := hm2.head
    exact hp_ne Am F N hb hh1 hh2 (by simpa using hw) fun h' tk' F' N' => ret _ h' tk' (HpBack.none (fun x => hw x.1) F' N' (fun _ h => h))
-- part C0
open LCg

section
variable {prog : Program} {w : World} {A : Around} {E : Value → Shared → Prop} {s : Shared} {h₀ : Heap} {L : Addr} {m : Str → Option Value} {env : Env}

theorem CompEnd.mono {s₁ : Shared} {I C D : Addr} {oI oC oD : Obj} {S : Bag → Prop} {r1 r2 : Value → Bag → Prop} {y : Value} {s₂ : Shared} (h : CompEnd h₀ L m s₁ I oI C oC D oD S r1 y s₂) (k : ∀ y nw, r1 y nw → r2 y nw) : CompEnd h₀ L m s₁ I oI C oC D oD S r2 y s₂ := by
  obtain ⟨h', tk, nw, e, F, N, o, hS, r⟩ := h
  exact ⟨h', tk, nw, e, F, N, o, hS, k _ _ r⟩

theorem rest_ind {elt : Expr} {x : Str} {scope : Scope} {cl : List (Str × Addr)} {S : Bag → Prop} {P : Nat → Value → Prop} {Fin : List Value → Bag → Prop} {n : Nat} (Inv : Nat → List Value → Bag → Prop)
    (turn : ∀ i ys news, i < n → Inv i ys news → ∀ v I oI C oC D m₂ h tk (E' : Value → Shared → Prop), P i v → NsObj oC m₂ → m₂ x = some v → Fr h₀ L h m → News h₀ L h ((I, oI) :: (C, oC) :: (D, lst ys) :: news) → Off3 I C D news → ((@Ne Nat I C) ∧ (@Ne Nat I D) ∧ (@Ne Nat C D)) →
      wpAny (model prog w) A (eval elt (compEnvC scope cl C env)) (CompEnd h₀ L m { s with heap := h, toks := tk } I oI C oC D (lst ys) S (fun y news' => Inv (i + 1) (ys ++ [y]) news')) E' { s with heap := h, toks := tk })
    (fin : ∀ ys news, Inv n ys news → Fin ys news) : ∀ k i ys news, i + k = n → Inv i ys news → CompRest prog w A h₀ L m env elt x scope cl s S P Fin k i ys news := by
  intro k
  induction k with
  | zero =>
    intro i ys news hi hv
    obtain rfl : i = n := by omega
    exact CompRest.zero (fin ys news hv)
  | succ k ih =>
    intro i ys news hi hv
    refine CompRest.succ fun v I oI C oC D m₂ h tk E' hP hC hx F N off ne => ?_
    refine wpAny_mono (turn i ys news (by omega) hv v I oI C oC D m₂ h tk E' hP hC hx F N off ne) (fun y s₂ he => CompEnd.mono he fun y nw hi' => ih (i + 1) _ _ (by omega) hi') fun _ _ e => e

def SrcT (prog : Program) (w : World) (A : Around) (h₀ : Heap) (L : Addr) (m : Str → Option Value) (env : Env) (elt : Expr) (x : Str) (scope : Scope) (cl : List (Str × Addr)) (Fin : Shared → List Value → Bag → Prop) (xv : Value) (s₁ : Shared) : Prop :=
  ∃ (ax : Addr) (its : List Value) (n : Nat) (news : Bag), xv = .ref ax ∧ A.handled = none ∧ Fr h₀ L s₁.heap m ∧ News h₀ L s₁.heap news ∧ (ax, tup its n) ∈ news ∧ its.length ≤ 1000 ∧
    ∀ s₂ : Shared, (∃ h, s₂ = { s₁ with heap := h }) → CompRest prog w A h₀ L m env elt x scope cl s₂ (fun nw => (ax, tup its n) ∈ nw) (fun i v => its[i]? = some v) (Fin s₂) its.length 0 [] news
theorem SrcT.intro {elt : Expr} {x : Str} {scope : Scope} {cl : List (Str × Addr)} {Fin : Shared → List Value → Bag → Prop} {ax : Addr} {its : List Value} {n : Nat} {news : Bag} {s₁ : Shared}
    (hh : A.handled = none) (F : Fr h₀ L s₁.heap m) (N : News h₀ L s₁.heap news) (hm : (ax, tup its n) ∈ news) (hsz : its.length ≤ 1000)
    (h : ∀ g, CompRest prog w A h₀ L m env elt x scope cl { s₁ with heap := g } (fun nw => (ax, tup its n) ∈ nw) (fun i v => its[i]? = some v) (Fin { s₁ with heap := g }) its.length 0 [] news) :
    SrcT prog w A h₀ L m env elt x scope cl Fin (.ref ax) s₁ := ⟨ax, its, n, news, rfl, hh, F, N, hm, hsz, fun _ ⟨g, e⟩ => e ▸ h g⟩

theorem tuple_st {ax I : Addr} {its : List Value} {n : Nat} : ∀ i (h h' : Heap) (o : Obj) (nw : Bag), (h.IsTupleIter I ax i ∧ h.IsTuple ax its.toArray) → h.get? I = some o → h'.get? I = some o → (∀ b o, h₀.get? b = some o → h'.get? b = some o) → News h₀ L h' nw → (ax, tup its n) ∈ nw → (h'.IsTupleIter I ax i ∧ h'.IsTuple ax its.toArray) :=
  fun i h h' o nw st e e' k N S => ⟨by obtain ⟨o', q, r⟩ := st.1; rw [e] at q; cases q; exact ⟨o, e', r⟩, ⟨_, (N _ S).1, rfl, n, rfl⟩⟩

theorem ListComp_tup {elt iter : Expr} {x : Str} {px : Pos} {scope : Scope} {cl : List (Str × Addr)} {pos : Pos} {Q : Value → Shared → Prop} (F₀ : Fr h₀ L s.heap m)
    (hclos : closureFor scope env = pure cl) (hcell : ∀ y ∈ scope.names, y.2 ≠ .cell) (hkind : scope.kind = .function)
    (hnames : ∀ y ∈ scope.names, y.2 = .local → scope.names.lookup y.1 = some .local) (hx : scope.names.lookup x = some .local)
    (h : wpAny (model prog w) A (eval iter env) (SrcT prog w A h₀ L m env elt x scope cl (fun s₂ => FinE h₀ L m s₂ Q)) E s)
    (hs : ∀ x, foldedSetIterable iter env x = pure x := by intro _; rfl) :
    wpAny (model prog w) A (eval (.ListComp elt [⟨.Name x px, iter, [], 0⟩] scope pos) env) Q E s := by
  rw [eval_ListComp]
  refine wpAny_comprehension_free (use := none) rfl hs hclos hkind hnames (wpAny_mono h (fun xv s₁ h₁ => ?_) fun _ _ e => e)
  obtain ⟨ax, its, n, news, rfl, hh, F, N, hm, hsz, R⟩ := h₁
  have hl : s₁.heap.IsTuple ax its.toArray := ⟨_, (N _ hm).1, rfl, n, rfl⟩
  have hlt : ax < s₁.heap.objs.size := Heap.lt_size (N _ hm).1
  refine wpAny_pyIter_tuple hl ?_
  have up : ∀ b o, s₁.heap.get? b = some o → (s₁.heap.push { cls := .type "tuple_iterator", data := .fields #[.ref ax, .int 0 0] }).get? b = some o := fun b o e => Heap.get?_push_of_some _ e
  have W := Walks.tuple (prog := prog) (w := w) (A := A) hh s₁.heap.objs.size ax (Nat.ne_of_lt hlt) its.toArray
  rw [List.size_toArray] at W
  have W' : Walks prog w A s₁.heap.objs.size [s₁.heap.objs.size, ax] [s₁.heap.objs.size] its.length (fun i v => its[i]? = some v) (fun i h => h.IsTupleIter s₁.heap.objs.size ax i ∧ h.IsTuple ax its.toArray) :=
    { sub := W.sub, frame := W.frame, done := W.done, self := W.self, item := fun i s Q E hi st hQ => W.item i s Q E hi st fun v h' tk hP => hQ v h' tk (by simpa using hP) }
  refine block_U (S := fun nw => (ax, tup its n) ∈ nw) W' (by rw [sizeLine_eq]; omega) (fun i h st => by obtain ⟨o, e, _⟩ := st.1; exact ⟨o, e⟩) (tuple_st (n := n)) hcell hkind hx ⟨⟨_, Heap.get?_push_size _ rfl, rfl, rfl⟩, hl.push _⟩ (fun b hb => ?_)
    (F.keeps up) (N.grown up) (Nat.ne_of_lt F.ns.lt) (next_is_new F) (fun p hp => Nat.ne_of_lt (Heap.lt_size (N p hp).1)) hm (R _ ⟨_, rfl⟩) ?_
  · show b < (s₁.heap.push _).objs.size
    rw [Heap.size_push]
    rcases List.mem_cons.mp hb with rfl | hb
    · exact Nat.lt_succ_self _
    · rw [List.mem_singleton.mp hb]; exact Nat.lt_succ_of_lt hlt
  · intro D C h tk m' ys news' F' N' o1 hn hC₀ hD₀ hCL hDL hCD offC fin
    refine ⟨m', hn, fun h'' hs'' => fin D h'' tk (F'.change hs'' hCL hC₀) (fun p hp => ?_) o1⟩
    refine ⟨hs''.extBut _ _ ?_ (N' p hp).1, (N' p hp).2⟩
    rcases List.mem_cons.mp hp with rfl | hp
    · exact Ne.symm hCD
    · exact offC p hp
end
-- part F1
def plainWord (w : Str) : Prop := (w == ("param" : Str)) = false ∧ (w == ("tuple" : Str)) = false ∧ (w == ("ref" : Str)) = false ∧ (w == ("box" : Str)) = false ∧ (w == ("array" : Str)) = false ∧ (w == ("adt" : Str)) = false
def paramD (x : Str) : Dat := .tuple [.str "param", .str x]

mutual
inductive Fill (f : Str → Option Dat) : Nat → Dat → Dat → Prop
  | same {n : Nat} {w : Str} {rest : List Dat} : plainWord w → Fill f n (.tuple (.str w :: rest)) (.tuple (.str w :: rest))
  | name {n : Nat} {x : Str} : Fill f n (paramD x) ((f x).getD (paramD x))
  | tuple {n : Nat} {ds es : List Dat} : FillAll f n ds es → ds.length ≤ 100 → Fill f (n + 1) (.tuple [.str "tuple", .tuple ds]) (.tuple [.str "tuple", .tuple es])
  | ref {n : Nat} {g b d e : Dat} : Fill f n d e → Fill f (n + 1) (.tuple [.str "ref", g, b, d]) (.tuple [.str "ref", g, b, e])
  | box {n : Nat} {d e : Dat} : Fill f n d e → Fill f (n + 1) (.tuple [.str "box", d]) (.tuple [.str "box", e])
  | array {n : Nat} {k d e : Dat} : Fill f n d e → Fill f (n + 1) (.tuple [.str "array", d, k]) (.tuple [.str "array", e, k])
  | adt {n : Nat} {p g : Dat} {ds es : List Dat} : FillAll f n ds es → ds.length ≤ 100 → Fill f (n + 1) (.tuple [.str "adt", p, g, .tuple ds]) (.tuple [.str "adt", p, g, .tuple es])
inductive FillAll (f : Str → Option Dat) : Nat → List Dat → List Dat → Prop
  | nil {n : Nat} : FillAll f n [] []
  | cons {n : Nat} {d e : Dat} {ds es : List Dat} : Fill f n d e → FillAll f n ds es → FillAll f n (d :: ds) (e :: es)
end

structure Fnd (w : World) (news bag : Bag) (fd : Addr) (fo : Obj) (kvs : List (Str × Value)) (f : Str → Option Dat) : Prop where
  mem : (fd, fo) ∈ news
  dict : fo.IsDictOf (strKind Challenge.rw_xm0574_01.prog w) kvs
  lo : (fd == sysModules) = false
  ok : ∀ x, (valueAt kvs x = none ∧ f x = none) ∨ ∃ v d, valueAt kvs x = some v ∧ f x = some d ∧ DatIn bag v d
theorem rows43 : True := by
  (k_with "MyEnterC" => ((refine' code_defC ?k1v35w ?k2v35w ?k3v35w ?k4v35w ?k5v35w ?kAv35w ?kFv35w ?kKv35w ?k6v35w ?k7v35w ?k8v35w ?k9v35w ?kBv35w ?kDv35w ?_ ?c2v35w ?c3v35w ?c4v35w; (case kAv35w => first | assumption | exact rfl); (case kFv35w => assumption); (case kKv35w => assumption); (case k1v35w => k_asm); (case k2v35w => k_asm); (case k3v35w => k_asm); (case k4v35w => k_asm); (case k5v35w => k_asm); (case k6v35w => k_is); (case k7v35w => k_is); (case k8v35w => ((try dsimp only); simp only [recursionLimit]; omega)); (case k9v35w => exact BindsTo.of_eq rfl); (case kBv35w => exact rfl); (case kDv35w => decide +kernel); (case c2v35w => exact rfl); (case c3v35w => exact rfl); (case c4v35w => exact rfl); k_whole; intro g' L' h' tk' cells' FG' F' N' Y' B' X' T' l1; (have l2 := l1); (try k_lt l2); k_cells Y'; (try simp only [List.cons_append, List.nil_append] at N'); (refine Amb.into (by assumption) (by first | assumption | exact rfl) B' X' T' ?_ rfl rfl); intro Am'; (try dsimp only); (try k_fold))))
  trivial
section
variable {prog : Program} {w : World} {A : Around} {E : Value → Shared → Prop} {s : Shared} {h₀ : Heap} {L d : Addr} {news : Bag} {o : Obj} {kvs : List (Str × Value)} {x : Str} {t : Tok} {v dflt : Value}
theorem found_meth {pl : Sem Bool} {Q : Value × List Value → Shared → Prop} (N : News h₀ L s.heap news) (hp : (d, o) ∈ news) (hd : o.IsDictOf (strKind prog w) kvs) (h : Q (.builtin "dict.get", [.ref d]) s) : wpAny (model prog w) A (getMethod (.ref d) (Str.ofString "get") pl) Q E s :=
  kdg_method N hp hd h
theorem found_get {Q : Value → Shared → Prop} (N : News h₀ L s.heap news) (hp : (d, o) ∈ news) (hd : o.IsDictOf (strKind prog w) kvs) (lo : (d == sysModules) = false) (h : Q ((valueAt kvs x).getD dflt) { s with toks := s.toks + 1 }) :
    wpAny (model prog w) A (call (.builtin "dict.get") [.ref d, .str x t, dflt]) Q E s := kdg_get2 N hp hd lo (strKind_is prog w x t) _ rfl h
theorem found_in {Q : Value → Shared → Prop} (N : News h₀ L s.heap news) (hp : (d, o) ∈ news) (hd : o.IsDictOf (strKind prog w) kvs) (lo : (d == sysModules) = false) (h : Q (.bool (valueAt kvs x).isSome) { s with toks := s.toks + 1 }) :
    wpAny (model prog w) A (compareOp .In (.str x t) (.ref d)) Q E s := kda_in N hp hd lo (strKind_is prog w x t) _ rfl h
theorem found_item {value slice : PySem.Expr} {Q : Value → Shared → Prop} (N : News h₀ L s.heap news) (hp : (d, o) ∈ news) (hd : o.IsDictOf (strKind prog w) kvs) (hl : valueAt kvs x = some v) (h : Q v { s with toks := s.toks + 1 })
    (hs : subscripted slice false (.ref d) (.str x t) = operate [.ref d, .str x t] (getItem (.ref d) (.str x t)) := by with_unfolding_all rfl) (hg : ∀ r, letTemporaryGo value (.ref d) r = pure () := by intro _; with_unfolding_all rfl) :
    wpAny (model prog w) A (subscriptTail value slice (.ref d) (.str x t)) Q E s := kda_item N hp hd (strKind_is prog w x t) hl h hs hg
end
theorem rows44 : True := by
  (k_with "@getMethod ref" => ((k_here; k_dflt (refine' found_meth ?k1v36w ?k2v36w ?k3v36w ?_; (case k1v36w => k_asm); (case k2v36w => k_mem); (case k3v36w => assumption)))))
  (k_with "@call builtin:dict.get" => ((k_here; k_dflt (refine' found_get ?k1v37w ?k2v37w ?k3v37w ?k4v37w ?_; (case k1v37w => k_asm); (case k2v37w => k_mem); (case k3v37w => assumption); (case k4v37w => assumption)))))
  trivial
/-- what a call leaves that writes nothing that stood: tl is new, above all that stood -/
def Grew (news tl N : Bag) : Prop := (∀ p ∈ tl ++ news, p ∈ N) ∧ ∀ q ∈ news, ∀ p ∈ tl, q.1 < p.1
theorem Grew.base {news N : Bag} (hs : ∀ p ∈ news, p ∈ N) : Grew news [] N := ⟨hs, fun _ _ _ h => nomatch h⟩
theorem Grew.skip {news tl N : Bag} {x : Addr × Obj} (h : Grew news tl N) : Grew news tl (x :: N) := ⟨fun p hp => .tail _ (h.1 p hp), h.2⟩
theorem Grew.push {news tl N : Bag} {D : Addr} {o : Obj} (h : Grew news tl N) (l : ∀ p ∈ N, p.1 < D) : Grew news ((D, o) :: tl) ((D, o) :: N) := by
  refine ⟨fun p hp => ?_, fun q hq p hp => ?_⟩
  · rcases List.mem_cons.mp hp with rfl | hp
    · exact .head _
    · exact .tail _ (h.1 p hp)
  · rcases List.mem_cons.mp hp with rfl | hp
    · exact l q (h.1 q (List.mem_append_right _ hq))
    · exact h.2 q hq p hp
theorem Grew.app {news tl t2 N : Bag} (h : Grew news tl N) (l : ∀ q ∈ N, ∀ p ∈ t2, q.1 < p.1) : Grew news (t2 ++ tl) (t2 ++ N) := by
  refine ⟨fun p hp => ?_, fun q hq p hp => ?_⟩
  · rw [List.append_assoc] at hp
    rcases List.mem_append.mp hp with hp | hp
    · exact List.mem_append_left _ hp
    · exact List.mem_append_right _ (h.1 p hp)
  · rcases List.mem_append.mp hp with hp | hp
    · exact l q (h.1 q (List.mem_append_right _ hq)) p hp
    · exact h.2 q hq p hp
theorem rows45 : True := by
  (k_with "MyGrew" => (first | (refine' Grew.push ?h9v38w ?l9v38w; (case l9v38w => assumption); (case h9v38w => walk_at "MyGrew")) | (refine' Grew.app ?h9v38w ?l9v38w; (case l9v38w => assumption); (case h9v38w => walk_at "MyGrew")) | (refine' Grew.skip ?h9v38w; (case h9v38w => walk_at "MyGrew")) | exact Grew.base sub_refl))
  trivial
theorem FillAll.length {f : Str → Option Dat} {n : Nat} : ∀ {ds es : List Dat}, FillAll f n ds es → ds.length = es.length
  | _, _, .nil => rfl
  | _, _, .cons _ r => by simp [r.length]
theorem FillAll.get {f : Str → Option Dat} {n : Nat} : ∀ {ds es : List Dat}, FillAll f n ds es → ∀ {bag : Bag} {vs : List Value}, DatAll bag vs ds → ∀ {i : Nat} {v : Value}, vs[i]? = some v → ∃ d e, DatIn bag v d ∧ Fill f n d e ∧ es.take (i + 1) = es.take i ++ [e]
  | _, _, .nil, _, _, .nil, _, _, h => by simp at h
  | _, _, .cons h1 r1, _, _, .cons h2 r2, 0, v, h => by
    simp at h
    subst h
    exact ⟨_, _, h2, h1, by simp⟩
  | _, _, .cons h1 r1, _, _, .cons h2 r2, i + 1, v, h => by
    simp at h
    obtain ⟨d, e, a, b, c⟩ := r1.get r2 h
    exact ⟨d, e, a, b, by simp only [List.take_succ_cons, List.cons_append, c]⟩
theorem rows46 : True := by
  (k_with "@eval ListComp" => ((k_here; (with_reducible show wpAny _ _ (eval (Expr.ListComp _ [⟨_, Expr.Subscript _ _ _, _, _⟩] _ _) _) _ _ _); k_dflt (refine ListComp_tup (F₀ := by k_asm) (by with_unfolding_all rfl) (by decide) (by rfl) (by decide) (by rfl) ?_))))
  (k_with "@SrcT" => ((k_here; k_dflt (refine' SrcT.intro ?hv40w ?Fv40w ?Nv40w ?mv40w ?zv40w ?_; (case hv40w => exact rfl); (case Fv40w => k_asm); (case Nv40w => k_asm); (case mv40w => k_mem); (case zv40w => first | omega | exact Nat.le_of_ble_eq_true rfl)); intro g9v40w)))
  trivial
inductive GBack (h₀ : Heap) (L : Addr) (m : Str → Option Value) (news bag : Bag) (r : Value) (e : Dat) (h' : Heap) : Prop
  | mk (tl : Bag) (F : Fr h₀ L h' m) (N : News h₀ L h' (tl ++ news)) (l : ∀ q ∈ news, ∀ p ∈ tl, q.1 < p.1) (d : DatIn (tl ++ bag) r e) : GBack h₀ L m news bag r e h'
theorem GBack.intro {h₀ h' : Heap} {L : Addr} {m : Str → Option Value} {news bag tl N0 : Bag} {r : Value} {e : Dat} (F : Fr h₀ L h' m) (N : News h₀ L h' N0) (g : Grew news tl N0) (d : DatIn (tl ++ bag) r e) : GBack h₀ L m news bag r e h' := ⟨tl, F, News.sub N g.1, g.2, d⟩
theorem rows47 : True := by
  (k_with "MyGBack" => ((refine' GBack.intro ?F9v41w ?N9v41w ?g9v41w ?_; (case F9v41w => k_asm); (case N9v41w => k_asm); (case g9v41w => walk_at "MyGrew"))))
  trivial
inductive CInv (news bag : Bag) (es : List Dat) (i : Nat) (ys : List Value) (nw : Bag) : Prop
  | mk (tl : Bag) (e : nw = tl ++ news) (l : ∀ q ∈ news, ∀ p ∈ tl, q.1 < p.1) (d : DatAll (tl ++ bag) ys (es.take i)) : CInv news bag es i ys nw
theorem CInv.start {news bag : Bag} {es : List Dat} : CInv news bag es 0 [] news := ⟨[], rfl, fun _ _ _ h => (nomatch h), by simpa using DatAll.nil⟩
theorem ltN {a b : Addr} (h : a < b) : @LT.lt Nat _ a b := h
theorem off_of {I C D : Addr} {oI oC oD : Obj} {rest t2 : Bag} (ab : ∀ q ∈ (I, oI) :: (C, oC) :: (D, oD) :: rest, ∀ p ∈ t2, q.1 < p.1) (off : LCg.Off3 I C D rest) : LCg.Off3 I C D (t2 ++ rest) := by
  refine LCg.Off3.of fun p hp => ?_
  rcases List.mem_append.mp hp with hp | hp
  · exact ⟨Nat.ne_of_gt (ab (I, oI) (.head _) p hp), Nat.ne_of_gt (ab (C, oC) (.tail _ (.head _)) p hp), Nat.ne_of_gt (ab (D, oD) (.tail _ (.tail _ (.head _))) p hp)⟩
  · exact off.mem p hp
theorem cinv_end {h₀ h' : Heap} {L I C D : Addr} {m : Str → Option Value} {oI oC : Obj} {ys : List Value} {s₁ : Shared} {news bag tl t2 : Bag} {S : Bag → Prop} {es : List Dat} {i tk : Nat} {y : Value} {e : Dat}
    (F : Fr h₀ L h' m) (N : News h₀ L h' (t2 ++ ((I, oI) :: (C, oC) :: (D, LCg.lst ys) :: (tl ++ news)))) (ab : ∀ q ∈ (I, oI) :: (C, oC) :: (D, LCg.lst ys) :: (tl ++ news), ∀ p ∈ t2, q.1 < p.1) (off : LCg.Off3 I C D (tl ++ news)) (ha : ∀ q ∈ news, ∀ p ∈ tl, q.1 < p.1)
    (hS : S (t2 ++ (tl ++ news))) (hd : DatAll (tl ++ bag) ys (es.take i)) (hy : DatIn (t2 ++ bag) y e) (he : es.take (i + 1) = es.take i ++ [e]) :
    LCg.CompEnd h₀ L m s₁ I oI C oC D (LCg.lst ys) S (fun y nw => CInv news bag es (i + 1) (ys ++ [y]) nw) y { s₁ with heap := h', toks := tk } := by
  refine LCg.CompEnd.intro F N (t2 ++ (tl ++ news)) (fun p hp => ?_) (off_of ab off) hS ⟨t2 ++ tl, (List.append_assoc _ _ _).symm, fun q hq p hp => ?_, ?_⟩
  · simp only [List.mem_cons, List.mem_append] at hp ⊢
    rcases hp with hp | hp | hp | hp | hp | hp <;> simp [hp]
  · rcases List.mem_append.mp hp with hp | hp
    · exact ab q (.tail _ (.tail _ (.tail _ (List.mem_append_right _ hq)))) p hp
    · exact ha q hq p hp
  · rw [he]
    refine DatAll.append (hd.mono fun p hp => ?_) (DatAll.one (hy.mono fun p hp => ?_))
    · rw [List.append_assoc]; exact List.mem_append_right _ hp
    · rcases List.mem_append.mp hp with hp | hp
      · exact List.mem_append_left _ (List.mem_append_left _ hp)
      · exact List.mem_append_right _ hp

def FilledAt (w : World) (mean : ExcName → Option Value) (mg mb : Str → Option Value) (fd : Addr) (fo : Obj) (kvs : List (Str × Value)) (f : Str → Option Dat) (n : Nat) : Prop :=
    ∀ {A : Around} {h₀ : Heap} {L : Addr} {m : Str → Option Value} {s : Shared} {news bag : Bag} {d : Nat} {Q E : Value → Shared → Prop} {v : Value} {dT e : Dat},
    Amb w mean mg mb A h₀ L (d + n + 1) → Fr h₀ L s.heap m → News h₀ L s.heap news → (∀ p ∈ bag, p ∈ news) → Fnd w news bag fd fo kvs f → DatIn bag v dT → Fill f n dT e →
    (∀ r h' tk', GBack h₀ L m news bag r e h' → Q r { s with heap := h', toks := tk' }) →
    wpAny (model Challenge.rw_xm0574_01.prog w) A (call (.ref 26) [v, .ref fd]) Q E s
theorem FilledAt.use {w : World} {mean : ExcName → Option Value} {mg mb : Str → Option Value} {fd : Addr} {fo : Obj} {kvs : List (Str × Value)} {f : Str → Option Dat} {n : Nat} (H : FilledAt w mean mg mb fd fo kvs f n)
    {A : Around} {h₀ : Heap} {L : Addr} {m : Str → Option Value} {s : Shared} {news bag : Bag} {d : Nat} {Q E : Value → Shared → Prop} {v : Value} {dT e : Dat}
    (Am : Amb w mean mg mb A h₀ L (d + n + 1)) (F : Fr h₀ L s.heap m) (N : News h₀ L s.heap news) (hb : ∀ p ∈ bag, p ∈ news) (FD : Fnd w news bag fd fo kvs f) (hT : DatIn bag v dT) (hF : Fill f n dT e)
    (ret : ∀ r h' tk', GBack h₀ L m news bag r e h' → Q r { s with heap := h', toks := tk' }) :
    wpAny (model Challenge.rw_xm0574_01.prog w) A (call (.ref 26) [v, .ref fd]) Q E s := H Am F N hb FD hT hF ret
theorem rows48 : True := by
  (k_with "@call ref" => ((k_here; (with_reducible show wpAny _ _ (call (Value.ref 26) _) _ _ _); k_dflt (refine' FilledAt.use ?Hv42w ?amv42w ?Fv42w ?Nv42w ?hbv42w ?FDv42w ?Tv42w ?fiv42w ?_; (case Hv42w => assumption); (case amv42w => assumption); (case Fv42w => k_asm); (case Nv42w => k_asm); (case Tv42w => assumption); (case fiv42w => assumption); (case hbv42w => (refine' sub_trans ?x9v42w ?y9v42w; (case x9v42w => assumption); (case y9v42w => walk_at "MySub"))); (case FDv42w => exact ⟨by k_mem, by assumption, by assumption, by assumption⟩)); intro r9v42w h9v42w tk9v42w G9v42w; obtain ⟨tl9v42w, F9v42w, N9v42w, lt9v42w, d9v42w⟩ := G9v42w)))
  trivial
theorem el_4t {bag : Bag} {v : Value} {w : Str} {d1 d2 : Dat} {ds : List Dat} {P : Value → Prop} (h : DatIn bag v (.tuple [.str w, d1, d2, .tuple ds])) (k : ∀ a t x y l n vs n2, (a, tup [.str w t, x, y, .ref l] n) ∈ bag → DatIn bag x d1 → DatIn bag y d2 → (l, tup vs n2) ∈ bag → DatAll bag vs ds → P (.ref a)) : P v :=
  el_4 h fun a t x y z n hm hx hy hz => by
    obtain ⟨l, vs, n2, rfl, hm2, hr⟩ := in_tup hz
    exact k a t x y l n vs n2 hm hx hy hm2 hr
theorem filled_step {w : World} {mean : ExcName → Option Value} {mg mb : Str → Option Value} {fd : Addr} {fo : Obj} {kvs : List (Str × Value)} {f : Str → Option Dat} {n : Nat} (ih : ∀ n', n = n' + 1 → FilledAt w mean mg mb fd fo kvs f n') : FilledAt w mean mg mb fd fo kvs f n := by
  intro A h₀ L m s news bag d Q E v dT e Am F N hb FD hT hF ret
  obtain ⟨A₀, base, env, outer, hA, hf, hke, B⟩ := Am.fr
  obtain ⟨hd8, dp, fr, gd, un⟩ := A
  obtain rfl : hd8 = none := Am.hh
  obtain rfl : fr = some (env :: outer) := hA
  have X := Am.X
  have T := Am.T
  have hdep : dp + (d + n + 1) < 1000 := Am.depth
  have fmem := FD.mem
  have fdict := FD.dict
  have flo := FD.lo
  have fok := FD.ok
  cases hF with
  | same hw =>
    obtain ⟨w1, w2, w3, w4, w5, w6⟩ := hw
    refine el_w (P := fun v => wpAny _ _ (call (.ref 26) [v, .ref fd]) _ _ _) hT ?_
    intro a t xs n m1 hall
    have m1' := hb _ m1
    refine wpAny_call ?_
    k_dflt walk_at "MyEnterC"
    k_steps
    refine ret _ _ _ ?_
    walk_at "MyGBack"
    exact .tuple m1 (.cons (.str _ _) hall)
  | @name _ x =>
    refine el_s (P := fun v => wpAny _ _ (call (.ref 26) [v, .ref fd]) _ _ _) hT ?_
    intro a t u n m1
    have m1' := hb _ m1
    refine wpAny_call ?_
    k_dflt walk_at "MyEnterC"
    k_steps
    refine ret _ _ _ ?_
    walk_at "MyGBack"
    rcases fok x with ⟨h1, h2⟩ | ⟨v, dv, h1, h2, h3⟩
    · rw [h1, h2]
      exact .tuple m1 (.cons (.str _ _) (.cons (.str _ _) .nil))
    · rw [h1, h2]
      exact h3
  | box hsub =>
    replace ih : FilledAt w mean mg mb fd fo kvs f _ := ih _ rfl
    refine el_d (P := fun v => wpAny _ _ (call (.ref 26) [v, .ref fd]) _ _ _) hT ?_
    intro a t x n m1 hx
    have m1' := hb _ m1
    refine wpAny_call ?_
    k_dflt walk_at "MyEnterC"
    k_steps
    refine ret _ _ _ ?_
    walk_at "MyGBack"
    walk_at "MyIn"
  | ref hsub =>
    replace ih : FilledAt w mean mg mb fd fo kvs f _ := ih _ rfl
    refine el_4 (P := fun v => wpAny _ _ (call (.ref 26) [v, .ref fd]) _ _ _) hT ?_
    intro a t x y z n m1 hg hb1 hx
    have m1' := hb _ m1
    refine wpAny_call ?_
    k_dflt walk_at "MyEnterC"
    k_steps
    refine ret _ _ _ ?_
    walk_at "MyGBack"
    walk_at "MyIn"
  | array hsub =>
    replace ih : FilledAt w mean mg mb fd fo kvs f _ := ih _ rfl
    refine el_dx (P := fun v => wpAny _ _ (call (.ref 26) [v, .ref fd]) _ _ _) hT ?_
    intro a t x y n m1 hx hk
    have m1' := hb _ m1
    refine wpAny_call ?_
    k_dflt walk_at "MyEnterC"
    k_steps
    refine ret _ _ _ ?_
    walk_at "MyGBack"
    walk_at "MyIn"
  | @tuple _ ds es hsub hlen =>
    refine el_t (P := fun v => wpAny _ _ (call (.ref 26) [v, .ref fd]) _ _ _) hT ?_
    intro a t l n vs n2 m1 m2 hall
    have m1' := hb _ m1
    have m2' := hb _ m2
    replace ih : FilledAt w mean mg mb fd fo kvs f _ := ih _ rfl
    have hl := hall.length
    have hes := hsub.length
    have e5 : es.take vs.length = es := List.take_of_length_le (by omega)
    refine wpAny_call ?_
    k_dflt walk_at "MyEnterC"
    k_steps
    refine rest_ind (n := vs.length) (CInv _ bag es) ?_ ?_ _ 0 [] _ (Nat.zero_add _) CInv.start
    · intro i ys nw hi hv v I oI C oC D m₂ h2 tk2 E' hP hC hx F2 N2 off ne
      obtain ⟨tl, rfl, ha, hd⟩ := hv
      obtain ⟨d1, e1, hd1, hf1, he1⟩ := hsub.get hall hP
      k_steps
      exact cinv_end (by k_asm) (by k_asm) (by assumption) off ha (by k_mem) hd (by assumption) he1
    · intro ys nw hv
      obtain ⟨tl, rfl, ha, hd⟩ := hv
      unfold LCg.FinE
      intro D h2 tk2 F2 N2 o1
      rw [e5] at hd
      have hy := hd.length
      k_steps
      refine ret _ _ _ ?_
      walk_at "MyGBack"
      walk_at "MyIn"
  | @adt _ p g ds es hsub hlen =>
    refine el_4t (P := fun v => wpAny _ _ (call (.ref 26) [v, .ref fd]) _ _ _) hT ?_
    intro a t x y l n vs n2 m1 hp hg m2 hall
    have m1' := hb _ m1
    have m2' := hb _ m2
    replace ih : FilledAt w mean mg mb fd fo kvs f _ := ih _ rfl
    have hl := hall.length
    have hes := hsub.length
    have e5 : es.take vs.length = es := List.take_of_length_le (by omega)
    refine wpAny_call ?_
    k_dflt walk_at "MyEnterC"
    k_steps
    refine rest_ind (n := vs.length) (CInv _ bag es) ?_ ?_ _ 0 [] _ (Nat.zero_add _) CInv.start
    · intro i ys nw hi hv v I oI C oC D m₂ h2 tk2 E' hP hC hx F2 N2 off ne
      obtain ⟨tl, rfl, ha, hd⟩ := hv
      obtain ⟨d1, e1, hd1, hf1, he1⟩ := hsub.get hall hP
      k_steps
      exact cinv_end (by k_asm) (by k_asm) (by assumption) off ha (by k_mem) hd (by assumption) he1
    · intro ys nw hv
      obtain ⟨tl, rfl, ha, hd⟩ := hv
      unfold LCg.FinE
      intro D h2 tk2 F2 N2 o1
      rw [e5] at hd
      have hy := hd.length
      k_steps
      refine ret _ _ _ ?_
      walk_at "MyGBack"
      walk_at "MyIn"
theorem filled_n {w : World} {mean : ExcName → Option Value} {mg mb : Str → Option Value} {fd : Addr} {fo : Obj} {kvs : List (Str × Value)} {f : Str → Option Dat} (n : Nat) : FilledAt w mean mg mb fd fo kvs f n := by
  induction n with
  | zero => exact filled_step (n := 0) fun n' h => by cases h
  | succ n ih => exact filled_step (n := n + 1) fun n' e => by cases e; exact ih
-- part C1
open LCg

section
variable {prog : Program} {w : World} {A : Around} {E : Value → Shared → Prop} {s : Shared} {h₀ : Heap} {L : Addr} {m : Str → Option Value} {env : Env}

theorem SrcT.introJ {elt : Expr} {x : Str} {scope : Scope} {cl : List (Str × Addr)} {Fin : Shared → List Value → Bag → Prop} {ax J : Addr} {jo : Obj} {its : List Value} {n : Nat} {news keep bag : Bag} {s₁ : Shared}
    (hh : A.handled = none) (F : Fr h₀ L s₁.heap m) (N : News h₀ L s₁.heap news) (P : Parts news J jo keep bag) (hm : (ax, tup its n) ∈ bag) (hsz : its.length ≤ 1000)
    (h : ∀ g, OffJ J keep → Tups bag → CompRest prog w A h₀ L m env elt x scope cl { s₁ with heap := g } (fun nw => (ax, tup its n) ∈ nw) (fun i v => its[i]? = some v) (Fin { s₁ with heap := g }) its.length 0 [] ((J, jo) :: (keep ++ bag))) :
    SrcT prog w A h₀ L m env elt x scope cl Fin (.ref ax) s₁ := SrcT.intro hh F (News.sub N P.sub) (.tail _ (List.mem_append_right _ hm)) hsz fun g => h g P.off P.tups

theorem CompSrc.rangeJ {elt : Expr} {x : Str} {scope : Scope} {cl : List (Str × Addr)} {Fin : Shared → List Value → Bag → Prop} {r J : Addr} {jo : Obj} {k : Int} {t u v : Tok} {n : Nat} {news keep bag : Bag} {s₁ : Shared}
    (hh : A.handled = none) (F : Fr h₀ L s₁.heap m) (N : News h₀ L s₁.heap news) (P : Parts news J jo keep bag) (hr : IsRange s₁.heap r 0 k 1 t u v) (hk : k = (n : Int)) (hsz : n ≤ 1000)
    (h : ∀ g, OffJ J keep → Tups bag → CompRest prog w A h₀ L m env elt x scope cl { s₁ with heap := g } (fun _ => True) (fun i v => ∃ t, v = .int (0 + (i : Int)) t) (Fin { s₁ with heap := g }) n 0 [] ((J, jo) :: (keep ++ bag))) :
    CompSrc prog w A h₀ L m env elt x scope cl Fin (.ref r) s₁ := by
  subst hk
  refine CompSrc.range hh F (News.sub N P.sub) hr ?_ ?_ (by rw [sizeLine_eq]; omega) fun g => h g P.off P.tups
  · exact small_one (by decide) (by decide) (by omega) (by omega)
  · simp only [Builtin.Range.rangeSize]
    split
    · split <;> omega
    · omega

/-- a loop of draws: the jar, what stands, the items made -/
inductive LInv (J : Addr) (keep bag0 : Bag) (G : Dat → Prop) (i : Nat) (ys : List Value) (nw : Bag) : Prop
  | mk (a b : Int) (ta tb : Tok) (n : Nat) (bag' : Bag) (ok : JarOk a b) (e : nw = (J, jar a b ta tb n) :: (keep ++ bag')) (t : Tups bag') (s : ∀ p ∈ bag0, p ∈ bag') (f : Fresh keep bag0 bag') (ds : List Dat) (d : DatAll bag' ys ds) (l : ds.length = i) (g : ∀ d ∈ ds, G d) : LInv J keep bag0 G i ys nw
theorem LInv.start {J : Addr} {keep bag0 : Bag} {G : Dat → Prop} {a b : Int} {ta tb : Tok} {n : Nat} (ok : JarOk a b) (t : Tups bag0) : LInv J keep bag0 G 0 [] ((J, jar a b ta tb n) :: (keep ++ bag0)) :=
  ⟨a, b, ta, tb, n, bag0, ok, rfl, t, fun _ h => h, Fresh.refl, [], .nil, rfl, fun _ h => nomatch h⟩

theorem off3J {I C D J : Addr} {oI oC oD jo jo' : Obj} {keep bag bag' : Bag} (off : Off3 I C D ((J, jo) :: (keep ++ bag))) (fr : Fresh ((I, oI) :: (C, oC) :: (D, oD) :: keep) bag bag') : Off3 I C D ((J, jo') :: (keep ++ bag')) := by
  refine Off3.of fun p hp => ?_
  rcases List.mem_cons.mp hp with rfl | hp
  · exact off.mem (J, jo) (.head _)
  · rcases List.mem_append.mp hp with hp | hp
    · exact off.mem p (.tail _ (List.mem_append_left _ hp))
    · rcases fr p hp with hq | hq
      · exact off.mem p (.tail _ (List.mem_append_right _ hq))
      · exact ⟨Nat.ne_of_gt (hq (I, oI) (.head _)), Nat.ne_of_gt (hq (C, oC) (.tail _ (.head _))), Nat.ne_of_gt (hq (D, oD) (.tail _ (.tail _ (.head _))))⟩

theorem linv_end {h' : Heap} {I C D J : Addr} {oI oC jo : Obj} {ys : List Value} {s₁ : Shared} {keep bag0 bag1 bag2 : Bag} {G : Dat → Prop} {ds : List Dat} {i tk : Nat} {y : Value} {e : Dat} {a b : Int} {ta tb : Tok} {n : Nat}
    (F : Fr h₀ L h' m) (N : News h₀ L h' ((J, jar a b ta tb n) :: (((I, oI) :: (C, oC) :: (D, lst ys) :: keep) ++ bag2))) (ok : JarOk a b) (tt : Tups bag2) (sub : ∀ p ∈ bag1, p ∈ bag2) (fr : Fresh ((I, oI) :: (C, oC) :: (D, lst ys) :: keep) bag1 bag2) (off : Off3 I C D ((J, jo) :: (keep ++ bag1)))
    (sub0 : ∀ p ∈ bag0, p ∈ bag1) (fr0 : Fresh keep bag0 bag1) (hd : DatAll bag1 ys ds) (hl : ds.length = i) (hG : ∀ d ∈ ds, G d) (hy : DatIn bag2 y e) (he : G e) :
    CompEnd h₀ L m s₁ I oI C oC D (lst ys) (fun _ => True) (fun y nw => LInv J keep bag0 G (i + 1) (ys ++ [y]) nw) y { s₁ with heap := h', toks := tk } := by
  refine CompEnd.intro F N ((J, jar a b ta tb n) :: (keep ++ bag2)) (fun p hp => ?_) (off3J off fr) trivial ⟨a, b, ta, tb, n, bag2, ok, rfl, tt, sub_trans sub0 sub, fr0.trans fr fun q hq => .tail _ (.tail _ (.tail _ hq)), ds ++ [e], ?_, by simp [hl], ?_⟩
  · simp only [List.mem_cons, List.mem_append] at hp ⊢
    rcases hp with hp | hp | hp | hp | hp | hp <;> simp [hp]
  · exact (hd.mono sub).append (.one hy)
  · intro d hd'
    rcases List.mem_append.mp hd' with h | h
    · exact hG d h
    · rw [List.mem_singleton.mp h]; exact he

/-- a list of leaves -/
inductive LL (bag : Bag) (k : Nat) (o : Obj) : Prop
  | mk (ps : List Value) (c : Nat) (ds : List Dat) (e : o = listOf ps.toArray c) (d : DatAll bag ps ds) (l : ds.length = k) (g : ∀ d ∈ ds, d ∈ leafs) : LL bag k o
theorem LL.mono {bag bag' : Bag} {k : Nat} {o : Obj} (h : LL bag k o) (s : ∀ p ∈ bag, p ∈ bag') : LL bag' k o := by
  obtain ⟨ps, c, ds, e, hd, r, g⟩ := h
  exact ⟨ps, c, ds, e, hd.mono s, r, g⟩

def Apart (keep : Bag) (p : Addr) : Prop := ∀ q ∈ keep, q.1 ≠ p
inductive OIn (keep bag' : Bag) (J : Addr) (k1 k2 : Nat) : Nat → List Value → Bag → Prop
  | zero : OIn keep bag' J k1 k2 0 [] keep
  | one {p1 : Addr} {o1 : Obj} : LL bag' k1 o1 → p1 ≠ J → Apart keep p1 → OIn keep bag' J k1 k2 1 [.ref p1] ((p1, o1) :: keep)
  | two {p1 p2 : Addr} {o1 o2 : Obj} : LL bag' k1 o1 → p1 ≠ J → Apart keep p1 → LL bag' k2 o2 → p2 ≠ J → Apart keep p2 → OIn keep bag' J k1 k2 2 [.ref p1, .ref p2] ((p2, o2) :: (p1, o1) :: keep)
inductive OInv (J : Addr) (keep bag0 : Bag) (k1 k2 : Nat) (i : Nat) (ys : List Value) (nw : Bag) : Prop
  | mk (a b : Int) (ta tb : Tok) (n : Nat) (l bag' : Bag) (ok : JarOk a b) (e : nw = (J, jar a b ta tb n) :: (l ++ bag')) (t : Tups bag') (s : ∀ p ∈ bag0, p ∈ bag') (f : Fresh keep bag0 bag') (o : OIn keep bag' J k1 k2 i ys l) : OInv J keep bag0 k1 k2 i ys nw
theorem OInv.start {J : Addr} {keep bag0 : Bag} {k1 k2 : Nat} {a b : Int} {ta tb : Tok} {n : Nat} (ok : JarOk a b) (t : Tups bag0) : OInv J keep bag0 k1 k2 0 [] ((J, jar a b ta tb n) :: (keep ++ bag0)) :=
  ⟨a, b, ta, tb, n, keep, bag0, ok, rfl, t, fun _ h => h, Fresh.refl, .zero⟩
theorem OIn.keep {keep bag' : Bag} {J : Addr} {k1 k2 i : Nat} {ys : List Value} {l : Bag} (h : OIn keep bag' J k1 k2 i ys l) : ∀ p ∈ keep, p ∈ l := by
  cases h with
  | zero => exact fun _ h => h
  | one => exact fun _ h => .tail _ h
  | two => exact fun _ h => .tail _ (.tail _ h)
theorem OIn.off {keep bag' : Bag} {J : Addr} {k1 k2 i : Nat} {ys : List Value} {l : Bag} (h : OIn keep bag' J k1 k2 i ys l) (o : OffJ J keep) : OffJ J l := by
  cases h with
  | zero => exact o
  | one _ h1 _ => exact o.cons h1
  | two _ h1 _ _ h2 _ => exact (o.cons h1).cons h2
theorem OIn.next {keep bag' bag2 : Bag} {J : Addr} {k1 k2 i : Nat} {ys : List Value} {l : Bag} (h : OIn keep bag' J k1 k2 i ys l) (s : ∀ p ∈ bag', p ∈ bag2) (hi : i < 2) {p : Addr} {o : Obj} (hp : p ≠ J) (ha : Apart keep p) (ho : LL bag2 (if i = 0 then k1 else k2) o) : OIn keep bag2 J k1 k2 (i + 1) (ys ++ [.ref p]) ((p, o) :: l) := by
  cases h with
  | zero => exact .one ho hp ha
  | one h1 h2 h3 => exact .two (h1.mono s) h2 h3 ho hp ha
  | two => omega

/-- the end of a turn of the outer loop: the inner list is made -/
theorem oinv_end {h' : Heap} {I C D J Dp : Addr} {oI oC jo : Obj} {ys ys2 : List Value} {s₁ : Shared} {keep l bag0 bag1 nw : Bag} {k1 k2 i tk : Nat}
    (hi : i < 2) (F : Fr h₀ L h' m) (hin : LInv J ((I, oI) :: (C, oC) :: (D, lst ys) :: l) bag1 (· ∈ leafs) (if i = 0 then k1 else k2) ys2 nw) (N : News h₀ L h' ((Dp, lst ys2) :: nw)) (o1 : Off1 Dp nw)
    (off : Off3 I C D ((J, jo) :: (l ++ bag1))) (sub0 : ∀ p ∈ bag0, p ∈ bag1) (fr0 : Fresh keep bag0 bag1) (hO : OIn keep bag1 J k1 k2 i ys l) (S : Bag → Prop) (hS : ∀ nw, (∀ p ∈ bag0, p ∈ nw) → S nw) :
    CompEnd h₀ L m s₁ I oI C oC D (lst ys) S (fun y nw => OInv J keep bag0 k1 k2 (i + 1) (ys ++ [y]) nw) (.ref Dp) { s₁ with heap := h', toks := tk } := by
  obtain ⟨a, b, ta, tb, n, bag2, ok, rfl, tt, sub, fr, ds, hd, hl, hG⟩ := hin
  have o1' : ∀ p ∈ (J, jar a b ta tb n) :: (((I, oI) :: (C, oC) :: (D, lst ys) :: l) ++ bag2), p.1 ≠ Dp := by
    have all : ∀ (q : Bag), Off1 Dp q → ∀ p ∈ q, p.1 ≠ Dp := by
      intro q
      induction q with
      | nil => intro _ p hp; cases hp
      | cons x r ih =>
        intro hq p hp
        rcases List.mem_cons.mp hp with rfl | hp
        · exact hq.1
        · exact ih hq.2 p hp
    exact all _ o1
  have hJ : Dp ≠ J := Ne.symm (o1' (J, _) (.head _))
  refine CompEnd.intro F N ((J, jar a b ta tb n) :: (((Dp, lst ys2) :: l) ++ bag2)) (fun p hp => ?_) ?_ (hS _ fun p hp => ?_) ⟨a, b, ta, tb, n, (Dp, lst ys2) :: l, bag2, ok, rfl, tt, sub_trans sub0 sub, ?_, ?_⟩
  · simp only [List.cons_append, List.mem_cons, List.mem_append] at hp ⊢
    rcases hp with hp | hp | hp | hp | hp | hp | hp <;> simp [hp]
  · have h3 := off3J (jo' := jar a b ta tb n) off fr
    refine Off3.of fun p hp => ?_
    rcases List.mem_cons.mp hp with rfl | hp
    · exact h3.mem _ (.head _)
    · rcases List.mem_cons.mp hp with rfl | hp
      · refine ⟨fun e => ?_, fun e => ?_, fun e => ?_⟩
        · exact o1' (I, oI) (.tail _ (.head _)) e.symm
        · exact o1' (C, oC) (.tail _ (.tail _ (.head _))) e.symm
        · exact o1' (D, lst ys) (.tail _ (.tail _ (.tail _ (.head _)))) e.symm
      · exact h3.mem p (.tail _ hp)
  · exact .tail _ (List.mem_append_right _ (sub _ (sub0 p hp)))
  · exact fr0.trans fr fun q hq => .tail _ (.tail _ (.tail _ (hO.keep q hq)))
  · exact hO.next sub hi hJ (fun q hq => o1' q (.tail _ (List.mem_append_left _ (.tail _ (.tail _ (.tail _ (hO.keep q hq))))))) ⟨ys2, ys2.length, ds, rfl, hd, hl, hG⟩
end
inductive HeadAt (bag : Bag) (v : Value) (hs : List Hd) : Prop
  | mk (w : Str) (t : Dat) (k : Nat) (a : Addr) (tw tk : Tok) (vt : Value) (n : Nat) (e : v = .ref a) (m : (a, tup [.str w tw, vt, .int (k : Int) tk] n) ∈ bag) (i : DatIn bag vt t) (hm : (w, t, k) ∈ hs) : HeadAt bag v hs
theorem head_at {bag : Bag} {v : Value} {h : Hd} {hs : List Hd} (hi : DatIn bag v (hdat h)) (hm : h ∈ hs) : HeadAt bag v hs := by
  obtain ⟨w, t, k⟩ := h
  cases hi with | tuple m1 hall =>
  cases hall with | cons hw hall =>
  cases hall with | cons ht hall =>
  cases hall with | cons hk hall =>
  cases hall
  cases hw
  cases hk
  exact ⟨_, _, _, _, _, _, _, _, rfl, m1, ht, hm⟩
theorem rows51 : True := by
  (k_with "@SrcT" => ((k_here; k_dflt (refine' SrcT.introJ ?hv49w ?Fv49w ?Nv49w ?Pv49w ?mv49w ?zv49w ?_; (case hv49w => exact rfl); (case Fv49w => k_asm); (case Nv49w => k_asm); (case Pv49w => walk_at "MyParts"); (case mv49w => k_mem); (case zv49w => first | omega | exact Nat.le_of_ble_eq_true rfl)); intro g9v49w oj9v49w tj9v49w)))
  (k_with "@CompSrc" => ((k_here; k_dflt (refine' CompSrc.rangeJ ?hv50w ?Fv50w ?Nv50w ?Pv50w ?rv50w ?kv50w ?zv50w ?_; (case hv50w => exact rfl); (case Fv50w => k_asm); (case Nv50w => k_asm); (case Pv50w => walk_at "MyParts"); (case rv50w => assumption); (case kv50w => first | exact rfl | omega); (case zv50w => first | omega | exact Nat.le_of_ble_eq_true rfl)); intro g9v50w oj9v50w tj9v50w)))
  trivial
local macro_rules | `(tactic| k_all) => `(tactic| first | with_reducible assumption | (refine List.forall_mem_append.mpr ⟨?_, ?_⟩ <;> k_all) | (refine' off_new ?l ?c ?s; (case l => with_reducible assumption); (case c => omega); (case s => walk_at "MySub")) | (refine' off_tup ?N ?m ?d ?t ?s; (case N => k_asm); (case m => k_mem); (case d => assumption); (case t => assumption); (case s => walk_at "MySub")))
-- part G0
theorem rel_free {env : Env} : ∀ {names : List (Str × NameKind)} {x : Str}, names.lookup x = some .free →
    (names.map fun (n, k) => if (k == NameKind.free && env.scope.kind == .function && env.kindOf n == some .cell) then (n, NameKind.cell) else (n, k)).lookup x = some .cell ∨
    (names.map fun (n, k) => if (k == NameKind.free && env.scope.kind == .function && env.kindOf n == some .cell) then (n, NameKind.cell) else (n, k)).lookup x = some .free
  | [], _, h => by simp at h
  | (n, k) :: r, x, h => by
    have ih := @rel_free env r x
    show List.lookup x ((if (k == NameKind.free && env.scope.kind == .function && env.kindOf n == some .cell) = true then (n, NameKind.cell) else (n, k)) :: _) = _ ∨ List.lookup x ((if (k == NameKind.free && env.scope.kind == .function && env.kindOf n == some .cell) = true then (n, NameKind.cell) else (n, k)) :: _) = _
    cases hx : x == n with
    | true =>
      simp only [List.lookup_cons, hx] at h
      cases h
      by_cases hc : (NameKind.free == NameKind.free && env.scope.kind == .function && env.kindOf n == some .cell) = true
      · rw [if_pos hc]; simp [List.lookup_cons, hx]
      · rw [if_neg hc]; simp [List.lookup_cons, hx]
    | false =>
      simp only [List.lookup_cons, hx] at h
      by_cases hc : (k == NameKind.free && env.scope.kind == .function && env.kindOf n == some .cell) = true
      · rw [if_pos hc]; simp only [List.lookup_cons, hx]; exact ih h
      · rw [if_neg hc]; simp only [List.lookup_cons, hx]; exact ih h

theorem rel_glob {env : Env} : ∀ {names : List (Str × NameKind)} {x : Str}, names.lookup x = some .globalImplicit →
    (names.map fun (n, k) => if (k == NameKind.free && env.scope.kind == .function && env.kindOf n == some .cell) then (n, NameKind.cell) else (n, k)).lookup x = some .globalImplicit
  | [], _, h => by simp at h
  | (n, k) :: r, x, h => by
    have ih := @rel_glob env r x
    show List.lookup x ((if (k == NameKind.free && env.scope.kind == .function && env.kindOf n == some .cell) = true then (n, NameKind.cell) else (n, k)) :: _) = _
    cases hx : x == n with
    | true =>
      simp only [List.lookup_cons, hx] at h
      cases h
      simp [List.lookup_cons, hx]
    | false =>
      simp only [List.lookup_cons, hx] at h
      by_cases hc : (k == NameKind.free && env.scope.kind == .function && env.kindOf n == some .cell) = true
      · rw [if_pos hc]; simp only [List.lookup_cons, hx]; exact ih h
      · rw [if_neg hc]; simp only [List.lookup_cons, hx]; exact ih h

section
variable {M : Model} {A : Around} {E : Value → Shared → Prop} {s : Shared} {K : Frag} {h₀ : Heap} {L C c : Addr} {m m₂ mg mb : Str → Option Value} {news : List (Addr × Obj)} {scope : Scope} {cl : List (Str × Addr)} {env : Env} {p : Program} {loose : List Str} {mean : ExcName → Option Value} {x : Str} {pos : Pos} {v : Value} {o oC : Obj} {Q : Value → Shared → Prop}

theorem in_closed (hx : scope.names.lookup x = some .free) (hk : scope.kind = .function) (hb : (x == ("__debug__" : Str)) = false) (hn : (x == ("__classdict__" : Str)) = false)
    (N : News h₀ L s.heap news) (hc : cl.lookup x = some c) (hm : (c, o) ∈ news) (hd : o.data = .cell (some v)) (h : Q v s) :
    wpAny M A (eval (.Name x pos) (compEnvC scope cl C env)) Q E s := by
  rcases rel_free (env := env) hx with h1 | h1
  · exact lcf_cell N hc hm hd h hk h1 hb
  · exact lcf_free N hc hm hd h hk h1 hb hn
theorem in_own (hx : scope.names.lookup x = some .local) (hk : scope.kind = .function) (hb : (x == ("__debug__" : Str)) = false)
    (N : News h₀ L s.heap news) (hm : (C, oC) ∈ news) (hC : LCg.NsObj oC m₂) (hv : m₂ x = some v) (h : Q v s) :
    wpAny M A (eval (.Name x pos) (compEnvC scope cl C env)) Q E s := LCgL.ld_own N hm hC hv h hk (lookup_relabel_local hx) hb
theorem in_global (hx : scope.names.lookup x = some .globalImplicit) (hk : scope.kind = .function) (hb : (x == ("__debug__" : Str)) = false) (hg : env.globals = mainGlobals)
    (F : Fr h₀ L s.heap m) (X : K.In h₀) (T : Top p loose mean mg mb h₀) (e : nsIn K mainGlobals x = some (some v)) (h : Q v s) :
    wpAny M A (eval (.Name x pos) (compEnvC scope cl C env)) Q E s := LCgL.ld_global F X T e h hg hk (rel_glob hx) hb
theorem in_built (hx : scope.names.lookup x = some .globalImplicit) (hk : scope.kind = .function) (hb : (x == ("__debug__" : Str)) = false) (hg : env.globals = mainGlobals) (hbn : env.builtins = builtinsNs)
    (F : Fr h₀ L s.heap m) (X : K.In h₀) (T : Top p loose mean mg mb h₀) (e : nsIn K mainGlobals x = some none) (hv : bootBuiltins x = some v) (hn : x ≠ "__name__") (h : Q v s) :
    wpAny M A (eval (.Name x pos) (compEnvC scope cl C env)) Q E s := LCgL.ld_built F X T e hv hn h hg hbn hk (rel_glob hx) hb
end
theorem rows53 : True := by
  (k_with "@eval Name" => ((k_here; (with_reducible show wpAny _ _ (eval (Expr.Name _ _) (compEnvC _ _ _ _)) _ _ _); k_dflt (first
  | (refine' in_closed ?hxv52w ?hkv52w ?hbv52w ?hnv52w ?Nv52w ?cv52w ?mv52w ?dv52w ?_; (case hxv52w => rfl); (case hkv52w => rfl); (case hbv52w => decide); (case hnv52w => decide); (case Nv52w => k_asm); (case cv52w => rfl); (case mv52w => k_mem); (case dv52w => k_asm); k_whole)
  | (refine' in_own ?hxv52w ?hkv52w ?hbv52w ?Nv52w ?mv52w ?Cv52w ?vv52w ?_; (case hxv52w => rfl); (case hkv52w => rfl); (case hbv52w => decide); (case Nv52w => k_asm); (case mv52w => k_mem); (case Cv52w => assumption); (case vv52w => assumption); k_whole)
  | (refine' in_global ?hxv52w ?hkv52w ?hbv52w ?hgv52w ?Fv52w ?Xv52w ?Tv52w ?ev52w ?_; (case hxv52w => rfl); (case hkv52w => rfl); (case hbv52w => decide); (case hgv52w => rfl); (case Fv52w => k_asm); (case Xv52w => k_asm); (case Tv52w => k_asm); (case ev52w => k_is); k_whole)
  | (refine' in_built ?hxv52w ?hkv52w ?hbv52w ?hgv52w ?hbnv52w ?Fv52w ?Xv52w ?Tv52w ?ev52w ?vv52w ?nnv52w ?_; (case hxv52w => rfl); (case hkv52w => rfl); (case hbv52w => decide); (case hgv52w => rfl); (case hbnv52w => rfl); (case Fv52w => k_asm); (case Xv52w => k_asm); (case Tv52w => k_asm); (case ev52w => k_is); (case vv52w => boot_by_name); (case nnv52w => decide); k_whole)))))
  trivial
-- part H0
section
open PyProof.V
/-- data that the model's comparison covers, with its depth (truths too) -/
def okD : Nat → Dat → Bool
  | _, .none => true
  | _, .bool _ => true
  | _, .int _ => true
  | _, .str x => PyData.strOk x
  | n + 1, .tuple ds => ds.all (okD n)
  | n + 1, .list ds => ds.all (okD n)
  | _, _ => false

section
variable {h₀ h : Heap} {L : Addr} {news : Bag}
mutual
theorem okD_in (N : News h₀ L h news) : ∀ {v : Value} {d : Dat} (n : Nat), DatIn news v d → okD n d = true → ∃ as, Reads h v (kqdP d) as
  | _, _, _, .none, _ => ⟨_, Reads.none⟩
  | _, _, _, .bool b, _ => ⟨_, Reads.bool b⟩
  | _, _, _, .int i t, _ => ⟨_, Reads.int i t⟩
  | _, _, _, .str x t, _ => ⟨_, Reads.str x t⟩
  | _, _, n, .bytes _ _, hk => by cases n <;> simp [okD] at hk
  | _, _, 0, .tuple _ _, hk => by simp [okD] at hk
  | _, _, 0, .list _ _, hk => by simp [okD] at hk
  | _, _, n + 1, .tuple hm r, hk => by
    obtain ⟨as, q⟩ := okD_all N n r (by simpa [okD] using hk)
    rw [kqdP]
    exact ⟨as, reads_tuple_at (N.get hm) rfl rfl (by simpa using q)⟩
  | _, _, n + 1, .list hm r, hk => by
    obtain ⟨as, q⟩ := okD_all N n r (by simpa [okD] using hk)
    rw [kqdP]
    exact ⟨_, reads_list_at (N.get hm) rfl rfl (by simpa [W.listOf] using q)⟩
theorem okD_all (N : News h₀ L h news) : ∀ {vs : List Value} {ds : List Dat} (n : Nat), DatAll news vs ds → (∀ d ∈ ds, okD n d = true) → ∃ as, ReadsAll h vs (kqdPs ds) as
  | _, _, _, .nil, _ => ⟨_, ReadsAll.nil⟩
  | _, _, n, .cons hd r, hk => by
    obtain ⟨as, q⟩ := okD_in N n hd (hk _ (.head _))
    obtain ⟨bs, p⟩ := okD_all N n r fun d hm => hk d (.tail _ hm)
    rw [kqdPs]
    exact ⟨_, ReadsAll.cons q p⟩
end
end
theorem okD_lay : ∀ (n : Nat) (d : Dat), okD n d = true → (kqdP d).canLay0 = true ∧ (kqdP d).depth ≤ n := by
  have all : ∀ (n : Nat), (∀ d, okD n d = true → (kqdP d).canLay0 = true ∧ (kqdP d).depth ≤ n) → ∀ ds : List Dat, (∀ d ∈ ds, okD n d = true) → PyData.canLayAll0 (kqdPs ds) = true ∧ PyData.depthAll (kqdPs ds) ≤ n := by
    intro n ih ds
    induction ds with
    | nil => intro _; simp [kqdPs, PyData.canLayAll0, PyData.depthAll]
    | cons d ds hi =>
      intro h
      have h1 := ih d (h d (.head _))
      have h2 := hi fun e he => h e (.tail _ he)
      simp only [kqdPs, PyData.canLayAll0, PyData.depthAll, h1.1, h2.1, Bool.and_self, true_and]
      have a1 := h1.2
      have a2 := h2.2
      omega
  intro n
  induction n with
  | zero =>
    intro d h
    cases d <;> simp_all [okD, kqdP, PyData.canLay0, PyData.depth]
  | succ n ih =>
    intro d h
    cases d with
    | none => simp [kqdP, PyData.canLay0, PyData.depth]
    | bool b => simp [kqdP, PyData.canLay0, PyData.depth]
    | int i => simp [kqdP, PyData.canLay0, PyData.depth]
    | str x => simp [okD] at h; simp [kqdP, PyData.canLay0, PyData.depth, h]
    | bytes b => simp [okD] at h
    | tuple ds =>
      have q := all n ih ds (by simpa [okD] using h)
      have q2 := q.2
      simp only [kqdP, PyData.canLay0, PyData.depth, q.1, true_and]
      omega
    | list ds =>
      have q := all n ih ds (by simpa [okD] using h)
      have q2 := q.2
      simp only [kqdP, PyData.canLay0, PyData.depth, q.1, true_and]
      omega
theorem okD_shaped {n : Nat} {d : Dat} (h : okD n d = true) (hn : n ≤ 64) : SeqAt.shaped (kqdP d) = true := by
  have q := okD_lay n d h
  simp only [SeqAt.shaped, q.1, Bool.true_and, decide_eq_true_eq]
  exact Nat.le_trans q.2 hn
theorem okD_refl {n : Nat} {d : Dat} (h : okD n d = true) : PyData.eqv (kqdP d) (kqdP d) = true := PySem.SeqAt.eqv_refl _ (okD_lay n d h).1

section
variable {prog : Program} {w : World} {A : Around} {E : Value → Shared → Prop} {s : Shared} {h₀ : Heap} {L : Addr} {news : Bag} {a b : Value} {da db : Dat} {Q : Value → Shared → Prop} {n k : Nat}
theorem eqD (N : News h₀ L s.heap news) (ia : DatIn news a da) (ib : DatIn news b db) (oa : okD n da = true) (ob : okD k db = true) (hn : n ≤ 64) (hk : k ≤ 64) (hu : A.units + 64 < cLine)
    (h : Q (.bool (PyData.eqv (kqdP da) (kqdP db))) s) : wpAny (model prog w) A (compareOp .Eq a b) Q E s := by
  obtain ⟨_, ra⟩ := okD_in N n ia oa
  obtain ⟨_, rb⟩ := okD_in N k ib ob
  exact eq_dataH ra rb (okD_shaped oa hn) (okD_shaped ob hk) hu h
theorem neD (N : News h₀ L s.heap news) (ia : DatIn news a da) (ib : DatIn news b db) (oa : okD n da = true) (ob : okD k db = true) (hn : n ≤ 64) (hk : k ≤ 64) (hu : A.units + 64 < cLine)
    (h : Q (.bool (!PyData.eqv (kqdP da) (kqdP db))) s) : wpAny (model prog w) A (compareOp .NotEq a b) Q E s := by
  obtain ⟨_, ra⟩ := okD_in N n ia oa
  obtain ⟨_, rb⟩ := okD_in N k ib ob
  exact ne_dataH ra rb (okD_shaped oa hn) (okD_shaped ob hk) hu h
/-- two data that are the same -/
theorem eqD_same (N : News h₀ L s.heap news) (ia : DatIn news a da) (ib : DatIn news b da) (oa : okD n da = true) (hn : n ≤ 64) (hu : A.units + 64 < cLine)
    (h : Q (.bool true) s) : wpAny (model prog w) A (compareOp .Eq a b) Q E s := eqD N ia ib oa oa hn hn hu (by rw [okD_refl oa]; exact h)
theorem neD_same (N : News h₀ L s.heap news) (ia : DatIn news a da) (ib : DatIn news b da) (oa : okD n da = true) (hn : n ≤ 64) (hu : A.units + 64 < cLine)
    (h : Q (.bool false) s) : wpAny (model prog w) A (compareOp .NotEq a b) Q E s := neD N ia ib oa oa hn hn hu (by rw [okD_refl oa]; exact h)
end

theorem okD_head : ∀ h ∈ heads, okD 1 (hdat h) = true := List.all_eq_true.mp (by decide +kernel)
def sameD : Dat → Dat → Bool
  | .none, .none => true
  | .bool a, .bool b => a == b
  | .int a, .int b => a == b
  | .str a, .str b => a == b
  | _, _ => false
theorem sameD_eq {a b : Dat} (h : sameD a b = true) : a = b := by
  unfold sameD at h
  split at h
  · rfl
  · rw [eq_of_beq h]
  · rw [eq_of_beq h]
  · rw [eq_of_beq h]
  · exact absurd h Bool.false_ne_true
theorem eqv_all : (heads.all fun h => heads.all fun g => (h.1 == g.1 && sameD h.2.1 g.2.1 && h.2.2 == g.2.2) || !PyData.eqv (kqdP (hdat h)) (kqdP (hdat g))) = true := by decide +kernel
theorem eqv_head : ∀ h ∈ heads, ∀ g ∈ heads, h ≠ g → PyData.eqv (kqdP (hdat h)) (kqdP (hdat g)) = false := by
  intro h hm g gm hne
  have q := List.all_eq_true.mp (List.all_eq_true.mp eqv_all h hm) g gm
  rw [Bool.or_eq_true] at q
  rcases q with q | q
  · simp only [Bool.and_eq_true] at q
    exact absurd (Prod.ext (eq_of_beq q.1.1) (Prod.ext (sameD_eq q.1.2) (eq_of_beq q.2))) hne
  · simpa using q
end
-- part C2
open LCg
section
variable {prog : Program} {w : World} {A : Around} {E : Value → Shared → Prop} {s : Shared} {h₀ : Heap} {L : Addr} {m : Str → Option Value} {env : Env}
theorem rest_indP {elt : Expr} {x x₂ : Str} {scope : Scope} {cl : List (Str × Addr)} {S : Bag → Prop} {P : Nat → Value → Prop} {Fin : List Value → Bag → Prop} {n : Nat} (Inv : Nat → List Value → Bag → Prop)
    (turn : ∀ i ys news, i < n → Inv i ys news → ∀ v, P i v → ∃ (t : Addr) (v₁ v₂ : Value) (nt : Nat), v = .ref t ∧ (t, tup [v₁, v₂] nt) ∈ news ∧
      ∀ I oI C oC D m₂ h tk (E' : Value → Shared → Prop), NsObj oC m₂ → m₂ x = some v₁ → m₂ x₂ = some v₂ → Fr h₀ L h m → News h₀ L h ((I, oI) :: (C, oC) :: (D, lst ys) :: news) → Off3 I C D news → ((@Ne Nat I C) ∧ (@Ne Nat I D) ∧ (@Ne Nat C D)) →
      wpAny (model prog w) A (eval elt (compEnvC scope cl C env)) (CompEnd h₀ L m { s with heap := h, toks := tk } I oI C oC D (lst ys) S (fun y news' => Inv (i + 1) (ys ++ [y]) news')) E' { s with heap := h, toks := tk })
    (fin : ∀ ys news, Inv n ys news → Fin ys news) : ∀ k i ys news, i + k = n → Inv i ys news → LCp.CompRestP prog w A h₀ L m env elt x x₂ scope cl s S P Fin k i ys news := by
  intro k
  induction k with
  | zero =>
    intro i ys news hi hv
    obtain rfl : i = n := by omega
    exact LCp.CompRestP.zero (fin ys news hv)
  | succ k ih =>
    intro i ys news hi hv
    refine LCp.CompRestP.succ fun v hP => ?_
    obtain ⟨t, v₁, v₂, nt, e, hm, T⟩ := turn i ys news (by omega) hv v hP
    refine ⟨t, _, v₁, v₂, nt, e, hm, rfl, rfl, fun I oI C oC D m₂ h tk E' hC hx hx2 F N off ne => ?_⟩
    refine wpAny_mono (T I oI C oC D m₂ h tk E' hC hx hx2 F N off ne) (fun y s₂ he => CompEnd.mono he fun y nw hi' => ih (i + 1) _ _ (by omega) hi') fun _ _ e => e

theorem srcLP_J {elt : Expr} {x x₂ : Str} {scope : Scope} {cl : List (Str × Addr)} {Fin : Shared → List Value → Bag → Prop} {ax J : Addr} {jo : Obj} {its : List Value} {n : Nat} {news keep bag : Bag} {s₁ : Shared}
    (hh : A.handled = none) (F : Fr h₀ L s₁.heap m) (N : News h₀ L s₁.heap news) (P : Parts news J jo keep bag) (hm : (ax, listOf its.toArray n) ∈ keep) (hsz : its.length ≤ 1000)
    (h : ∀ g, OffJ J keep → Tups bag → LCp.CompRestP prog w A h₀ L m env elt x x₂ scope cl { s₁ with heap := g } (SrcAt h₀ ax its.toArray) (fun i v => its[i]? = some v) (Fin { s₁ with heap := g }) its.length 0 [] ((J, jo) :: (keep ++ bag))) :
    LCp.SrcLP prog w A h₀ L m env elt x x₂ scope cl Fin (.ref ax) s₁ := by
  refine LCp.SrcLP.ledger hh F (News.sub N P.sub) (.tail _ (List.mem_append_left _ hm)) (by rw [List.size_toArray, sizeLine_eq]; omega) fun g => ?_
  simpa using h g P.off P.tups

/-- a loop over data that are known: the items made are es, one by one -/
inductive TInv (J : Addr) (keep bag0 : Bag) (es : List Dat) (i : Nat) (ys : List Value) (nw : Bag) : Prop
  | mk (a b : Int) (ta tb : Tok) (n : Nat) (bag' : Bag) (ok : JarOk a b) (e : nw = (J, jar a b ta tb n) :: (keep ++ bag')) (t : Tups bag') (s : ∀ p ∈ bag0, p ∈ bag') (f : Fresh keep bag0 bag') (d : DatAll bag' ys (es.take i)) : TInv J keep bag0 es i ys nw
theorem TInv.start {J : Addr} {keep bag0 : Bag} {es : List Dat} {a b : Int} {ta tb : Tok} {n : Nat} (ok : JarOk a b) (t : Tups bag0) : TInv J keep bag0 es 0 [] ((J, jar a b ta tb n) :: (keep ++ bag0)) :=
  ⟨a, b, ta, tb, n, bag0, ok, rfl, t, fun _ h => h, Fresh.refl, .nil⟩
theorem tinv_end {h' : Heap} {I C D J : Addr} {oI oC jo : Obj} {ys : List Value} {s₁ : Shared} {keep bag0 bag1 bag2 : Bag} {S : Bag → Prop} {es : List Dat} {i tk : Nat} {y : Value} {e : Dat} {a b : Int} {ta tb : Tok} {n : Nat}
    (F : Fr h₀ L h' m) (N : News h₀ L h' ((J, jar a b ta tb n) :: (((I, oI) :: (C, oC) :: (D, lst ys) :: keep) ++ bag2))) (ok : JarOk a b) (tt : Tups bag2) (sub : ∀ p ∈ bag1, p ∈ bag2) (fr : Fresh ((I, oI) :: (C, oC) :: (D, lst ys) :: keep) bag1 bag2) (off : Off3 I C D ((J, jo) :: (keep ++ bag1)))
    (sub0 : ∀ p ∈ bag0, p ∈ bag1) (fr0 : Fresh keep bag0 bag1) (hd : DatAll bag1 ys (es.take i)) (hy : DatIn bag2 y e) (he : es[i]? = some e) (hS : ∀ nw, (∀ p ∈ keep, p ∈ nw) → S nw) :
    CompEnd h₀ L m s₁ I oI C oC D (lst ys) S (fun y nw => TInv J keep bag0 es (i + 1) (ys ++ [y]) nw) y { s₁ with heap := h', toks := tk } := by
  refine CompEnd.intro F N ((J, jar a b ta tb n) :: (keep ++ bag2)) (fun p hp => ?_) (off3J off fr) (hS _ fun p hp => .tail _ (List.mem_append_left _ hp)) ⟨a, b, ta, tb, n, bag2, ok, rfl, tt, sub_trans sub0 sub, fr0.trans fr fun q hq => .tail _ (.tail _ (.tail _ hq)), ?_⟩
  · simp only [List.mem_cons, List.mem_append] at hp ⊢
    rcases hp with hp | hp | hp | hp | hp | hp <;> simp [hp]
  · rw [List.take_add_one, he]
    exact (hd.mono sub).append (.one hy)
theorem srcAt_of {ax : Addr} {its : List Value} {n : Nat} {keep : Bag} (hm : (ax, listOf its.toArray n) ∈ keep) : ∀ nw : Bag, (∀ p ∈ keep, p ∈ nw) → SrcAt h₀ ax its.toArray nw := fun nw h => .inr ⟨_, h _ hm, rfl, _, rfl⟩
end
theorem tinv_pair {h₀ h' : Heap} {L T I C D J : Addr} {m : Str → Option Value} {oI oC : Obj} {ys : List Value} {s₁ : Shared} {keep bag0 bag1 : Bag} {S : Bag → Prop} {es : List Dat} {i tk n0 : Nat} {v1 v2 : Value} {d1 d2 : Dat} {a b : Int} {ta tb : Tok} {n : Nat}
    (F : Fr h₀ L h' m) (N : News h₀ L h' ((T, tup [v1, v2] n0) :: (I, oI) :: (C, oC) :: (D, lst ys) :: (J, jar a b ta tb n) :: (keep ++ bag1))) (l : ∀ p ∈ (I, oI) :: (C, oC) :: (D, lst ys) :: (J, jar a b ta tb n) :: (keep ++ bag1), p.1 < T)
    (ok : JarOk a b) (tt : Tups bag1) (off : Off3 I C D ((J, jar a b ta tb n) :: (keep ++ bag1))) (sub0 : ∀ p ∈ bag0, p ∈ bag1) (fr0 : Fresh keep bag0 bag1) (hd : DatAll bag1 ys (es.take i)) (h1 : DatIn bag1 v1 d1) (h2 : DatIn bag1 v2 d2)
    (he : es[i]? = some (pairD (d1, d2))) (hS : ∀ nw, (∀ p ∈ keep, p ∈ nw) → S nw) :
    CompEnd h₀ L m s₁ I oI C oC D (lst ys) S (fun y nw => TInv J keep bag0 es (i + 1) (ys ++ [y]) nw) (.ref T) { s₁ with heap := h', toks := tk } := by
  refine tinv_end (ta := ta) (tb := tb) (n := n) (bag2 := (T, tup [v1, v2] n0) :: bag1) F (News.sub N fun p hp => ?_) ok tt.cons (sub_cons sub_refl) (Fresh.refl.cons fun q hq => l q ?_) off sub0 fr0 hd (.tuple (.head _) (.cons (h1.mono (sub_cons sub_refl)) (.cons (h2.mono (sub_cons sub_refl)) .nil))) he hS
  · simp only [List.mem_cons, List.mem_append] at hp ⊢
    rcases hp with hp | (hp | hp | hp | hp) | hp | hp <;> simp [hp]
  · simp only [List.mem_cons, List.mem_append] at hq ⊢
    rcases hq with hq | hq | hq | hq <;> simp [hq]
theorem dat_at {bag : Bag} : ∀ {vs : List Value} {ds : List Dat}, DatAll bag vs ds → ∀ {i : Nat} {v : Value}, vs[i]? = some v → ∃ d, ds[i]? = some d ∧ DatIn bag v d
  | _, _, .nil, _, _, h => by simp at h
  | _, _, .cons h1 r1, 0, v, h => by
    simp at h
    subst h
    exact ⟨_, by simp, h1⟩
  | _, _, .cons h1 r1, i + 1, v, h => by
    simp at h
    obtain ⟨d, a, b⟩ := dat_at r1 h
    exact ⟨d, by simpa using a, b⟩
inductive PairAt (bag : Bag) (ps : List (Dat × Dat)) (i : Nat) (v : Value) : Prop
  | mk (t : Addr) (v1 v2 : Value) (nt : Nat) (p : Dat × Dat) (e : v = .ref t) (m : (t, tup [v1, v2] nt) ∈ bag) (hp : ps[i]? = some p) (d1 : DatIn bag v1 p.1) (d2 : DatIn bag v2 p.2) : PairAt bag ps i v
theorem pair_at {bag : Bag} {vs : List Value} {ps : List (Dat × Dat)} (H : DatAll bag vs (ps.map pairD)) {i : Nat} {v : Value} (h : vs[i]? = some v) : PairAt bag ps i v := by
  obtain ⟨d, hd, hi⟩ := dat_at H h
  rw [List.getElem?_map] at hd
  obtain ⟨p, hp, rfl⟩ := Option.map_eq_some_iff.mp hd
  cases hi with | tuple hm hall =>
  cases hall with | cons h1 hall =>
  cases hall with | cons h2 hall =>
  cases hall
  exact ⟨_, _, _, _, p, rfl, hm, hp, h1, h2⟩
theorem zip_at {ds es : List Dat} {i : Nat} {d e : Dat} (h1 : ds[i]? = some d) (h2 : es[i]? = some e) : ((ds.zip es).map pairD)[i]? = some (pairD (d, e)) := by
  simp [List.getElem?_map, List.getElem?_zip_eq_some, h1, h2, List.zip, List.getElem?_zipWith]
theorem zip_swap {ds es : List Dat} {i : Nat} {p : Dat × Dat} (h : (ds.zip es)[i]? = some p) : ((es.zip ds).map pairD)[i]? = some (pairD (p.2, p.1)) := by
  rw [List.getElem?_zip_eq_some] at h
  exact zip_at h.2 h.1
theorem rows55 : True := by
  (k_with "@SrcLP" => ((k_here; k_dflt (refine' srcLP_J ?hv54w ?Fv54w ?Nv54w ?Pv54w ?mv54w ?zv54w ?_; (case hv54w => exact rfl); (case Fv54w => k_asm); (case Nv54w => k_asm); (case Pv54w => walk_at "MyParts"); (case mv54w => k_mem); (case zv54w => omega)); intro g9v54w oj9v54w tj9v54w)))
  trivial
/-- the pairs of leaves are data that compare -/
theorem okD_leafs {ds : List Dat} (h : ∀ d ∈ ds, d ∈ leafs) : ∀ d ∈ ds, okD 2 d = true := fun d hd => by
  have := h d hd
  simp only [leafs, List.mem_cons, List.not_mem_nil, or_false] at this
  rcases this with rfl | rfl | rfl | rfl | rfl <;> decide +kernel
theorem okD_pairs {ds es : List Dat} {n : Nat} (h : ∀ d ∈ ds, okD n d = true) (k : ∀ d ∈ es, okD n d = true) : okD (n + 2) (.list ((ds.zip es).map pairD)) = true := by
  simp only [okD, List.all_eq_true, List.mem_map]
  rintro d ⟨p, hp, rfl⟩
  have := List.of_mem_zip (a := p.1) (b := p.2) hp
  simp [pairD, okD, h p.1 this.1, k p.2 this.2]
-- part G1a
theorem rows74 : True := by
  (k_with "@call ref" => ((k_here; (with_reducible show wpAny _ _ (call (Value.ref 61) _) _ _ _); k_dflt (refine' head ?amv56w ?Fv56w ?Nv56w ?Pv56w ?okv56w ?_; (case amv56w => assumption); (case Fv56w => k_asm); (case Nv56w => k_asm); (case Pv56w => walk_at "MyParts"); (case okv56w => assumption)); intro r9v56w h9v56w tk9v56w K9v56w; k_dflt (obtain ⟨a9v56w, b9v56w, ta9v56w, tb9v56w, n9v56w, bag9v56w, ok9v56w, F9v56w, N9v56w, sub9v56w, tt9v56w, fr9v56w, hd9v56w, hm9v56w, hi9v56w⟩ := K9v56w); (try k_sweep))))
  (k_with "@call ref" => ((k_here; (with_reducible show wpAny _ _ (call (Value.ref 54) _) _ _ _); k_dflt (refine' leaf ?amv57w ?Fv57w ?Nv57w ?Pv57w ?okv57w ?_; (case amv57w => assumption); (case Fv57w => k_asm); (case Nv57w => k_asm); (case Pv57w => walk_at "MyParts"); (case okv57w => assumption)); intro r9v57w h9v57w tk9v57w K9v57w; k_dflt (obtain ⟨a9v57w, b9v57w, ta9v57w, tb9v57w, n9v57w, bag9v57w, ok9v57w, F9v57w, N9v57w, sub9v57w, tt9v57w, fr9v57w, e9v57w, he9v57w, hi9v57w⟩ := K9v57w); (try k_sweep))))
  (k_with "@eval ListComp" => ((k_here; (with_reducible show wpAny _ _ (eval (Expr.ListComp _ [⟨_, Expr.Tuple _ _ _, _, _⟩] _ _) _) _ _ _); k_dflt (refine ListComp_tup (F₀ := by k_asm) (by with_unfolding_all rfl) (by decide) (by rfl) (by decide) (by rfl) ?_))))
  trivial
theorem heads_le : ∀ h ∈ heads, h.2.2 ≤ 100 := by decide +kernel
theorem made_ex {w : Str} {t : Dat} {k : Nat} {ds : List Dat} (h : (w, t, k) ∈ heads) (hl : ds.length = k) : ∃ e, Made w t ds e := by
  simp only [heads, List.mem_cons, List.not_mem_nil, or_false, Prod.mk.injEq] at h
  rcases h with ⟨rfl, rfl, rfl⟩ | ⟨rfl, rfl, rfl⟩ | ⟨rfl, rfl, rfl⟩ | ⟨rfl, rfl, rfl⟩ | ⟨rfl, rfl, rfl⟩ | ⟨rfl, rfl, rfl⟩ | ⟨rfl, rfl, rfl⟩ | ⟨rfl, rfl, rfl⟩ | ⟨rfl, rfl, rfl⟩ | ⟨rfl, rfl, rfl⟩ | ⟨rfl, rfl, rfl⟩ | ⟨rfl, rfl, rfl⟩ | ⟨rfl, rfl, rfl⟩ | ⟨rfl, rfl, rfl⟩ | ⟨rfl, rfl, rfl⟩ | ⟨rfl, rfl, rfl⟩ | ⟨rfl, rfl, rfl⟩ | ⟨rfl, rfl, rfl⟩ | ⟨rfl, rfl, rfl⟩ | ⟨rfl, rfl, rfl⟩ | ⟨rfl, rfl, rfl⟩
  all_goals first
    | (obtain rfl := List.eq_nil_of_length_eq_zero hl; first
      | exact ⟨_, _, .wstr (.inl rfl)⟩ | exact ⟨_, _, .wpl (.inl rfl)⟩ | exact ⟨_, _, .wpl (.inr rfl)⟩ | exact ⟨_, _, .wstr (.inr rfl)⟩ | exact ⟨_, _, .wint (.inl rfl)⟩ | exact ⟨_, _, .wint (.inr rfl)⟩ | exact ⟨_, _, .tuple⟩ | exact ⟨_, _, .adt List.mem_cons_self⟩)
    | exact ⟨_, _, .tuple⟩ | exact ⟨_, _, .adt List.mem_cons_self⟩
    | (obtain ⟨d, rfl⟩ := List.length_eq_one_iff.mp hl; first
      | exact ⟨_, _, .ref List.mem_cons_self⟩ | exact ⟨_, _, .box⟩ | exact ⟨_, _, .array⟩)
theorem head_in {bag : Bag} {w : Str} {t : Dat} {k : Int} {a : Addr} {tw tk : Tok} {vt : Value} {n : Nat} (hm : (a, tup [.str w tw, vt, .int k tk] n) ∈ bag) (ht : DatIn bag vt t) : DatIn bag (.ref a) (.tuple [.str w, t, .int k]) :=
  .tuple hm (.cons (.str _ _) (.cons ht (.cons (.int _ _) .nil)))
theorem rows75 : True := by
  (k_with "@call ref" => ((k_here; (with_reducible show wpAny _ _ (call (Value.ref 68) _) _ _ _); k_dflt (refine' made ?amv59w ?Fv59w ?Nv59w ?Pv59w ?okv59w ?hhv59w ?hpv59w ?hdsv59w ?hlv59w ?hmv59w ?_; (case amv59w => first | assumption | exact Amb.mono (by assumption) (by omega)); (case Fv59w => k_asm); (case Nv59w => k_asm); (case Pv59w => walk_at "MyParts"); (case okv59w => assumption); (case hhv59w => walk_at "MyIn"); (case hpv59w => k_mem); (case hdsv59w => walk_at "MyAll"); (case hlv59w => assumption); (case hmv59w => assumption)); intro r9v59w h9v59w tk9v59w K9v59w; k_dflt (obtain ⟨a9v59w, b9v59w, ta9v59w, tb9v59w, n9v59w, bag9v59w, ok9v59w, F9v59w, N9v59w, sub9v59w, tt9v59w, fr9v59w, e9v59w, he9v59w, hi9v59w⟩ := K9v59w); (try k_sweep))))
  (k_with "MyMem" => (first | (with_reducible assumption) | (with_reducible exact List.mem_cons_self) | ((with_reducible refine List.mem_cons_of_mem _ ?_); walk_at "MyMem") | ((with_reducible refine List.mem_append_left _ ?_); walk_at "MyMem") | ((with_reducible refine List.mem_append_right _ ?_); walk_at "MyMem")))
  trivial
theorem cons_sub {x : Addr × Obj} {b c : Bag} (h : ∀ p ∈ x :: b, p ∈ c) : ∀ p ∈ b, p ∈ c := fun p hp => h p (.tail _ hp)
theorem app_sub {a b c : Bag} (h : ∀ p ∈ a ++ b, p ∈ c) : ∀ p ∈ b, p ∈ c := fun p hp => h p (List.mem_append_right _ hp)
theorem rows76 : True := by
  (k_with "MyChain" => (first | exact sub_refl | (with_reducible assumption) | ((with_reducible refine List.forall_mem_cons.mpr ⟨?_, ?_⟩); walk_at "MyMem"; walk_at "MyChain") | ((with_reducible refine List.forall_mem_append.mpr ⟨?_, ?_⟩) <;> walk_at "MyChain") | (intro p9v61w hp9v61w; walk_at "MyMem") | (refine' sub_trans ?x9v61w ?y9v61w; (case x9v61w => with_reducible assumption); (case y9v61w => walk_at "MyChain")) | (refine' sub_trans (cons_sub ?x9v61w) ?y9v61w; (case x9v61w => with_reducible assumption); (case y9v61w => walk_at "MyChain")) | (refine' sub_trans (app_sub ?x9v61w) ?y9v61w; (case x9v61w => with_reducible assumption); (case y9v61w => walk_at "MyChain"))))
  (k_with "MySub" => (walk_at "MyChain"))
  trivial
theorem chain_mem {b1 b2 : Bag} {x : Addr × Obj} (s : ∀ p ∈ b1, p ∈ b2) (m : x ∈ b1) : x ∈ b2 := s x m
theorem rows77 : True := by
  (k_with "MyMemC" => (first | walk_at "MyMem" | (refine' chain_mem ?s9v63w ?m9v63w; (case m9v63w => with_reducible assumption); (case s9v63w => walk_at "MyChain"))))
  (k_with "@subscriptTail Name" => ((k_here; (with_reducible show wpAny _ _ (subscriptTail _ _ (Value.ref _) (Value.int _ _)) _ _ _); k_dflt (refine' item_tupleT ?tv64w ?av64w ?bv64w ?cv64w ?dv64w ?_ ?hsv64w; (case tv64w => exact News.isTup (by k_asm) (by walk_at "MyMemC")); (case av64w => decide); (case bv64w => decide); (case cv64w => rfl); (case dv64w => rfl); (case hsv64w => with_unfolding_all rfl); k_whole))))
  (k_with "@subscriptTail Name" => ((k_here; (with_reducible show wpAny _ _ (subscriptTail _ _ (Value.ref _) (Value.int _ _)) _ _ _); k_dflt (refine' item_list ?Nv65w ?mv65w ?av65w ?bv65w ?vv65w ?_ ?hsv65w; (case Nv65w => k_asm); (case mv65w => walk_at "MyMem"); (case av65w => omega); (case bv65w => omega); (case vv65w => omega); (case hsv65w => with_unfolding_all rfl)); intro v9v65w hv9v65w)))
  trivial
theorem Tups.app {b1 b2 : Bag} (h : Tups b1) (k : Tups b2) : Tups (b1 ++ b2) := fun p hp => (List.mem_append.mp hp).elim (h p) (k p)
theorem Parts.more {J : Addr} {o : Obj} {news keep bag tl : Bag} (h : Parts news J o keep bag) (t : Tups tl) : Parts (tl ++ news) J o keep (tl ++ bag) := by
  refine ⟨fun p hp => ?_, h.off, t.app h.tups⟩
  have := h.sub p
  simp only [List.mem_cons, List.mem_append] at hp this ⊢
  rcases hp with hp | hp | hp | hp
  · exact .inr (this (.inl hp))
  · exact .inr (this (.inr (.inl hp)))
  · exact .inl hp
  · exact .inr (this (.inr (.inr hp)))
theorem rows78 : True := by
  (k_with "MyParts" => ((refine' Parts.more ?hp9v66w ?t9v66w; (case t9v66w => assumption); (case hp9v66w => walk_at "MyParts"))))
  trivial
theorem hp_apart {h₀ h : Heap} {L S J : Addr} {rs : List Value} {c n : Nat} {tl news bag : Bag} {a b : Int} {ta tb : Tok} {ps : List (Dat × Dat)} (N : News h₀ L h ((S, listOf rs.toArray c) :: (tl ++ news))) (hJ : (J, jar a b ta tb n) ∈ news) (d : DatAll bag rs (ps.map pairD)) : S ≠ J := fun e => by
  have h1 := (N _ (.head _)).1
  have h2 := (N _ (.tail _ (List.mem_append_right _ hJ))).1
  dsimp only at h1 h2
  rw [e, h2] at h1
  have h3 := congrArg Obj.data (Option.some.inj h1)
  injection h3 with h4 h5
  obtain rfl : rs = [.int a ta, .int b tb] := by
    have := congrArg Array.toList h4
    simpa using this.symm
  cases d' : ps.map pairD with
  | nil => rw [d'] at d; cases d
  | cons x xs =>
    rw [d'] at d
    cases d with | cons d1 d2 =>
    have hx : x ∈ ps.map pairD := by rw [d']; exact .head _
    obtain ⟨p, _, rfl⟩ := List.mem_map.mp hx
    cases d1
theorem DatIn.alist {b news : Bag} {a : Addr} {vs : List Value} {n : Nat} {ds : List Dat} (hm : (a, listOf vs.toArray n) ∈ news) (d : DatAll b vs ds) (s : ∀ p ∈ b, p ∈ news) : DatIn news (.ref a) (.list ds) := .list hm (d.mono s)
theorem rows79 : True := by
  (k_with "MyList" => ((refine' DatIn.alist ?m9v67w ?d9v67w ?s9v67w; (case m9v67w => walk_at "MyMem"); (case d9v67w => with_reducible assumption); (case s9v67w => walk_at "MyChain"))))
  trivial
theorem hpairs_yes {w : World} {mean : ExcName → Option Value} {mg mb : Str → Option Value} {A : Around} {h₀ : Heap} {L J : Addr} {m : Str → Option Value} {s : Shared} {news keep bag : Bag} {a b : Int} {ta tb : Tok} {n : Nat}
    {d : Nat} {Q E : Value → Shared → Prop} {v1 v2 : Value} {ds1 ds2 : List Dat} {w1 w2 : Str} {t1 t2 e1 e2 : Dat}
    (Am : Amb w mean mg mb A h₀ L (d + 3)) (F : Fr h₀ L s.heap m)
    (N : News h₀ L s.heap news) (P : Parts news J (jar a b ta tb n) keep bag) (hh1 : DatIn bag v1 e1) (hh2 : DatIn bag v2 e2) (hm1 : Made w1 t1 ds1 e1) (hm2 : Made w2 t2 ds2 e2) (hl1 : ds1.length ≤ 100) (hl2 : ds2.length ≤ 100)
    (hal : Alike w1 t1 ds1 w2 t2 ds2)
    (ret : ∀ S rs c tl h' tk', S ≠ J → Fr h₀ L h' m → News h₀ L h' ((S, listOf rs.toArray c) :: (tl ++ news)) → Tups tl → DatAll (tl ++ bag) rs ((ds1.zip ds2).map pairD) → rs.length = ds1.length → Q (.ref S) { s with heap := h', toks := tk' }) :
    wpAny (model Challenge.rw_xm0574_01.prog w) A (call (.ref 21) [v1, v2]) Q E s :=
  hpairs Am F N (fun p h => P.sub _ (.tail _ (List.mem_append_right _ h))) hh1 hh2 hm1 hm2 hl1 hl2 fun r h' tk' H => by
    obtain ⟨S, rs, c, tl, rfl, F', N', tt, dd⟩ := H.yes hal
    have hz : rs.length = ds1.length := by
      have := DatAll.length dd
      simp only [List.length_map, List.length_zip] at this
      have := hal.2.2
      omega
    exact ret S rs c tl h' tk' (hp_apart N' (P.sub _ (.head _)) dd) F' N' tt dd hz
theorem hpairs_no {w : World} {mean : ExcName → Option Value} {mg mb : Str → Option Value} {A : Around} {h₀ : Heap} {L : Addr} {m : Str → Option Value} {s : Shared} {news : Bag}
    {d : Nat} {Q E : Value → Shared → Prop} {v1 v2 : Value} {ds1 ds2 : List Dat} {w1 w2 : Str} {t1 t2 e1 e2 : Dat}
    (Am : Amb w mean mg mb A h₀ L (d + 3)) (F : Fr h₀ L s.heap m)
    (N : News h₀ L s.heap news) (hh1 : DatIn news v1 e1) (hh2 : DatIn news v2 e2) (hm1 : Made w1 t1 ds1 e1) (hm2 : Made w2 t2 ds2 e2) (hl1 : ds1.length ≤ 100) (hl2 : ds2.length ≤ 100)
    (hal : ¬ Alike w1 t1 ds1 w2 t2 ds2)
    (ret : ∀ h' tk', Fr h₀ L h' m → News h₀ L h' news → Q .none { s with heap := h', toks := tk' }) :
    wpAny (model Challenge.rw_xm0574_01.prog w) A (call (.ref 21) [v1, v2]) Q E s :=
  hpairs Am F N (fun _ h => h) hh1 hh2 hm1 hm2 hl1 hl2 fun r h' tk' H => by
    obtain ⟨rfl, F', N'⟩ := H.no hal
    exact ret h' tk' F' N'
theorem rows80 : True := by
  (k_with "@call ref" => ((k_here; (with_reducible show wpAny _ _ (call (Value.ref 21) _) _ _ _); (first
  | (k_dflt (refine' hpairs_yes ?amv68w ?Fv68w ?Nv68w ?Pv68w ?i1v68w ?i2v68w ?m1v68w ?m2v68w ?l1v68w ?l2v68w ?alv68w ?_; (case amv68w => assumption); (case Fv68w => k_asm); (case Nv68w => k_asm); (case Pv68w => walk_at "MyParts"); (case i1v68w => walk_at "MyIn"); (case i2v68w => walk_at "MyIn"); (case m1v68w => assumption); (case m2v68w => assumption); (case alv68w => with_reducible assumption); (case l1v68w => omega); (case l2v68w => omega)); intro S9v68w rs9v68w c9v68w tl9v68w h9v68w tk9v68w ne9v68w F9v68w N9v68w tt9v68w dd9v68w ln9v68w; (try k_sweep))
  | (k_dflt (refine' hpairs_no ?amv68w ?Fv68w ?Nv68w ?i1v68w ?i2v68w ?m1v68w ?m2v68w ?l1v68w ?l2v68w ?alv68w ?_; (case amv68w => assumption); (case Fv68w => k_asm); (case Nv68w => k_asm); (case i1v68w => walk_at "MyIn"); (case i2v68w => walk_at "MyIn"); (case m1v68w => assumption); (case m2v68w => assumption); (case alv68w => with_reducible assumption); (case l1v68w => omega); (case l2v68w => omega)); intro h9v68w tk9v68w F9v68w N9v68w; (try k_sweep))))))
  trivial
theorem units_of {w : World} {mean : ExcName → Option Value} {mg mb : Str → Option Value} {A : Around} {h₀ : Heap} {L : Addr} {d : Nat} (Am : Amb w mean mg mb A h₀ L d) : A.units + 64 < cLine := by
  have := Am.units
  show A.units + 64 < 9900
  omega
section
variable {prog : Program} {w : World} {A : Around} {E : Value → Shared → Prop} {s : Shared} {h₀ : Heap} {L : Addr} {news : Bag} {a b : Value} {Q : Value → Shared → Prop} {w1 w2 : Str} {t1 t2 : Dat} {k1 k2 : Nat}
theorem heads_same (N : News h₀ L s.heap news) (ia : DatIn news a (.tuple [.str w1, t1, .int (k1 : Int)])) (ib : DatIn news b (.tuple [.str w1, t1, .int (k1 : Int)])) (hm : (w1, t1, k1) ∈ heads) (hu : A.units + 64 < cLine)
    (h : Q (.bool true) s) : wpAny (model prog w) A (compareOp .Eq a b) Q E s := eqD_same (n := 1) N ia ib (okD_head _ hm) (by decide) hu h
theorem heads_ne (N : News h₀ L s.heap news) (ia : DatIn news a (.tuple [.str w1, t1, .int (k1 : Int)])) (ib : DatIn news b (.tuple [.str w2, t2, .int (k2 : Int)])) (hm : (w1, t1, k1) ∈ heads) (hm2 : (w2, t2, k2) ∈ heads)
    (ne : ¬ ((w1, t1, k1) : Hd) = (w2, t2, k2)) (hu : A.units + 64 < cLine)
    (h : Q (.bool false) s) : wpAny (model prog w) A (compareOp .Eq a b) Q E s := eqD (n := 1) (k := 1) N ia ib (okD_head _ hm) (okD_head _ hm2) (by decide) (by decide) hu (by
      have q := eqv_head _ hm _ hm2 ne
      simp only [hdat] at q
      rw [q]; exact h)
end
theorem rows81 : True := by
  (k_with "@compareOp NotEq ref ref" => ((k_here; (with_reducible show wpAny _ _ (compareOp CmpOp.NotEq _ _) _ _ _); k_dflt (refine' neD_same ?Nv69w ?iav69w ?ibv69w ?ov69w ?qv69w ?uv69w ?_; (case Nv69w => k_asm); (case iav69w => walk_at "MyList"); (case ibv69w => walk_at "MyList"); (case ov69w => with_reducible assumption); (case qv69w => decide); (case uv69w => (refine' units_of ?amv69w; (case amv69w => assumption)))); k_whole)))
  (k_with "@compareOp Eq ref ref" => ((k_here; (with_reducible show wpAny _ _ (compareOp CmpOp.Eq _ _) _ _ _); k_dflt (first
  | (refine' heads_ne ?Nv70w ?iav70w ?ibv70w ?m1v70w ?m2v70w ?nev70w ?uv70w ?_; (case Nv70w => k_asm); (case nev70w => assumption); (case m1v70w => assumption); (case m2v70w => assumption); (case iav70w => walk_at "MyIn"); (case ibv70w => walk_at "MyIn"); (case uv70w => (refine' units_of ?amv70w; (case amv70w => assumption))); k_whole)
  | (refine' heads_same ?Nv70w ?iav70w ?ibv70w ?m1v70w ?uv70w ?_; (case Nv70w => k_asm); (case iav70w => walk_at "MyIn"); (case ibv70w => walk_at "MyIn"); (case m1v70w => assumption); (case uv70w => (refine' units_of ?amv70w; (case amv70w => assumption))); k_whole)))))
  (k_with "@compareOp Eq ref ref" => ((k_here; (with_reducible show wpAny _ _ (compareOp CmpOp.Eq _ _) _ _ _); k_dflt (refine' eqD_same ?Nv71w ?iav71w ?ibv71w ?ov71w ?qv71w ?uv71w ?_; (case Nv71w => k_asm); (case iav71w => walk_at "MyList"); (case ibv71w => walk_at "MyList"); (case ov71w => with_reducible assumption); (case qv71w => decide); (case uv71w => (refine' units_of ?amv71w; (case amv71w => assumption)))); k_whole)))
  trivial
inductive JoinP (s : Shared) (g : Heap) (L : Addr) (m : Str → Option Value) (J : Addr) (keep bag : Bag) (v : Value) (s' : Shared) : Prop
  | mk (h' : Heap) (tk' : Nat) (e : s' = { s with heap := h', toks := tk' }) (b : Back g L m J keep bag (fun bag' => ∃ h2 ∈ heads, DatIn bag' v (hdat h2)) h') : JoinP s g L m J keep bag v s'
theorem join_second {M : Model} {A : Around} {E : Value → Shared → Prop} {s : Shared} {g : Heap} {L J : Addr} {m : Str → Option Value} {keep bag : Bag} {a b : Int} {ta tb : Tok} {n : Nat} {v1 : Value} {hd1 : Hd} {test body orelse : Expr} {pos : Pos} {env : Env} {Q : Value → Shared → Prop}
    (F : Fr g L s.heap m) (N : News g L s.heap ((J, jar a b ta tb n) :: (keep ++ bag))) (hi : DatIn bag v1 (hdat hd1))
    (h1 : wpAny M A (isTrue test env (eval test env)) (fun c s₂ => if c then wpAny M A (eval body env) (fun v s' => JoinP s g L m J keep bag v s') E s₂ else wpAny M A (eval orelse env) (fun v s' => JoinP s g L m J keep bag v s') E s₂) E s)
    (h2 : ∀ v h' tk', Back g L m J keep bag (fun bag' => ∃ h2 ∈ heads, DatIn bag' v (hdat h2)) h' → Q v { s with heap := h', toks := tk' }) : wpAny M A (eval (.IfExp test body orelse pos) env) Q E s := by
  refine wpAny_mono (IfExp_ h1) (fun v s' hv => ?_) fun _ _ x => x
  obtain ⟨h', tk', rfl, hB⟩ := hv
  exact h2 v h' tk' hB
theorem rows82 : True := by
  (k_with "@eval IfExp" => ((k_here; (with_reducible show wpAny _ _ (eval (Expr.IfExp _ (Expr.Name _ _) (Expr.Call _ _ _ _) _) _) _ _ _); k_dflt (refine' join_second ?Fv72w ?Nv72w ?hiv72w ?_ ?_; (case Fv72w => k_asm); (case Nv72w => k_asm); (case hiv72w => assumption); rotate_left; intro v9v72w h9v72w tk9v72w K9v72w; k_dflt (obtain ⟨a9v72w, b9v72w, ta9v72w, tb9v72w, n9v72w, bag9v72w, ok9v72w, F9v72w, N9v72w, sub9v72w, tt9v72w, fr9v72w, hd9v72w, hm9v72w, hi9v72w⟩ := K9v72w); rotate_left))))
  (k_with "@eval ListComp" => ((k_here; (with_reducible show wpAny _ _ (eval (Expr.ListComp _ [⟨_, Expr.Call _ _ _ _, _, _⟩] _ _) _) _ _ _); k_dflt (refine LCg.ListComp_U (F₀ := by k_asm) (by with_unfolding_all rfl) (by decide) (by rfl) (by decide) (by rfl) ?_))))
  trivial
theorem back_true {h₀ h' : Heap} {L J : Addr} {m : Str → Option Value} {keep bag news : Bag} {a b : Int} {ta tb : Tok} {n : Nat} (F : Fr h₀ L h' m) (N : News h₀ L h' news) (hs : ∀ p ∈ (J, jar a b ta tb n) :: (keep ++ bag), p ∈ news) (ok : JarOk a b) (t : Tups bag) :
    Back h₀ L m J keep bag (fun _ => (Value.bool true) = .bool true) h' := ⟨a, b, ta, tb, n, bag, ok, F, News.sub N hs, fun _ h => h, t, Fresh.refl, rfl⟩
theorem neN' {a b : Addr} (h : a ≠ b) : @Ne Nat a b := h
theorem jar_down {h₀ h : Heap} {L : Addr} {d j p2 p1 c3 c2 c1 : Addr × Obj} {rest : Bag} (N : News h₀ L h (d :: j :: p2 :: p1 :: c3 :: c2 :: c1 :: rest)) : News h₀ L h (d :: p2 :: p1 :: c3 :: c2 :: c1 :: j :: rest) := fun p hp => N p (by
  simp only [List.mem_cons] at hp ⊢
  rcases hp with h | h | h | h | h | h | h | h <;> simp [h])
theorem cells_off {J L : Addr} {jo : Obj} {keep bag : Bag} (lt : ∀ p ∈ (J, jo) :: (keep ++ bag), p.1 < L) : (∀ p ∈ keep, p.1 ≠ L + 1) ∧ (∀ p ∈ keep, p.1 ≠ L + 1 + 1) ∧ ∀ p ∈ keep, p.1 ≠ L + 1 + 1 + 1 := by
  have h : ∀ p ∈ keep, @LT.lt Nat _ p.1 L := fun p hp => lt p (.tail _ (List.mem_append_left _ hp))
  refine ⟨fun p hp e => ?_, fun p hp e => ?_, fun p hp e => ?_⟩ <;> (have := h p hp; rw [e] at this; omega)
-- part G1
inductive HdV (bag : Bag) (v : Value) (k : Int) : Prop
  | mk (a : Addr) (x y : Value) (tk : Tok) (n : Nat) (e : v = .ref a) (m : (a, tup [x, y, .int k tk] n) ∈ bag) : HdV bag v k
theorem pair_right {w : World} {mean : ExcName → Option Value} {mg mb : Str → Option Value} {A : Around} {h₀ : Heap} {L J : Addr} {m : Str → Option Value} {s : Shared} {news keep bag : Bag}
    {a b : Int} {ta tb : Tok} {n d : Nat} {Q E : Value → Shared → Prop}
    (Am : Amb w mean mg mb A h₀ L (d + 5)) (F : Fr h₀ L s.heap m)
    (N : News h₀ L s.heap news) (P : Parts news J (jar a b ta tb n) keep bag) (ok : JarOk a b)
    (ret : ∀ (r : Value) h' tk', Back h₀ L m J keep bag (fun bag' => r = .bool true) h' → Q r { s with heap := h', toks := tk' }) :
    wpAny (model Challenge.rw_xm0574_01.prog w) A (call (.ref 73) [.ref J]) Q E s := by
  obtain ⟨A₀, base, env, outer, hA, hf, hke, B⟩ := Am.fr
  obtain ⟨hd8, dp, fr, gd, un⟩ := A
  obtain rfl : hd8 = none := Am.hh
  obtain rfl : fr = some (env :: outer) := hA
  have X := Am.X
  have T := Am.T
  have hdep : dp + (d + 5) < 1000 := Am.depth
  have hun : un + 3 + 64 < cLine := by have := Am.units; show un + 3 + 64 < 9900; dsimp only at this; omega
  have N1 := News.sub N P.sub
  have hoff := P.off
  have htup := P.tups
  refine wpAny_call ?_
  k_dflt walk_at "MyEnterC"
  (rename ∀ p ∈ (_ : Bag), p.1 < (_ : Addr) => lt0)
  obtain ⟨kk1, kk2, kk3⟩ := cells_off lt0
  k_steps
  · refine ⟨_, _, rfl, ?_⟩
    walk_at "MyBack"
    exact ⟨_, by assumption, by walk_at "MyIn"⟩
  · refine ⟨_, _, rfl, ?_⟩
    walk_at "MyBack"
    exact ⟨_, by assumption, by walk_at "MyIn"⟩
  (rename DatIn _ _ (hdat _) => hiB)
  (rename _ ∈ heads => hmB)
  revert hiB
  revert hmB
  (rename DatIn _ _ (hdat _) => hiA)
  (rename _ ∈ heads => hmA)
  intro hmB hiB
  obtain ⟨wB, tB, kB, aB, twB, tkB, vtB, nB, rfl, mB, htB, hmB'⟩ := head_at hiB hmB
  obtain ⟨wA, tA, kA, aA, twA, tkA, vtA, nA, rfl, mA, htA, hmA'⟩ := head_at hiA hmA
  clear hmA hmB
  have hkA : kA ≤ 100 := heads_le _ hmA'
  have hkB : kB ≤ 100 := heads_le _ hmB'
  (rename JarOk _ _ => ok1)
  (rename Tups _ => tj1)
  (rename OffJ J _ => oj1)
  (rename ∀ p ∈ _, p ∈ _ => subAB)
  refine rest_ind (n := 2) (OInv J _ _ kA kB) ?_ ?_ _ 0 [] _ rfl (OInv.start ok1 tj1)
  · intro i ys nw hi hO v I oI C oC D m₂ h2 tk2 E' hP hC hx F2 N2 off ne
    obtain ⟨a1, b1, ta1, tb1, n1, l, bag1, ok1, rfl, tt1, sub1, fr1, hO1⟩ := hO
    have hv : HdV bag1 v ((if i = 0 then kA else kB : Nat) : Int) := by
      have hi2 : i = 0 ∨ i = 1 := by omega
      rcases hi2 with rfl | rfl
      · simp at hP
        exact ⟨_, _, _, _, _, hP.symm, sub1 _ (.tail _ (subAB _ mA))⟩
      · simp at hP
        exact ⟨_, _, _, _, _, hP.symm, sub1 _ (.tail _ mB)⟩
    obtain ⟨av, xv, yv, tkv, nv, rfl, mv⟩ := hv
    have hlen : (if i = 0 then kA else kB) ≤ 100 := by split <;> assumption
    have hJ := off.mem (J, jar a1 b1 ta1 tb1 n1) (.head _)
    have hJ1 : I ≠ J := Ne.symm hJ.1
    have hJ2 : C ≠ J := Ne.symm hJ.2.1
    have hJ3 : D ≠ J := Ne.symm hJ.2.2
    have offl : OffJ J l := hO1.off oj1
    have hcj := hO1.keep _ (.tail _ (.tail _ (.head _)))
    k_steps
    (rename OffJ J _ => oj2)
    refine rest_ind (n := if i = 0 then kA else kB) (LInv J _ _ (· ∈ leafs)) ?_ ?_ _ 0 [] _ (Nat.zero_add _) (LInv.start ok1 tt1)
    · intro i2 ys2 nw2 hi2 hL v2 I2 oI2 C2 oC2 D2 m3 h3 tk3 E3 hP2 hC2 hx2 F3 N3 off2 ne2
      obtain ⟨t2, rfl⟩ := hP2
      obtain ⟨a2, b2, ta2, tb2, n2, bag2, ok2, rfl, tt2, sub2, fr2, ds2, hd2, hl2, hG2⟩ := hL
      have hK := off2.mem (J, jar a2 b2 ta2 tb2 n2) (.head _)
      have hK1 : I2 ≠ J := Ne.symm hK.1
      have hK2 : C2 ≠ J := Ne.symm hK.2.1
      have hK3 : D2 ≠ J := Ne.symm hK.2.2
      k_steps
      (rename Fresh _ _ _ => frN)
      (rename Tups _ => ttN)
      (rename _ ∈ leafs => heN)
      (rename DatIn _ _ _ => hyN)
      (rename ∀ p ∈ _, p ∈ _ => subN)
      exact linv_end (by k_asm) (by k_asm) (by assumption) ttN subN frN off2 sub2 fr2 hd2 hl2 hG2 hyN heN
    · intro ys2 nw2 hL
      unfold LCg.FinE
      intro Dp h4 tk4 F4 N4 o14
      exact oinv_end hi F4 hL N4 o14 off sub1 fr1 hO1 _ (fun nw h => h _ (.head _))
  · intro ys nw hO
    unfold LCg.FinE
    intro Dp h4 tk4 F4 N4 o14
    obtain ⟨a1, b1, ta1, tb1, n1, l, bag1, ok1, rfl, tt1, sub1, fr1, hO1⟩ := hO
    cases hO1 with | @two p1 p2 o1 o2 hL1 hJ1 hA1 hL2 hJ2 hA2 =>
    obtain ⟨ps1, c1, ds1, rfl, hd1, hn1, hG1⟩ := hL1
    obtain ⟨ps2, c2, ds2, rfl, hd2, hn2, hG2⟩ := hL2
    simp only [List.cons_append] at N4
    simp only [LCg.Off1, List.cons_append] at o14
    simp only [Apart, List.forall_mem_cons] at hA1 hA2
    obtain ⟨qa1, qa2, qa3, qa4⟩ := hA1
    obtain ⟨qb1, qb2, qb3, qb4⟩ := hA2
    have ra1 := neN' qa1
    have ra2 := neN' qa2
    have ra3 := neN' qa3
    have rb1 := neN' qb1
    have rb2 := neN' qb2
    have rb3 := neN' qb3
    obtain ⟨qc1, qc2, qc3, qc4, qc5, qc6, qc7⟩ := o14
    have N5 := jar_down N4
    clear N4
    have iA := DatIn.mono (fun p hp => sub1 p (.tail _ (subAB p hp))) (head_in mA htA)
    have iB := DatIn.mono (fun p hp => sub1 p (.tail _ hp)) (head_in mB htB)
    have sub1' := (List.forall_mem_cons.mp sub1).2
    have lpa : ps1.length = kA := by rw [hd1.length, hn1]
    have lpb : ps2.length = kB := by rw [hd2.length, hn2]
    have mA2 := sub1 _ (.tail _ (subAB _ mA))
    have mB2 := sub1 _ (.tail _ mB)
    clear mA mB
    obtain ⟨eA, mdA⟩ := made_ex hmA' hn1
    obtain ⟨eB, mdB⟩ := made_ex hmB' hn2
    have lA : ps1.length ≤ 100 := by rw [hd1.length, hn1]; exact hkA
    have lB : ps2.length ≤ 100 := by rw [hd2.length, hn2]; exact hkB
    have oA := okD_head _ hmA'
    have oB := okD_head _ hmB'
    have okp1 := okD_pairs (okD_leafs hG1) (okD_leafs hG2)
    have okp2 := okD_pairs (okD_leafs hG2) (okD_leafs hG1)
    by_cases hAB : ((wA, tA, kA) : Hd) = (wB, tB, kB)
    · obtain ⟨rfl, hAB2⟩ := Prod.mk.inj hAB
      obtain ⟨rfl, rfl⟩ := Prod.mk.inj hAB2
      have hal : Alike wA tA ds1 wA tA ds2 := ⟨rfl, rfl, hn1.trans hn2.symm⟩
      have hal2 : Alike wA tA ds2 wA tA ds1 := ⟨rfl, rfl, hn2.trans hn1.symm⟩
      iterate 70 (first | (k_unfold; (try dsimp only)) | walk1 | (dsimp only; walk1) | skip)
      refine rest_ind (n := kA) (TInv J _ _ ((ds1.zip ds2).map pairD)) ?_ ?_ _ 0 [] _ (Nat.zero_add _) (TInv.start (by assumption) (by assumption))
      · intro i ys2 nw2 hi2 hT v2 I2 oI2 C2 oC2 D2 m3 h3 tk3 E3 hP2 hC2 hx2 F3 N3 off2 ne2
        obtain ⟨t2, rfl⟩ := hP2
        obtain ⟨a2, b2, ta2, tb2, n2, bag2, ok2, rfl, tt2, sub2, fr2, hdT⟩ := hT
        have hd1' : DatAll bag2 ps1 ds1 := hd1.mono (by walk_at "MyChain")
        have hd2' : DatAll bag2 ps2 ds2 := hd2.mono (by walk_at "MyChain")
        k_steps
        (rename ps2[_]? = some _ => hvb)
        (rename ps1[_]? = some _ => hva)
        obtain ⟨da, ea, ia⟩ := dat_at hd1' hva
        obtain ⟨db, eb, ib⟩ := dat_at hd2' hvb
        have et : ((0 : Int) + (i : Int)).toNat = i := by omega
        rw [et] at ea eb
        exact tinv_pair (by k_asm) (by k_asm) (by assumption) ok2 tt2 off2 sub2 fr2 hdT ia ib (zip_at ea eb) (fun _ _ => trivial)
      · intro ys2 nw2 hT
        unfold LCg.FinE
        intro DT hT4 tkT FT NT oT
        obtain ⟨aT, bT, taT, tbT, nT, bagT, okT, rfl, ttT, subT, frT, hdT⟩ := hT
        rw [List.take_of_length_le (by simp; omega)] at hdT
        have hlT : ys2.length ≤ 100 := by
          have := hdT.length
          simp at this
          omega
        have hlK : ys2.length = kA := by
          have := hdT.length
          simp at this
          omega
        have hDT : DT ≠ J := Ne.symm oT.1
        iterate 41 (first | (k_unfold; (try dsimp only)) | walk1 | (dsimp only; walk1) | skip)
        refine rest_indP (n := ys2.length) (TInv J _ _ ((ds2.zip ds1).map pairD)) ?_ ?_ _ 0 [] _ (Nat.zero_add _) (TInv.start (by assumption) (by assumption))
        · intro i zs nw3 hi hU v hPv
          obtain ⟨a3, b3, ta3, tb3, n3, bag3, ok3, rfl, tt3, sub3, fr3, hd3⟩ := hU
          have hdT' := hdT.mono (app_sub (app_sub sub3))
          obtain ⟨t, v1, v2, nt, p, rfl, hm, hp, hi1, hi2⟩ := pair_at hdT' hPv
          refine ⟨t, v1, v2, nt, rfl, .tail _ (List.mem_append_right _ hm), ?_⟩
          intro I3 oI3 C3 oC3 D3 m3 h3 tk3 E3 hC3 hx3 hy3 F3 N3 off3 ne3
          k_steps
          exact tinv_pair (by k_asm) (by k_asm) (by assumption) ok3 tt3 off3 sub3 fr3 hd3 hi2 hi1 (zip_swap hp) (srcAt_of (n := ys2.length) (by walk_at "MyMem"))
        · intro zs nw3 hU
          unfold LCg.FinE
          intro DU hU4 tkU FU NU oU
          obtain ⟨aU, bU, taU, tbU, nU, bagU, okU, rfl, ttU, subU, frU, hdU⟩ := hU
          rw [List.take_of_length_le (by simp; omega)] at hdU
          have subU' := app_sub (app_sub subU)
          k_steps
          refine' ret _ _ _ (back_true ?F9 ?N9 ?s9 ?ok9 htup)
          (case F9 => k_asm)
          (case N9 => k_asm)
          (case s9 => walk_at "MyChain")
          (case ok9 => assumption)
    · have hal : ¬ Alike wA tA ds1 wB tB ds2 := fun q => hAB (by rw [q.1, q.2.1, ← hn1, ← hn2, q.2.2])
      have hal2 : ¬ Alike wB tB ds2 wA tA ds1 := fun q => hAB (by rw [← q.1, ← q.2.1, ← hn1, ← hn2, q.2.2])
      have nAB := eqv_head _ hmA' _ hmB' hAB
      k_steps
      refine' ret _ _ _ (back_true ?F9 ?N9 ?s9 ?ok9 htup)
      (case F9 => k_asm)
      (case N9 => k_asm)
      (case s9 => walk_at "MyChain")
      (case ok9 => assumption)
-- part H1
def Fok (kvs : List (Str × Value)) (f : Str → Option Dat) (bag : Bag) : Prop := ∀ x, (valueAt kvs x = none ∧ f x = none) ∨ ∃ v d, valueAt kvs x = some v ∧ f x = some d ∧ DatIn bag v d ∧ okD 3 d = true
theorem Fok.mono {kvs : List (Str × Value)} {f : Str → Option Dat} {b1 b2 : Bag} (s : ∀ p ∈ b1, p ∈ b2) (h : Fok kvs f b1) : Fok kvs f b2 := fun x => by
  rcases h x with h | ⟨v, d, a, b, c, e⟩
  · exact .inl h
  · exact .inr ⟨v, d, a, b, c.mono s, e⟩
inductive TypeR (f : Str → Option Dat) (n : Nat) (r : Value) (bag' : Bag) : Prop
  | mk (d e : Dat) (i : DatIn bag' r (.tuple [d, e])) (fl : Fill f n d e) (o : okD (2 * n + 3) e = true) : TypeR f n r bag'
def TypeAt (w : World) (mean : ExcName → Option Value) (mg mb : Str → Option Value) (J fd : Addr) (fo : Obj) (kvs : List (Str × Value)) (f : Str → Option Dat) (n : Nat) : Prop :=
    ∀ {A : Around} {h₀ : Heap} {L : Addr} {m : Str → Option Value} {s : Shared} {news keep bag : Bag} {d : Nat} {a b : Int} {ta tb tn : Tok} {nj : Nat} {k : Int} {Q E : Value → Shared → Prop},
    Amb w mean mg mb A h₀ L (d + n + 5) → Fr h₀ L s.heap m → News h₀ L s.heap news → Parts news J (jar a b ta tb nj) keep bag → JarOk a b → (fd, fo) ∈ keep → fo.IsDictOf (strKind Challenge.rw_xm0574_01.prog w) kvs → (fd == sysModules) = false → Fok kvs f bag → k = (n : Int) →
    (∀ r h' tk', Back h₀ L m J keep bag (TypeR f n r) h' → Q r { s with heap := h', toks := tk' }) →
    wpAny (model Challenge.rw_xm0574_01.prog w) A (call (.ref 78) [.ref J, .int k tn, .ref fd]) Q E s
theorem TypeAt.use {w : World} {mean : ExcName → Option Value} {mg mb : Str → Option Value} {J fd : Addr} {fo : Obj} {kvs : List (Str × Value)} {f : Str → Option Dat} {n : Nat} (H : TypeAt w mean mg mb J fd fo kvs f n)
    {A : Around} {h₀ : Heap} {L : Addr} {m : Str → Option Value} {s : Shared} {news keep bag : Bag} {d : Nat} {a b : Int} {ta tb tn : Tok} {nj : Nat} {k : Int} {Q E : Value → Shared → Prop}
    (Am : Amb w mean mg mb A h₀ L (d + n + 5)) (F : Fr h₀ L s.heap m) (N : News h₀ L s.heap news) (P : Parts news J (jar a b ta tb nj) keep bag) (ok : JarOk a b) (hm : (fd, fo) ∈ keep) (hd : fo.IsDictOf (strKind Challenge.rw_xm0574_01.prog w) kvs) (lo : (fd == sysModules) = false) (fk : Fok kvs f bag) (hk : k = (n : Int))
    (ret : ∀ r h' tk', Back h₀ L m J keep bag (TypeR f n r) h' → Q r { s with heap := h', toks := tk' }) :
    wpAny (model Challenge.rw_xm0574_01.prog w) A (call (.ref 78) [.ref J, .int k tn, .ref fd]) Q E s := H Am F N P ok hm hd lo fk hk ret
theorem rows89 : True := by
  (k_with "@call ref" => ((k_here; (with_reducible show wpAny _ _ (call (Value.ref 78) _) _ _ _); k_dflt (refine' TypeAt.use ?Hv83w ?amv83w ?Fv83w ?Nv83w ?Pv83w ?okv83w ?hmv83w ?dv83w ?lov83w ?fkv83w ?hkv83w ?_; (case Hv83w => assumption); (case amv83w => assumption); (case Fv83w => k_asm); (case Nv83w => k_asm); (case Pv83w => walk_at "MyParts"); (case okv83w => assumption); (case hmv83w => walk_at "MyMem"); (case dv83w => assumption); (case lov83w => assumption); (case fkv83w => (refine' Fok.mono ?s9v83w ?a9v83w; (case a9v83w => with_reducible assumption); (case s9v83w => walk_at "MyChain"))); (case hkv83w => omega)); intro r9v83w h9v83w tk9v83w K9v83w; k_dflt (obtain ⟨a9v83w, b9v83w, ta9v83w, tb9v83w, n9v83w, bag9v83w, ok9v83w, F9v83w, N9v83w, sub9v83w, tt9v83w, fr9v83w, dd9v83w, de9v83w, hi9v83w, hf9v83w, ho9v83w⟩ := K9v83w); (try k_sweep))))
  trivial
section
variable {prog : Program} {w : World} {A : Around} {E : Value → Shared → Prop} {s : Shared} {h₀ : Heap} {L d : Addr} {news : Bag} {o : Obj} {kvs : List (Str × Value)} {x : Str} {t : Tok} {v dflt : Value}
theorem found_no {Q : Value → Shared → Prop} (N : News h₀ L s.heap news) (hp : (d, o) ∈ news) (hd : o.IsDictOf (strKind prog w) kvs) (lo : (d == sysModules) = false) (hx : valueAt kvs x = none) (h : Q (.bool false) { s with toks := s.toks + 1 }) :
    wpAny (model prog w) A (compareOp .In (.str x t) (.ref d)) Q E s := found_in N hp hd lo (by rw [hx]; exact h)
theorem found_yes {Q : Value → Shared → Prop} (N : News h₀ L s.heap news) (hp : (d, o) ∈ news) (hd : o.IsDictOf (strKind prog w) kvs) (lo : (d == sysModules) = false) (hx : valueAt kvs x = some v) (h : Q (.bool true) { s with toks := s.toks + 1 }) :
    wpAny (model prog w) A (compareOp .In (.str x t) (.ref d)) Q E s := found_in N hp hd lo (by rw [hx]; exact h)
end
theorem rows90 : True := by
  (k_with "@compareOp In" => ((k_here; (with_reducible show wpAny _ _ (compareOp CmpOp.In (Value.str _ _) (Value.ref _)) _ _ _); k_dflt (first
  | (refine' found_no ?Nv84w ?mv84w ?dv84w ?lov84w ?xv84w ?_; (case Nv84w => k_asm); (case mv84w => walk_at "MyMem"); (case dv84w => assumption); (case lov84w => assumption); (case xv84w => assumption); k_whole)
  | (refine' found_yes ?Nv84w ?mv84w ?dv84w ?lov84w ?xv84w ?_; (case Nv84w => k_asm); (case mv84w => walk_at "MyMem"); (case dv84w => assumption); (case lov84w => assumption); (case xv84w => assumption); k_whole)))))
  (k_with "@subscriptTail Name" => ((k_here; (with_reducible show wpAny _ _ (subscriptTail _ _ (Value.ref _) (Value.str _ _)) _ _ _); k_dflt (refine' found_item ?Nv85w ?mv85w ?dv85w ?xv85w ?_ ?hsv85w ?hgv85w; (case Nv85w => k_asm); (case mv85w => walk_at "MyMem"); (case dv85w => assumption); (case xv85w => assumption); (case hsv85w => with_unfolding_all rfl); (case hgv85w => (intro _; with_unfolding_all rfl)); k_whole))))
  (k_with "MyIn" => (first | exact DatIn.none | exact DatIn.int _ _ | exact DatIn.str _ _ | exact DatIn.bool _ | with_reducible assumption | (refine' DatIn.mono ?s9v86w ?a9v86w; (case a9v86w => with_reducible assumption); (case s9v86w => walk_at "MyChain")) | (refine' DatIn.tuple ?m9v86w ?d9v86w; (case m9v86w => walk_at "MyMemC"); (case d9v86w => walk_at "MyAll"))))
  (k_with "MyAll" => (first | with_reducible assumption | exact DatAll.nil | (refine' DatAll.mono ?s9v87w ?a9v87w; (case a9v87w => with_reducible assumption); (case s9v87w => walk_at "MyChain")) | (apply DatAll.cons; (focus (walk_at "MyIn"; done)); (focus (walk_at "MyAll"; done)))))
  (k_with "MyFresh" => (first | exact Fresh.refl | with_reducible assumption | (refine' Fresh.cons ?h9v88w ?l9v88w; (case l9v88w => (refine' above_of ?u9v88w ?v9v88w; (case u9v88w => assumption); (case v9v88w => walk_at "MyChain"))); (case h9v88w => walk_at "MyFresh")) | (refine' Fresh.trans ?h9v88w ?k9v88w ?s9v88w; (case k9v88w => with_reducible assumption); (case s9v88w => walk_at "MyChain"); (case h9v88w => walk_at "MyFresh"))))
  trivial
theorem okD_up {k : Nat} {d : Dat} (h : okD k d = true) : okD (k + 1) d = true := by
  have all : ∀ (k : Nat) (d : Dat), okD k d = true → okD (k + 1) d = true := by
    intro k
    induction k with
    | zero => intro d h; cases d <;> simp_all [okD]
    | succ k ih =>
      intro d h
      cases d with
      | tuple ds =>
        simp only [okD, List.all_eq_true] at h ⊢
        exact fun x hx => ih x (h x hx)
      | list ds =>
        simp only [okD, List.all_eq_true] at h ⊢
        exact fun x hx => ih x (h x hx)
      | _ => simp_all [okD]
  exact all k d h
theorem okD_le {a b : Nat} {d : Dat} (h : okD a d = true) (hab : a ≤ b) : okD b d = true := by
  obtain ⟨k, rfl⟩ := Nat.exists_eq_add_of_le hab
  induction k with
  | zero => exact h
  | succ k ih => exact okD_up (ih (by omega))
theorem okD_s {x : Str} {k : Nat} (h : PyData.strOk x = true) : okD k (.str x) = true := okD_le (a := 0) (by simpa [okD] using h) (by omega)
theorem okD_param {x : Str} {k : Nat} (h : PyData.strOk x = true) : okD (k + 1) (paramD x) = true := by
  simp only [paramD, okD, List.all_cons, List.all_nil, okD_s h, okD_s (x := "param") (k := k) (by decide +kernel), Bool.and_self]
theorem fill_no {f : Str → Option Dat} {n : Nat} {x : Str} (h : f x = none) : Fill f n (paramD x) (paramD x) := by
  have q := Fill.name (f := f) (n := n) (x := x)
  rw [h] at q
  exact q
theorem fill_yes {f : Str → Option Dat} {n : Nat} {x : Str} {d : Dat} (h : f x = some d) : Fill f n (paramD x) d := by
  have q := Fill.name (f := f) (n := n) (x := x)
  rw [h] at q
  exact q
inductive NameIs (r : Value) : Prop
  | no (e : r = .none) : NameIs r
  | name (x : Str) (t : Tok) (e : r = .str x t) (o : PyData.strOk x = true) : NameIs r
theorem name_pick {i : Nat} {r : Value} {t1 t2 t3 : Tok} (h : [Value.str "T" t1, .str "U" t2, .str "V" t3, .none][i]? = some r) : NameIs r := by
  have hr := List.mem_of_getElem? h
  simp only [List.mem_cons, List.not_mem_nil, or_false] at hr
  rcases hr with rfl | rfl | rfl | rfl
  · exact .name _ _ rfl (by decide +kernel)
  · exact .name _ _ rfl (by decide +kernel)
  · exact .name _ _ rfl (by decide +kernel)
  · exact .no rfl
def tolds : List Dat := [.tuple [.str "int", .str "u8"], .tuple [.str "never"], .tuple [.str "var", .int 2], .tuple [.str "intvar", .int 0]]
theorem told_fill {f : Str → Option Dat} {n : Nat} : ∀ d ∈ tolds, Fill f n d d ∧ okD 3 d = true := by
  intro d h
  simp only [tolds, List.mem_cons, List.not_mem_nil, or_false] at h
  rcases h with rfl | rfl | rfl | rfl <;> exact ⟨Fill.same (by unfold plainWord; decide +kernel), by decide +kernel⟩
theorem typeR_told {f : Str → Option Dat} {n i : Nat} {bag : Bag} {vs : List Value} {v r : Value} (hi : vs[i]? = some v) (h : DatAll bag vs tolds) (k : ∀ d, DatIn bag v d → DatIn bag r (.tuple [d, d])) : TypeR f n r bag := by
  obtain ⟨d, hd, id⟩ := pick_dat h hi
  exact ⟨d, d, k d id, (told_fill (f := f) (n := n) d hd).1, okD_le (told_fill (f := f) (n := n) d hd).2 (by omega)⟩
theorem law_type0 {w : World} {mean : ExcName → Option Value} {mg mb : Str → Option Value} {J fd : Addr} {fo : Obj} {kvs : List (Str × Value)} {f : Str → Option Dat} : TypeAt w mean mg mb J fd fo kvs f 0 := by
  intro A h₀ L m s news keep bag d a b ta tb tn nj k Q E Am F N P ok fmem fdict flo fok hk ret
  obtain ⟨A₀, base, env, outer, hA, hf, hke, B⟩ := Am.fr
  obtain ⟨hd8, dp, fr, gd, un⟩ := A
  obtain rfl : hd8 = none := Am.hh
  obtain rfl : fr = some (env :: outer) := hA
  subst hk
  have X := Am.X
  have T := Am.T
  have hdep : dp + (d + 0 + 5) < 1000 := Am.depth
  have N1 := News.sub N P.sub
  have hoff := P.off
  have htup := P.tups
  refine wpAny_call ?_
  k_dflt walk_at "MyEnterC"
  (rename ∀ p ∈ (_ : Bag), p.1 < (_ : Addr) => lt0)
  obtain ⟨kk1, kk2, kk3⟩ := cells_off lt0
  k_steps
  (rename _ = some _ => hi)
  rcases name_pick hi with e | ⟨x, tx, e, ox⟩ <;> subst e <;> clear hi
  · k_steps
    (rename _ = some _ => hi)
    refine ret _ _ _ ?_
    walk_at "MyBack"
    exact typeR_told hi (by walk_at "MyAll") fun d9 id9 => by walk_at "MyIn"
  · rcases fok x with ⟨h1, h2⟩ | ⟨v, dv, h1, h2, h3, h4⟩
    · k_steps
      refine ret _ _ _ ?_
      walk_at "MyBack"
      exact ⟨paramD x, paramD x, by walk_at "MyIn", fill_no h2, okD_param ox⟩
    · k_steps
      refine ret _ _ _ ?_
      walk_at "MyBack"
      exact ⟨paramD x, dv, by walk_at "MyIn", fill_yes h2, okD_le h4 (by omega)⟩
-- part H2a
section
variable {prog : Program} {w : World} {A : Around} {E : Value → Shared → Prop} {s : Shared} {h₀ : Heap} {L : Addr} {m : Str → Option Value} {news : Bag}
theorem sliceTo3 {sl : Addr} {u : Tok} {Q : Int × Int × Nat → Shared → Prop} (hs : s.heap.IsSliceOf sl .none (.int 3 u) .none) (h : Q (0, 1, 3) s) :
    wpAny (model prog w) A (Builtin.Slice.sliceApplied (.ref sl) (pure 4)) Q E s := by
  obtain ⟨os, hos, hcs, hds⟩ := id hs
  unfold Builtin.Slice.sliceApplied Builtin.Slice.sliceFields
  refine wpAny_bind (wpAny_bind (wpAny_field hos hds (x := .none) rfl (wpAny_bind (wpAny_field hos hds (x := .int 3 u) rfl (wpAny_bind (wpAny_field hos hds (x := .none) rfl (wpAny_pure ?_)))))))
  refine wpAny_bind (slicePart_none ?_)
  show wpAny _ _ (if ((1 : Int) == 0) = true then _ else _) _ _ s
  rw [if_neg (by decide)]
  refine wpAny_bind (slicePart_none (wpAny_bind (slicePart_int (wpAny_bind (wpAny_pure ?_)))))
  exact wpAny_pure h
theorem getItem_t3 {t sl : Addr} {x0 x1 x2 x3 : Value} {u : Tok} {Q : Value → Shared → Prop} (ht : IsTup s.heap t #[x0, x1, x2, x3]) (hs : s.heap.IsSliceOf sl .none (.int 3 u) .none)
    (h : Q (.ref s.heap.objs.size) { s with heap := s.heap.push { cls := .type "tuple", data := .seq #[x0, x1, x2] } }) : wpAny (model prog w) A (getItem (.ref t) (.ref sl)) Q E s := by
  have hdrop : sizeOk (.seq #[x0, x1, x2]) := by
    show 3 ≤ sizeLine
    rw [sizeLine_eq]; omega
  obtain ⟨os, hos, hcs, hds⟩ := id hs
  have hTs : s.TypeIs (.ref sl) "slice" := ⟨os, hos, hcs⟩
  unfold getItem
  try with_reducible refine wpAny_holding ?_
  first | refine wpAny_bind (wpAny_pure ?_) | skip
  refine wpAny_bind (wpAny_sequenceKey ht.typeIs (by decide) ?_)
  refine wpAny_bind (wpAny_callSpecial?_slot (name := Str.ofString "__getitem__") ht.typeIs slot_tuple_getitem
    (wpAny_call_entry slot_tuple_getitem ht.typeIs entry_tuple_getitem ?_ (args_tuple_getitem _ _)))
  show wpAny _ _ (Builtin.Tuple.tupleItemsOf (.ref t) >>= _) _ _ s
  refine wpAny_bind (tupleItemsOf_ ht ?_)
  refine wpAny_bind (wpAny_typeOf hTs ?_)
  rw [if_pos (by decide)]
  refine wpAny_bind (sliceTo3 hs ?_)
  show wpAny _ _ (if (false : Bool) = true then _ else _) _ _ s
  rw [if_neg (by decide)]
  first
    | exact wpAny_bind (m := Builtin.Tuple.tupleExact _) (wpAny_newObj_type (wpAny_pure ⟨_, rfl, wpAny_pure h⟩) hdrop)
    | exact wpAny_bind (m := Builtin.Tuple.tupleExact _) (wpAny_newObj_type (wpAny_bind (wpAny_pure (wpAny_pure ⟨_, rfl, wpAny_pure h⟩))) hdrop)
    | exact wpAny_bind (wpAny_bind (m := Builtin.Tuple.tupleExact _) (wpAny_newObj_type (wpAny_pure (wpAny_pure ⟨_, rfl, wpAny_pure h⟩)) hdrop))
    | exact wpAny_bind (wpAny_bind (m := Builtin.Tuple.tupleExact _) (wpAny_newObj_type (wpAny_pure ⟨_, rfl, wpAny_pure h⟩) hdrop))
theorem slice_t3 {value slice : Expr} {t : Addr} {x0 x1 x2 x3 : Value} {nt : Nat} {u : Tok} {Q : Value → Shared → Prop} (F : Fr h₀ L s.heap m) (N : News h₀ L s.heap news) (hm : (t, tup [x0, x1, x2, x3] nt) ∈ news)
    (h : ∀ D h', Fr h₀ L h' m → News h₀ L h' ((D, tup [x0, x1, x2] 0) :: news) → (∀ p ∈ news, p.1 < D) → Q (.ref D) { s with heap := h' })
    (hs : subscripted slice false (.ref t) (.ref s.heap.objs.size) = operate [.ref s.heap.objs.size, .ref t] (getItem (.ref t) (.ref s.heap.objs.size)))
    (hg : ∀ r, letTemporaryGo value (.ref t) r = pure ()) :
    wpAny (model prog w) A (subscriptTail value slice (.ref t) (.ref s.heap.objs.size)) Q E { s with heap := s.heap.push { cls := .type "slice", data := .fields #[.none, .int 3 u, .none] } } := by
  have ht : IsTup s.heap t #[x0, x1, x2, x3] := News.isTup N hm
  have ht' : IsTup (s.heap.push { cls := .type "slice", data := .fields #[.none, .int 3 u, .none] }) t #[x0, x1, x2, x3] := ht.keeps fun _ _ e => Heap.get?_push_of_some _ e
  refine subscriptTail_ops (s := { s with heap := s.heap.push { cls := .type "slice", data := .fields #[.none, .int 3 u, .none] } }) ht'.typeIs slot_tuple_getitem.lookup
    (getItem_t3 ht' (Heap.IsSliceOf.new ..) ?_) hs hg
  have F1 := F.push { cls := .type "slice", data := .fields #[.none, .int 3 u, .none] }
  have N0 := N.grown (h' := s.heap.push { cls := .type "slice", data := .fields #[.none, .int 3 u, .none] }) fun _ _ e => Heap.get?_push_of_some _ e
  exact h _ _ (F1.push _) (News.push F1 N0 { cls := .type "tuple", data := .seq #[x0, x1, x2] }) fun p hp => Heap.lt_size (N0 p hp).1
end
theorem rows96 : True := by
  (k_with "@subscriptTail Name Slice ref ref" => ((k_here; (with_reducible show wpAny _ _ (subscriptTail _ (PySem.Expr.Slice _ _ none _) (Value.ref _) (Value.ref _)) _ _ _); k_dflt (refine' slice_t3 ?Fv91w ?Nv91w ?mv91w ?_ ?hsv91w ?hgv91w; (case Fv91w => k_asm); (case Nv91w => k_asm); (case mv91w => walk_at "MyMemC"); (case hsv91w => with_unfolding_all rfl); (case hgv91w => kmk_pure)); intro D9v91w h9v91w F9v91w N9v91w l9v91w; (try k_sweep))))
  trivial
section
variable {prog : Program} {w : World} {A : Around} {E : Value → Shared → Prop} {s : Shared} {h₀ : Heap} {L t b : Addr} {m : Str → Option Value} {news : Bag} {x y : Value} {xs ys : List Value} {n1 n2 : Nat}
theorem add_tt {Q : Value → Shared → Prop} (F : Fr h₀ L s.heap m) (N : News h₀ L s.heap news) (m1 : (t, tup (x :: xs) n1) ∈ news) (m2 : (b, tup (y :: ys) n2) ∈ news) (hz : (x :: xs).length + (y :: ys).length ≤ 16384)
    (h : ∀ D h', Fr h₀ L h' m → News h₀ L h' ((D, tup ((x :: xs) ++ (y :: ys)) 0) :: news) → (∀ p ∈ news, p.1 < D) → Q (.ref D) { s with heap := h' }) : wpAny (model prog w) A (binaryOp .Add (.ref t) (.ref b)) Q E s :=
  kde_addT F N (News.isTup N m1) (News.isTup N m2) (List.cons_ne_nil _ _) (List.cons_ne_nil _ _) hz rfl h
end
theorem rows97 : True := by
  (k_with "@binaryOp Add ref ref" => ((k_here; (with_reducible show wpAny _ _ (binaryOp Operator.Add (Value.ref _) (Value.ref _)) _ _ _); k_dflt (refine' add_tt ?Fv92w ?Nv92w ?av92w ?bv92w ?zv92w ?_; (case Fv92w => k_asm); (case Nv92w => k_asm); (case av92w => walk_at "MyMemC"); (case bv92w => walk_at "MyMemC"); (case zv92w => exact Nat.le_of_ble_eq_true rfl)); (simp only [List.cons_append, List.nil_append]); intro D9v92w h9v92w F9v92w N9v92w l9v92w; (try k_sweep))))
  (k_with "MyParts" => ((refine' Parts.base ?o9v93w ?t9v93w; (case o9v93w => walk_at "MyOff"); (case t9v93w => walk_at "MyTups"))))
  (k_with "@subscriptTail Name Constant ref int" => ((k_here; (with_reducible show wpAny _ _ (subscriptTail _ _ (Value.ref _) (Value.int _ _)) _ _ _); k_dflt (refine' item_tupleT ?tv94w ?av94w ?bv94w ?cv94w ?dv94w ?_ ?hsv94w; (case tv94w => exact News.isTup (by k_asm) (by walk_at "MyMemC")); (case av94w => decide); (case bv94w => decide); (case cv94w => rfl); (case dv94w => rfl); (case hsv94w => with_unfolding_all rfl); k_whole))))
  (k_with "@subscriptTail Name Constant ref int" => ((k_here; (with_reducible show wpAny _ _ (subscriptTail _ _ (Value.ref _) (Value.int _ _)) _ _ _); k_dflt (refine' item_list ?Nv95w ?mv95w ?av95w ?bv95w ?vv95w ?_ ?hsv95w; (case Nv95w => k_asm); (case mv95w => walk_at "MyMem"); (case av95w => omega); (case bv95w => omega); (case vv95w => omega); (case hsv95w => with_unfolding_all rfl)); intro v9v95w hv9v95w)))
  trivial
-- part H2
def heads6 : List Hd := [("tuple", .none, 0), ("tuple", .none, 2), ("ref", .bool true, 1), ("box", .none, 1), ("array", .int 5, 1), ("adt", .str "m::S", 2)]
theorem heads6_le : ∀ h ∈ heads6, h.2.2 ≤ 100 := by decide +kernel
theorem pick_hds {bag : Bag} {vs : List Value} {hs : List Hd} {i : Nat} {r : Value} (hi : vs[i]? = some r) (h : DatAll bag vs (hs.map hdat)) : HeadAt bag r hs := by
  obtain ⟨d, hd, hr⟩ := pick_dat h hi
  obtain ⟨x, hx, rfl⟩ := List.mem_map.mp hd
  exact head_at hr hx
theorem made_ex6 {w : Str} {t : Dat} {k : Nat} {ds : List Dat} (h : (w, t, k) ∈ heads6) (hl : ds.length = k) : ∃ e, Made w t ds e := by
  simp only [heads6, List.mem_cons, List.not_mem_nil, or_false, Prod.mk.injEq] at h
  rcases h with ⟨rfl, rfl, rfl⟩ | ⟨rfl, rfl, rfl⟩ | ⟨rfl, rfl, rfl⟩ | ⟨rfl, rfl, rfl⟩ | ⟨rfl, rfl, rfl⟩ | ⟨rfl, rfl, rfl⟩
  · exact ⟨_, _, .tuple⟩
  · exact ⟨_, _, .tuple⟩
  · obtain ⟨d, rfl⟩ := List.length_eq_one_iff.mp hl
    exact ⟨_, _, .ref List.mem_cons_self⟩
  · obtain ⟨d, rfl⟩ := List.length_eq_one_iff.mp hl
    exact ⟨_, _, .box⟩
  · obtain ⟨d, rfl⟩ := List.length_eq_one_iff.mp hl
    exact ⟨_, _, .array⟩
  · exact ⟨_, _, .adt List.mem_cons_self⟩
theorem pick6 {h₀ h : Heap} {L J : Addr} {jo : Obj} {keep bag : Bag} {r : Value} (N : News h₀ L h ((J, jo) :: (keep ++ bag))) (x : HeadAt bag r heads6) : HeadAt bag r heads6 := x
inductive At4 (bag : Bag) (v : Value) (d0 d1 d2 d3 : Dat) : Prop
  | mk (a : Addr) (x0 x1 x2 x3 : Value) (n : Nat) (e : v = .ref a) (m : (a, tup [x0, x1, x2, x3] n) ∈ bag) (i0 : DatIn bag x0 d0) (i1 : DatIn bag x1 d1) (i2 : DatIn bag x2 d2) (i3 : DatIn bag x3 d3) : At4 bag v d0 d1 d2 d3
theorem at_4 {bag : Bag} {v : Value} {d0 d1 d2 d3 : Dat} (h : DatIn bag v (.tuple [d0, d1, d2, d3])) : At4 bag v d0 d1 d2 d3 := by
  obtain ⟨a, vs, n, rfl, hm, hr⟩ := in_tup h
  obtain ⟨x0, xs, rfl, h0, hr⟩ := all_c hr
  obtain ⟨x1, xs, rfl, h1, hr⟩ := all_c hr
  obtain ⟨x2, xs, rfl, h2, hr⟩ := all_c hr
  obtain ⟨x3, xs, rfl, h3, hr⟩ := all_c hr
  obtain rfl := all_n hr
  exact ⟨_, _, _, _, _, _, rfl, hm, h0, h1, h2, h3⟩
def Pr (f : Str → Option Dat) (n : Nat) (p : Dat × Dat) : Prop := Fill f n p.1 p.2 ∧ okD (2 * n + 3) p.2 = true
theorem pairs_of {f : Str → Option Dat} {n : Nat} : ∀ {ds : List Dat}, (∀ d ∈ ds, ∃ p, d = pairD p ∧ Pr f n p) → ∃ ps : List (Dat × Dat), ds = ps.map pairD ∧ ∀ p ∈ ps, Pr f n p
  | [], _ => ⟨[], rfl, fun _ h => nomatch h⟩
  | d :: ds, h => by
    obtain ⟨p, rfl, hp⟩ := h d (.head _)
    obtain ⟨ps, rfl, hps⟩ := pairs_of (ds := ds) fun e he => h e (.tail _ he)
    exact ⟨p :: ps, rfl, fun q hq => by
      rcases List.mem_cons.mp hq with rfl | hq
      · exact hp
      · exact hps q hq⟩
theorem fill_all {f : Str → Option Dat} {n : Nat} : ∀ {ps : List (Dat × Dat)}, (∀ p ∈ ps, Pr f n p) → FillAll f n (ps.map Prod.fst) (ps.map Prod.snd)
  | [], _ => .nil
  | p :: ps, h => .cons (h p (.head _)).1 (fill_all fun q hq => h q (.tail _ hq))
theorem okD_pts {f : Str → Option Dat} {n : Nat} {ps : List (Dat × Dat)} (h : ∀ p ∈ ps, Pr f n p) : okD (2 * n + 4) (.tuple (ps.map Prod.snd)) = true := by
  simp only [okD, List.all_eq_true, List.mem_map]
  rintro d ⟨p, hp, rfl⟩
  exact (h p hp).2
theorem okD_all2 {n : Nat} {ds : List Dat} (h : ds.all (okD (2 * n + 4)) = true) : okD (2 * (n + 1) + 3) (.tuple ds) = true := by
  have e : 2 * (n + 1) + 3 = 2 * n + 4 + 1 := by omega
  rw [e]
  exact h
theorem okD_gs {g : Dat} {k : Nat} (h : g ∈ [Dat.none, .str "'a", .int 4]) : okD k g = true := by
  simp only [List.mem_cons, List.not_mem_nil, or_false] at h
  rcases h with rfl | rfl | rfl <;> (refine okD_le (a := 0) (by decide +kernel) (by omega))
theorem okD_as {g : Dat} {k : Nat} (h : g ∈ [Dat.tuple [], .tuple [.str "'a"], .tuple [.none, .int 2]]) (hk : 1 ≤ k) : okD k g = true := by
  simp only [List.mem_cons, List.not_mem_nil, or_false] at h
  rcases h with rfl | rfl | rfl <;> (refine okD_le (a := 1) (by decide +kernel) hk)
inductive Way6 (w : Str) (t : Dat) (k : Nat) : Prop
  | plain (hr : (w == ("ref" : Str)) = false) (ha : (w == ("adt" : Str)) = false) : Way6 w t k
  | ref (e1 : w = "ref") (e2 : t = .bool true) (e3 : k = 1) : Way6 w t k
  | adt (e1 : w = "adt") (e2 : t = .str "m::S") (e3 : k = 2) : Way6 w t k
theorem way6 {w : Str} {t : Dat} {k : Nat} (h : (w, t, k) ∈ heads6) : Way6 w t k := by
  simp only [heads6, List.mem_cons, List.not_mem_nil, or_false, Prod.mk.injEq] at h
  rcases h with ⟨rfl, rfl, rfl⟩ | ⟨rfl, rfl, rfl⟩ | ⟨rfl, rfl, rfl⟩ | ⟨rfl, rfl, rfl⟩ | ⟨rfl, rfl, rfl⟩ | ⟨rfl, rfl, rfl⟩
  · exact .plain (by decide +kernel) (by decide +kernel)
  · exact .plain (by decide +kernel) (by decide +kernel)
  · exact .ref rfl rfl rfl
  · exact .plain (by decide +kernel) (by decide +kernel)
  · exact .plain (by decide +kernel) (by decide +kernel)
  · exact .adt rfl rfl rfl
theorem Made.ref_at {t e : Dat} {ds : List Dat} (h : Made "ref" t ds e) : ∃ (b : Bool) (d g : Dat), t = .bool b ∧ ds = [d] ∧ g ∈ [Dat.none, .str "'a", .int 4] ∧ e = .tuple [.str "ref", g, .bool b, d] := by
  have h := h.at (k := 1)
  cases h with | ref hg => exact ⟨_, _, _, rfl, rfl, hg, rfl⟩
theorem Made.adt_at {t e : Dat} {ds : List Dat} (h : Made "adt" t ds e) : ∃ (x : Str) (g : Dat), t = .str x ∧ g ∈ [Dat.tuple [], .tuple [.str "'a"], .tuple [.none, .int 2]] ∧ e = .tuple [.str "adt", .str x, g, .tuple ds] := by
  have h := h.at (k := 4)
  cases h with | adt hg => exact ⟨_, _, rfl, hg, rfl⟩
theorem made_fill {f : Str → Option Dat} {n k : Nat} {w : Str} {t d e : Dat} {ps : List (Dat × Dat)} (h : (w, t, k) ∈ heads6) (hr : (w == ("ref" : Str)) = false) (ha : (w == ("adt" : Str)) = false) (hl : ps.length = k) (hP : ∀ p ∈ ps, Pr f n p)
    (h1 : Made w t (ps.map Prod.fst) d) (h2 : Made w t (ps.map Prod.snd) e) : Fill f (n + 1) d e ∧ okD (2 * (n + 1) + 3) e = true := by
  have tup : Made "tuple" t (ps.map Prod.fst) d → Made "tuple" t (ps.map Prod.snd) e → ps.length ≤ 100 → Fill f (n + 1) d e ∧ okD (2 * (n + 1) + 3) e = true := fun h1 h2 hl => by
    have h1 := h1.at (k := 0)
    have h2 := h2.at (k := 0)
    cases h1
    cases h2
    exact ⟨.tuple (fill_all hP) (by simpa using hl), okD_all2 (by simp only [List.all_cons, List.all_nil, okD_pts hP, okD_s (x := "tuple") (by decide +kernel), Bool.and_self])⟩
  simp only [heads6, List.mem_cons, List.not_mem_nil, or_false, Prod.mk.injEq] at h
  rcases h with ⟨rfl, rfl, rfl⟩ | ⟨rfl, rfl, rfl⟩ | ⟨rfl, rfl, rfl⟩ | ⟨rfl, rfl, rfl⟩ | ⟨rfl, rfl, rfl⟩ | ⟨rfl, rfl, rfl⟩
  · exact tup h1 h2 (by omega)
  · exact tup h1 h2 (by omega)
  · exact absurd hr (by decide +kernel)
  · obtain ⟨p, rfl⟩ := List.length_eq_one_iff.mp hl
    have hp1 := hP p (.head _)
    have h1 := h1.at (k := 2)
    have h2 := h2.at (k := 2)
    cases h1
    cases h2
    exact ⟨.box hp1.1, okD_all2 (by simp only [List.all_cons, List.all_nil, okD_up hp1.2, okD_s (x := "box") (by decide +kernel), Bool.and_self])⟩
  · obtain ⟨p, rfl⟩ := List.length_eq_one_iff.mp hl
    have hp1 := hP p (.head _)
    have h1 := h1.at (k := 3)
    have h2 := h2.at (k := 3)
    cases h1
    cases h2
    exact ⟨.array hp1.1, okD_all2 (by simp only [List.all_cons, List.all_nil, okD_up hp1.2, okD_s (x := "array") (by decide +kernel), Bool.and_self]; simp [okD])⟩
  · exact absurd ha (by decide +kernel)
theorem law_typeS {w : World} {mean : ExcName → Option Value} {mg mb : Str → Option Value} {J fd : Addr} {fo : Obj} {kvs : List (Str × Value)} {f : Str → Option Dat} {n : Nat} (ih : TypeAt w mean mg mb J fd fo kvs f n) : TypeAt w mean mg mb J fd fo kvs f (n + 1) := by
  intro A h₀ L m s news keep bag d a b ta tb tn nj k Q E Am F N P ok fmem fdict flo fok hk ret
  replace Am : Amb w mean mg mb A h₀ L (d + n + 5 + 1) := Am.mono (by omega)
  obtain ⟨A₀, base, env, outer, hA, hf, hke, B⟩ := Am.fr
  obtain ⟨hd8, dp, fr, gd, un⟩ := A
  obtain rfl : hd8 = none := Am.hh
  obtain rfl : fr = some (env :: outer) := hA
  have hk0 : k ≠ 0 := by omega
  have X := Am.X
  have T := Am.T
  have hdep : dp + (d + n + 5 + 1) < 1000 := Am.depth
  have N1 := News.sub N P.sub
  have hoff := P.off
  have htup := P.tups
  refine wpAny_call ?_
  k_dflt walk_at "MyEnterC"
  (rename ∀ p ∈ (_ : Bag), p.1 < (_ : Addr) => lt0)
  obtain ⟨kk1, kk2, kk3⟩ := cells_off lt0
  k_steps
  · exact absurd (by assumption) hk0
  · (rename _ = some _ => hi)
    rcases name_pick hi with e | ⟨x, tx, e, ox⟩ <;> subst e <;> clear hi
    · k_steps
      (rename _ = some _ => hi)
      refine ret _ _ _ ?_
      walk_at "MyBack"
      exact typeR_told hi (by walk_at "MyAll") fun d9 id9 => by walk_at "MyIn"
    · rcases fok x with ⟨h1, h2⟩ | ⟨v, dv, h1, h2, h3, h4⟩
      · k_steps
        refine ret _ _ _ ?_
        walk_at "MyBack"
        exact ⟨paramD x, paramD x, by walk_at "MyIn", fill_no h2, okD_param ox⟩
      · k_steps
        refine ret _ _ _ ?_
        walk_at "MyBack"
        exact ⟨paramD x, dv, by walk_at "MyIn", fill_yes h2, okD_le h4 (by omega)⟩
  (rename _ = some _ => hi)
  (rename Value => rH)
  (rename News _ _ _ ((J, jar _ _ _ _ _) :: (_ ++ _)) => NN)
  obtain ⟨wH, tH, kH, aH, twH, tkH, vtH, nH, rfl, mH, htH, hmH⟩ := pick6 NN (r := rH) (pick_hds hi (by walk_at "MyAll"))
  clear hi
  have hkH : kH ≤ 100 := heads6_le _ hmH
  have iH := head_in mH htH
  iterate 4 (first | (k_unfold; (try dsimp only)) | walk1 | (dsimp only; walk1) | skip)
  (rename Tups _ => tt0)
  refine rest_ind (n := kH) (LInv J _ _ (fun d => ∃ p : Dat × Dat, d = pairD p ∧ Pr f n p)) ?_ ?_ _ 0 [] _ (Nat.zero_add _) (LInv.start (by assumption) tt0)
  · intro i2 ys2 nw2 hi2 hL v2 I2 oI2 C2 oC2 D2 m3 h3 tk3 E3 hP2 hC2 hx2 F3 N3 off2 ne2
    obtain ⟨t2, rfl⟩ := hP2
    obtain ⟨a2, b2, ta2, tb2, n2, bag2, ok2, rfl, tt2, sub2, fr2, ds2, hd2, hl2, hG2⟩ := hL
    have hK := off2.mem (J, jar a2 b2 ta2 tb2 n2) (.head _)
    have hK1 : I2 ≠ J := Ne.symm hK.1
    have hK2 : C2 ≠ J := Ne.symm hK.2.1
    have hK3 : D2 ≠ J := Ne.symm hK.2.2
    have fok2 : Fok kvs f bag2 := Fok.mono (sub_trans (by walk_at "MyChain") sub2) fok
    k_steps
    (rename Fresh _ _ _ => frN)
    (rename Tups _ => ttN)
    (rename Fill _ _ _ _ => hfN)
    (rename okD _ _ = true => hoN)
    (rename DatIn _ _ _ => hyN)
    (rename ∀ p ∈ _, p ∈ _ => subN)
    exact linv_end (by k_asm) (by k_asm) (by assumption) ttN subN frN off2 sub2 fr2 hd2 hl2 hG2 hyN ⟨(_, _), rfl, hfN, hoN⟩
  · intro ys2 nw2 hL
    obtain ⟨aS, bS, taS, tbS, nS, bagS, okS, rfl, ttS, subS, frS, dsS, hdS, hlS, hGS⟩ := hL
    obtain ⟨ps, rfl, hPs⟩ := pairs_of hGS
    have hps : ps.length = kH := by simpa using hlS
    have hys : ys2.length = kH := by rw [hdS.length, hlS]
    obtain ⟨e0, md⟩ := made_ex6 hmH (ds := ps.map Prod.fst) (by simp [hps])
    have subS' : ∀ p ∈ bag, p ∈ bagS := sub_trans (by walk_at "MyChain") subS
    unfold LCg.FinA
    intro Dp h4 tk4 F4 N4 o14
    have hDp : Dp ≠ J := Ne.symm o14.1
    k_steps
    refine rest_indP (n := ys2.length) (TInv J _ _ (ps.map Prod.fst)) ?_ ?_ _ 0 [] _ (Nat.zero_add _) (TInv.start (by assumption) (by assumption))
    · intro i zs nw3 hi hU v hPv
      obtain ⟨a3, b3, ta3, tb3, n3, bag3, ok3, rfl, tt3, sub3, fr3, hd3⟩ := hU
      have hdT' := hdS.mono sub3
      obtain ⟨t, v1, v2, nt, p, rfl, hm, hp, hi1, hi2⟩ := pair_at hdT' hPv
      refine ⟨t, v1, v2, nt, rfl, .tail _ (List.mem_append_right _ hm), ?_⟩
      intro I3 oI3 C3 oC3 D3 m3 h3 tk3 E3 hC3 hx3 hy3 F3 N3 off3 ne3
      k_steps
      refine' tinv_end ?F9 (News.sub ?N9 ?s9) ok3 tt3 sub_refl Fresh.refl off3 sub3 fr3 hd3 hi1 ?e9 (srcAt_of (n := ys2.length) ?m9)
      (case F9 => k_asm)
      (case N9 => k_asm)
      (case s9 => walk_at "MyChain")
      (case e9 => simp [hp])
      (case m9 => walk_at "MyMem")
    · intro zs nw3 hU
      obtain ⟨aU, bU, taU, tbU, nU, bagU, okU, rfl, ttU, subU, frU, hdU⟩ := hU
      rw [List.take_of_length_le (by simp; omega)] at hdU
      have hzs : zs.length ≤ 100 := by
        have := hdU.length
        simp at this
        omega
      unfold LCg.FinE
      intro DU hU4 tkU FU NU oU
      have hDU : DU ≠ J := Ne.symm oU.1
      k_steps
      (rename Made _ _ _ _ => hMd)
      (rename DatIn _ _ _ => hMi)
      refine rest_indP (n := ys2.length) (TInv J _ _ (ps.map Prod.snd)) ?_ ?_ _ 0 [] _ (Nat.zero_add _) (TInv.start (by assumption) (by assumption))
      · intro i zs3 nw4 hi hU v hPv
        obtain ⟨a3, b3, ta3, tb3, n3, bag3, ok3, rfl, tt3, sub3, fr3, hd3⟩ := hU
        have hdT' : DatAll bag3 ys2 (ps.map pairD) := hdS.mono (sub_trans (by walk_at "MyChain") sub3)
        obtain ⟨t, v1, v2, nt, p, rfl, hm, hp, hi1, hi2⟩ := pair_at hdT' hPv
        refine ⟨t, v1, v2, nt, rfl, .tail _ (List.mem_append_right _ hm), ?_⟩
        intro I3 oI3 C3 oC3 D3 m3 h3 tk3 E3 hC3 hx3 hy3 F3 N3 off3 ne3
        k_steps
        refine' tinv_end ?F9 (News.sub ?N9 ?s9) ok3 tt3 sub_refl Fresh.refl off3 sub3 fr3 hd3 hi2 ?e9 (srcAt_of (n := ys2.length) ?m9)
        (case F9 => k_asm)
        (case N9 => k_asm)
        (case s9 => walk_at "MyChain")
        (case e9 => simp [hp])
        (case m9 => walk_at "MyMem")
      · intro zs3 nw4 hU
        obtain ⟨aV, bV, taV, tbV, nV, bagV, okV, rfl, ttV, subV, frV, hdV⟩ := hU
        rw [List.take_of_length_le (by simp; omega)] at hdV
        have hzl : zs3.length = kH := by
          have := hdV.length
          simp at this
          omega
        have hz3 : zs3.length ≤ 100 := by omega
        unfold LCg.FinA
        intro DV hV4 tkV FV NV oV
        have hDV : DV ≠ J := Ne.symm oV.1
        obtain ⟨e1, md1⟩ := made_ex6 hmH (ds := ps.map Prod.snd) (by simp [hps])
        rcases way6 hmH with ⟨nr, na⟩ | ⟨e1, e2, e3⟩ | ⟨e1, e2, e3⟩
        · k_steps
          (rename Made _ _ _ _ => hMe)
          (rename DatIn _ _ _ => hNi)
          have hf := made_fill hmH nr na hps hPs hMd hMe
          refine ret _ _ _ ?_
          walk_at "MyBack"
          exact ⟨_, _, by walk_at "MyIn", hf.1, hf.2⟩
        · subst e1 e2 e3
          obtain ⟨p, rfl⟩ := List.length_eq_one_iff.mp hps
          have hp1 := hPs p (.head _)
          obtain ⟨b0, d0, g0, q1, q2, hg, rfl⟩ := hMd.ref_at
          obtain rfl : p.1 = d0 := by simpa using q2
          obtain rfl : true = b0 := by simpa using q1
          obtain ⟨aT, x0, x1, x2, x3, nT, rfl, mT, i0, i1, i2, i3⟩ := at_4 hMi
          k_steps
          (rename _ = some _ => hv)
          obtain ⟨dv, edv, idv⟩ := dat_at hdV hv
          obtain rfl : p.2 = dv := by simpa using edv
          refine ret _ _ _ ?_
          walk_at "MyBack"
          exact ⟨_, _, by walk_at "MyIn", .ref hp1.1, okD_all2 (by simp only [List.all_cons, List.all_nil, okD_up hp1.2, okD_gs hg, okD_s (x := "ref") (by decide +kernel), Bool.and_self]; simp [okD])⟩
        · subst e1 e2 e3
          obtain ⟨x0, g0, q1, hg, rfl⟩ := hMd.adt_at
          obtain rfl : "m::S" = x0 := by simpa using q1
          obtain ⟨aT, y0, y1, y2, y3, nT, rfl, mT, i0, i1, i2, i3⟩ := at_4 hMi
          k_steps
          refine ret _ _ _ ?_
          walk_at "MyBack"
          exact ⟨_, _, by walk_at "MyIn", .adt (fill_all hPs) (by simp [hps]), okD_all2 (by simp only [List.all_cons, List.all_nil, okD_pts hPs, okD_as (k := 2 * n + 4) hg (by omega), okD_s (x := "adt") (by decide +kernel), okD_s (x := "m::S") (by decide +kernel), Bool.and_self])⟩
-- part J1
theorem News.one {h₀ h : Heap} {L D : Addr} {o : Obj} {news : Bag} (N : News h₀ L h news) (hm : (D, o) ∈ news) : News h₀ L h ((D, o) :: ([] ++ ([] : Bag))) := fun p hp => by
  rcases List.mem_cons.mp hp with rfl | hp
  · exact N _ hm
  · cases hp
theorem max2 {prog : Program} {w : World} {A : Around} {E : Value → Shared → Prop} {s : Shared} {h₀ : Heap} {L : Addr} {m : Str → Option Value} {news : Bag} {a b : Int} {t u : Tok} {Q : Value → Shared → Prop} (hh : A.handled = none) (F : Fr h₀ L s.heap m) (N : News h₀ L s.heap news)
    (h : ∀ v tv h' tk, a ≤ v → b ≤ v → Fr h₀ L h' m → News h₀ L h' news → Q (.int v tv) { s with heap := h', toks := tk }) : wpAny (model prog w) A (call (.builtin "max") [.int a t, .int b u]) Q E s :=
  max_two_ints hh fun h' tk kp => by
    by_cases hc : b > a
    · rw [if_pos hc]; exact h b u h' tk (by omega) (by omega) (F.grownK kp) (N.grown kp)
    · rw [if_neg hc]; exact h a t h' tk (by omega) (by omega) (F.grownK kp) (N.grown kp)
theorem rows99 : True := by
  (k_with "@call builtin:max" => ((k_here; (with_reducible show wpAny _ _ (call _ [Value.int _ _, Value.int _ _]) _ _ _); k_dflt (refine' max2 ?hhv98w ?Fv98w ?Nv98w ?_; (case hhv98w => exact rfl); (case Fv98w => k_asm); (case Nv98w => k_asm)); intro v9v98w tv9v98w h9v98w tk9v98w ha9v98w hb9v98w F9v98w N9v98w; (try k_sweep))))
  trivial
theorem law_jar {w : World} {mean : ExcName → Option Value} {mg mb : Str → Option Value} {A : Around} {h₀ : Heap} {L l : Addr} {m : Str → Option Value} {s : Shared} {news : Bag} {d : Nat} {Q E : Value → Shared → Prop} {ws : List Value} {ns : List Int}
    (Am : Amb w mean mg mb A h₀ L (d + 1)) (F : Fr h₀ L s.heap m) (N : News h₀ L s.heap news) (hl : h₀.IsList l ws.toArray) (hI : IntsAre ws ns) (hz : ns.length ≤ 63)
    (ret : ∀ D h' tk' a b ta tb, JarOk a b → Fr h₀ L h' m → News h₀ L h' ((D, jar a b ta tb 0) :: ([] ++ ([] : Bag))) → Q (.ref D) { s with heap := h', toks := tk' }) :
    wpAny (model Challenge.rw_xm0574_01.prog w) A (call (.ref 33) [.ref l]) Q E s := by
  obtain ⟨A₀, base, env, outer, hA, hf, hke, B⟩ := Am.fr
  obtain ⟨hd8, dp, fr, gd, un⟩ := A
  obtain rfl : hd8 = none := Am.hh
  obtain rfl : fr = some (env :: outer) := hA
  have X := Am.X
  have T := Am.T
  have hdep : dp + (d + 1) < 1000 := Am.depth
  have hwl : ws.length = ns.length := hI.length
  refine wpAny_call ?_
  k_dflt walk_at "MyEnter"
  (rename Fr h₀ L _ m => FG9)
  have hl2 : Heap.IsList _ l ws.toArray := let ⟨o, e, r⟩ := hl; ⟨o, FG9.keep _ _ e, r⟩
  k_steps
  all_goals
    refine' ret _ _ _ _ _ _ _ ?ok9 ?F9 (News.one ?N9 ?s9)
    (case F9 => k_asm)
    (case N9 => k_asm)
    (case s9 => walk_at "MyMem")
    (case ok9 => exact ⟨by omega, (fm (by decide)).1, (fm (by decide)).2⟩)
theorem Parts.single {J : Addr} {o : Obj} : Parts [(J, o)] J o [] [] := ⟨fun _ h => h, OffJ.nil, fun _ h => nomatch h⟩
theorem tups_nil : Tups [] := fun _ h => nomatch h
-- part M1
theorem valueAt_cons {p : Str × Value} {r : List (Str × Value)} {y : Str} : valueAt (p :: r) y = if p.1 = y then some p.2 else valueAt r y := by
  unfold valueAt
  by_cases h : p.1 = y <;> simp [List.find?_cons, h]
theorem valueAt_set {x : Str} {v : Value} {y : Str} : ∀ (l : List (Str × Value)), valueAt (l.map fun kv => if kv.1 = x then (kv.1, v) else kv) y = if y = x then (if (l.any fun kv => kv.1 = x) = true then some v else none) else valueAt l y
  | [] => by by_cases h : y = x <;> simp [valueAt, h]
  | p :: r => by
    rw [List.map_cons, valueAt_cons, valueAt_cons, valueAt_set r]
    by_cases hy : y = x
    · subst hy
      by_cases hp : p.1 = y
      · simp [hp]
      · have e : (decide (p.1 = y) || r.any fun kv => decide (kv.1 = y)) = r.any fun kv => decide (kv.1 = y) := by rw [decide_eq_false hp, Bool.false_or]
        rw [List.any_cons, e, if_neg hp, if_pos rfl, if_pos rfl, if_neg hp]
    · by_cases hp : p.1 = x
      · simp [hp, hy, Ne.symm hy]
      · simp [hp, hy]
theorem valueAt_app {x : Str} {v : Value} {y : Str} : ∀ (l : List (Str × Value)), ¬ (l.any fun kv => kv.1 = x) = true → valueAt (l ++ [(x, v)]) y = if y = x then some v else valueAt l y
  | [], _ => by
    rw [List.nil_append, valueAt_cons]
    by_cases h : y = x
    · simp [h]
    · simp [h, Ne.symm h, valueAt]
  | p :: r, h => by
    have h' : p.1 ≠ x ∧ ¬ (r.any fun kv => kv.1 = x) = true := by simpa using h
    rw [List.cons_append, valueAt_cons, valueAt_cons, valueAt_app r h'.2]
    by_cases hy : y = x
    · subst hy
      simp [h'.1]
    · simp [hy]
theorem valueAt_stored {kvs : List (Str × Value)} {x y : Str} {v : Value} : valueAt (stored kvs x v) y = if y = x then some v else valueAt kvs y := by
  unfold stored
  by_cases ha : (kvs.any fun kv => kv.1 = x) = true
  · rw [if_pos ha, valueAt_set, if_pos ha]
  · rw [if_neg ha, valueAt_app _ ha]
theorem Fok.put {kvs : List (Str × Value)} {f : Str → Option Dat} {bag : Bag} {x : Str} {v : Value} {d : Dat} (h : Fok kvs f bag) (iv : DatIn bag v d) (od : okD 3 d = true) : Fok (stored kvs x v) (fun y => if y = x then some d else f y) bag := by
  intro y
  rw [valueAt_stored]
  by_cases hy : y = x
  · exact .inr ⟨v, d, by simp [hy], by simp [hy], iv, od⟩
  · rcases h y with ⟨h1, h2⟩ | ⟨v', d', h1, h2, h3, h4⟩
    · exact .inl ⟨by simp [hy, h1], by simp [hy, h2]⟩
    · exact .inr ⟨v', d', by simp [hy, h1], by simp [hy, h2], h3, h4⟩
theorem valueAt_mem {p : Str × Value} : ∀ {kvs : List (Str × Value)}, (kvs.map (·.1)).Nodup → p ∈ kvs → valueAt kvs p.1 = some p.2
  | q :: r, hn, hp => by
    rw [valueAt_cons]
    rw [List.map_cons, List.nodup_cons] at hn
    rcases List.mem_cons.mp hp with rfl | hp
    · rw [if_pos rfl]
    · rw [if_neg fun e => hn.1 (List.mem_map.mpr ⟨p, hp, e.symm⟩)]
      exact valueAt_mem hn.2 hp
theorem fok_hits {A : Around} {s : Shared} {h₀ : Heap} {L : Addr} {news bag : Bag} {kvs : List (Str × Value)} {f : Str → Option Dat} (N : News h₀ L s.heap news) (sub : ∀ p ∈ bag, p ∈ news) (fk : Fok kvs f bag) (hn : (kvs.map (·.1)).Nodup) (hu : A.in1.units + 64 < cLine) :
    ∀ l, (∀ p ∈ l, p ∈ kvs) → KeqHits A.in1 s kvs l true
  | [], _ => .nil
  | p :: r, h => by
    obtain ⟨k, v⟩ := p
    have e := valueAt_mem hn (h (k, v) (.head _))
    have q := KeqHits.hit (A := A.in1) (s := s) (e := true) (b := true) (v := v) e (by
      rcases fk k with ⟨h1, _⟩ | ⟨v', d', h1, h2, h3, h4⟩
      · rw [h1] at e; cases e
      · obtain rfl : v' = v := Option.some.inj (h1.symm.trans e)
        obtain ⟨_, ra⟩ := okD_in N 3 (h3.mono sub) h4
        have y := keq_at (A := A) ra ra (okD_shaped h4 (by decide)) (okD_shaped h4 (by decide)) hu
        rw [okD_refl h4] at y
        exact y) (fok_hits N sub fk hn hu r fun p hp => h p (.tail _ hp))
    exact q
section
variable {prog : Program} {w : World} {A : Around} {E : Value → Shared → Prop} {s : Shared} {h₀ : Heap} {L : Addr} {m : Str → Option Value} {news bag : Bag} {a b : Addr} {oa ob : Obj} {kvs : List (Str × Value)} {f : Str → Option Dat} {Q : Value → Shared → Prop}
theorem found_eq (N : News h₀ L s.heap news) (sub : ∀ p ∈ bag, p ∈ news) (fk : Fok kvs f bag) (pa : (a, oa) ∈ news) (pb : (b, ob) ∈ news) (da : oa.IsDictOf (strKind prog w) kvs) (db : ob.IsDictOf (strKind prog w) kvs) (la : (a == sysModules) = false) (lb : (b == sysModules) = false) (hu : A.units + 65 < cLine)
    (h : Q (.bool true) s) : wpAny (model prog w) A (compareOp .Eq (.ref a) (.ref b)) Q E s := by
  have hn : (kvs.map (·.1)).Nodup := let ⟨_, _, _, _, _, _, hn⟩ := da; hn
  exact keq_pairs (knd := strKind prog w) N pa pb da db la lb rfl (by omega) (fok_hits N sub fk hn (by simp only [Around.in1_units]; omega) kvs fun _ h => h) h
theorem found_dict (F : Fr h₀ L s.heap m) (N : News h₀ L s.heap news) (pa : (a, oa) ∈ news) (da : oa.IsDictOf (strKind prog w) kvs) (la : (a == sysModules) = false) (hbig : h₀.NoLimit) (hz : kvs.length ≤ 2)
    (k : ∀ d h' o, Fr h₀ L h' m → News h₀ L h' ((d, o) :: news) → (∀ p ∈ news, p.1 < d) → (d == sysModules) = false → o.IsDictOf (strKind prog w) kvs → Q (.ref d) { s with heap := h' }) : wpAny (model prog w) A (call (.type "dict") [.ref a]) Q E s := by
  refine kt_call_dict (knd := strKind prog w) la (Heap.dictOf_iff.mpr ⟨oa, (N _ pa).1, da⟩) (by rw [sizeLine_eq]; omega) fun h' hm hs => ?_
  obtain ⟨o', ho', hd'⟩ := Heap.dictOf_iff.mp hm
  have N1 := News.push F N { cls := .type "dict", data := .dict #[] }
  exact k _ h' o' ((F.push _).change hs (N1 _ (.head _)).2.1 (N1.fresh (.head _))) (N1.setHead N.apart hs ho') (fun p hp => Heap.lt_size (N p hp).1) (F.notModules (modules_low hbig)) hd'
theorem dict_ne {o : Obj} (hd : o.IsDictOf (strKind prog w) kvs) : o.cls = .type "dict" := let ⟨_, _, he, _⟩ := hd; he.1
theorem found_set {x : Str} {t : Tok} {v : Value} {d : Dat} {keep : Bag} {z : Nat} {Q : Unit → Shared → Prop} (F : Fr h₀ L s.heap m) (N : News h₀ L s.heap news) (pa : (a, oa) ∈ news) (da : oa.IsDictOf (strKind prog w) kvs) (hz : kvs.length ≤ z) (hz2 : z ≤ 1) (fk : Fok kvs f bag) (iv : DatIn bag v d) (od : okD 3 d = true)
    (ks : ∀ p ∈ keep, p ∈ news) (kc : ∀ p ∈ keep, p.2.cls ≠ .type "dict")
    (k : ∀ h' o' kvs' f', Fr h₀ L h' m → News h₀ L h' ((a, o') :: keep) → o'.IsDictOf (strKind prog w) kvs' → kvs'.length ≤ z + 1 → Fok kvs' f' bag → Q () { s with heap := h', toks := s.toks + 1 }) : wpAny (model prog w) A (setItem (.ref a) (.str x t) v) Q E s := by
  have na : ∀ p ∈ keep, p.1 ≠ a := fun p hp e => by
    have h1 := (N _ (ks p hp)).1
    rw [e, (N _ pa).1] at h1
    exact kc p hp (by rw [← Option.some.inj h1]; exact dict_ne da)
  have N1 : News h₀ L s.heap ((a, oa) :: keep) := fun p hp => by
    rcases List.mem_cons.mp hp with rfl | hp
    · exact N _ pa
    · exact N _ (ks p hp)
  refine kda_set (knd := strKind prog w) (k := x) F N1 (.head na) da (strKind_is _ _ _ _) (by rw [sizeLine_eq]; omega) fun h' o' F' N' hd' => ?_
  exact k h' o' _ _ F' N' hd' (Nat.le_trans (stored_length_le _ _ _) (by omega)) (fk.put iv od)
end
theorem fok_nil {bag : Bag} : Fok [] (fun _ => none) bag := fun x => .inl ⟨rfl, rfl⟩
theorem one_dat {w : World} {mean : ExcName → Option Value} {mg mb : Str → Option Value} {A : Around} {h₀ : Heap} {L J l : Addr} {m : Str → Option Value} {s : Shared} {news keep bag : Bag}
    {a b : Int} {ta tb : Tok} {n d k : Nat} {vs : List Value} {Q E : Value → Shared → Prop}
    (Am : Amb w mean mg mb A h₀ L (d + 2)) (F : Fr h₀ L s.heap m)
    (N : News h₀ L s.heap news) (P : Parts news J (jar a b ta tb n) keep bag) (ok : JarOk a b) (hl : (l, listOf vs.toArray k) ∈ keep) (hv : 1 ≤ vs.length) (hv' : vs.length ≤ 100) (hall : ∀ v ∈ vs, ∃ d, DatIn bag v d ∧ okD 3 d = true)
    (ret : ∀ (r : Value) d a' b' ta' tb' n' h' tk', DatIn bag r d → okD 3 d = true → JarOk a' b' → Fr h₀ L h' m → News h₀ L h' ((J, jar a' b' ta' tb' n') :: (keep ++ bag)) → Tups bag → Q r { s with heap := h', toks := tk' }) :
    wpAny (model Challenge.rw_xm0574_01.prog w) A (call (.ref 47) [.ref J, .ref l]) Q E s :=
  one Am F N P ok hl hv hv' fun i r a' b' ta' tb' n' h' tk' hi ok' F' N' => by
    obtain ⟨d, h1, h2⟩ := hall r (List.mem_of_getElem? hi)
    exact ret r d a' b' ta' tb' n' h' tk' h1 h2 ok' F' N' P.tups
theorem all_nil {bag : Bag} : ∀ v ∈ ([] : List Value), ∃ d, DatIn bag v d ∧ okD 3 d = true := fun _ h => nomatch h
theorem all_cons {bag : Bag} {v : Value} {d : Dat} {vs : List Value} (i : DatIn bag v d) (o : okD 3 d = true) (r : ∀ v ∈ vs, ∃ d, DatIn bag v d ∧ okD 3 d = true) : ∀ v' ∈ v :: vs, ∃ d, DatIn bag v' d ∧ okD 3 d = true := fun v' h => by
  rcases List.mem_cons.mp h with rfl | h
  · exact ⟨d, i, o⟩
  · exact r v' h
-- part M0
theorem amb_top {w : World} {mean : ExcName → Option Value} {mg mb : Str → Option Value} {env : Env} {h₀ : Heap} {L : Addr} {α : Type} {M : Model} {t : Sem α} {Q : α → Shared → Prop} {E : Value → Shared → Prop} {s : Shared}
    (X : (hd.heap_39 w.params).In h₀) (T : Top hd.view_39 (looseW hd.view_39 []) mean mg mb h₀) (hf : env.frame = some L) (hk : env.scope.kind = .function)
    (k : Amb w mean mg mb (callerA.deeper env) h₀ L 20 → wpAny M (callerA.deeper env) t Q E s) : wpAny M (callerA.deeper env) t Q E s :=
  k ⟨rfl, ⟨callerA, h₀, env, [], rfl, hf, hk, below_caller _⟩, by show callerA.depth + 1 + 20 < 1000; decide, by show callerA.units + 3 + 8 * 20 + 200 < 9900; decide, X, T⟩
def boolD : Dat := .tuple [.str "bool"]
theorem hp_first {w : World} {mean : ExcName → Option Value} {mg mb : Str → Option Value} {A : Around} {h₀ : Heap} {L : Addr} {m : Str → Option Value} {s : Shared} {news : Bag} {d : Nat} {Q E : Value → Shared → Prop} {v1 v2 : Value}
    (Am : Amb w mean mg mb A h₀ L (d + 3)) (F : Fr h₀ L s.heap m) (N : News h₀ L s.heap news) (ia : DatIn news v1 (.tuple [.str "tuple", .tuple [.tuple [.str "bool"]]])) (ib : DatIn news v2 (.tuple [.str "tuple", .tuple [.tuple [.str "bool"], .tuple [.str "bool"]]]))
    (ret : ∀ h' tk', Fr h₀ L h' m → News h₀ L h' news → Q .none { s with heap := h', toks := tk' }) :
    wpAny (model Challenge.rw_xm0574_01.prog w) A (call (.ref 21) [v1, v2]) Q E s :=
  hpairs (t1 := .none) (t2 := .none) Am F N (fun _ h => h) ia ib ⟨_, .tuple⟩ ⟨_, .tuple⟩ (by decide) (by decide) fun r h' tk' H => by
    obtain ⟨rfl, F', N'⟩ := H.no fun q => absurd q.2.2 (by decide)
    exact ret h' tk' F' N'
theorem rows121 : True := by
  (k_with "@call ref" => ((k_here; (with_reducible show wpAny _ _ (call (Value.ref 21) _) _ _ _); k_dflt (refine' hp_first ?amv100w ?Fv100w ?Nv100w ?iav100w ?ibv100w ?_; (case amv100w => assumption); (case Fv100w => k_asm); (case Nv100w => k_asm); (case iav100w => walk_at "MyIn"); (case ibv100w => walk_at "MyIn")); intro h9v100w tk9v100w F9v100w N9v100w; (try k_sweep))))
  trivial
theorem fil_first {w : World} {mean : ExcName → Option Value} {mg mb : Str → Option Value} {A : Around} {h₀ : Heap} {L fd : Addr} {fo : Obj} {m : Str → Option Value} {s : Shared} {news : Bag} {d : Nat} {Q E : Value → Shared → Prop} {v1 : Value}
    (Am : Amb w mean mg mb A h₀ L (d + 1 + 1)) (F : Fr h₀ L s.heap m) (N : News h₀ L s.heap news) (hm : (fd, fo) ∈ news) (hd : fo.IsDictOf (strKind Challenge.rw_xm0574_01.prog w) []) (lo : (fd == sysModules) = false) (ia : DatIn news v1 (.tuple [.str "tuple", .tuple [.tuple [.str "bool"]]]))
    (ret : ∀ (a : Addr) tl h' tk', Fr h₀ L h' m → News h₀ L h' (tl ++ news) → DatIn (tl ++ news) (.ref a) (.tuple [.str "tuple", .tuple [.tuple [.str "bool"]]]) → Q (.ref a) { s with heap := h', toks := tk' }) :
    wpAny (model Challenge.rw_xm0574_01.prog w) A (call (.ref 26) [v1, .ref fd]) Q E s :=
  FilledAt.use (filled_n (f := fun _ => none) (kvs := []) 1) Am F N (fun _ h => h) ⟨hm, hd, lo, fun x => .inl ⟨rfl, rfl⟩⟩ ia (.tuple (.cons (.same (by unfold plainWord; decide +kernel)) .nil) (by decide)) fun r h' tk' H => by
    obtain ⟨tl, F', N', _, d'⟩ := H
    cases d' with | tuple hm hall =>
    exact ret _ tl h' tk' F' N' (.tuple hm hall)
theorem rows122 : True := by
  (k_with "@call ref" => ((k_here; (with_reducible show wpAny _ _ (call (Value.ref 26) _) _ _ _); k_dflt (refine' fil_first ?amv101w ?Fv101w ?Nv101w ?hmv101w ?hdv101w ?lov101w ?iav101w ?_; (case amv101w => assumption); (case Fv101w => k_asm); (case Nv101w => k_asm); (case hdv101w => assumption); (case hmv101w => walk_at "MyMem"); (case lov101w => assumption); (case iav101w => walk_at "MyIn")); intro a9v101w tl9v101w h9v101w tk9v101w F9v101w N9v101w d9v101w; (try k_sweep))))
  (k_with "@compareOp NotEq ref ref" => ((k_here; (with_reducible show wpAny _ _ (compareOp CmpOp.NotEq _ _) _ _ _); k_dflt (refine' neD_same (n := 3) (da := .tuple [.str "tuple", .tuple [.tuple [.str "bool"]]]) ?Nv102w ?iav102w ?ibv102w ?ov102w ?qv102w ?uv102w ?_; (case Nv102w => k_asm); (case iav102w => walk_at "MyIn"); (case ibv102w => walk_at "MyIn"); (case ov102w => decide +kernel); (case qv102w => decide); (case uv102w => (refine' units_of ?amv102w; (case amv102w => assumption)))); k_whole)))
  trivial
theorem dip3 {w : World} {mean : ExcName → Option Value} {mg mb : Str → Option Value} {A : Around} {h₀ : Heap} {L J : Addr} {m : Str → Option Value} {s : Shared} {news keep bag : Bag}
    {a b : Int} {ta tb tt : Tok} {n d : Nat} {Q E : Value → Shared → Prop}
    (Am : Amb w mean mg mb A h₀ L (d + 1)) (F : Fr h₀ L s.heap m)
    (N : News h₀ L s.heap news) (P : Parts news J (jar a b ta tb n) keep bag) (ok : JarOk a b)
    (ret : ∀ (r a' b' : Int) tr ta' tb' n' h' tk', (r = 0 ∨ r = 1 ∨ r = 2) → JarOk a' b' → Fr h₀ L h' m → News h₀ L h' ((J, jar a' b' ta' tb' n') :: (keep ++ bag)) → Q (.int r tr) { s with heap := h', toks := tk' }) :
    wpAny (model Challenge.rw_xm0574_01.prog w) A (call (.ref 40) [.ref J, .int 3 tt]) Q E s :=
  dip Am F N P ok (by decide) (by decide) fun r a' b' tr ta' tb' n' h' tk' h0 h1 ok' F' N' => ret r a' b' tr ta' tb' n' h' tk' (by omega) ok' F' N'
theorem rows123 : True := by
  (k_with "MyParts" => (first | exact Parts.single | (refine' Parts.base ?o9v103w ?t9v103w; (case o9v103w => walk_at "MyOff"); (case t9v103w => walk_at "MyTups")) | (refine' Parts.tup ?hp9v103w; (case hp9v103w => walk_at "MyParts")) | (refine' Parts.other ?hp9v103w ?hne9v103w; (case hne9v103w => first | with_reducible assumption | k_ne); (case hp9v103w => walk_at "MyParts"))))
  (k_with "@call ref" => ((k_here; (with_reducible show wpAny _ _ (call (Value.ref 33) _) _ _ _); k_dflt (refine' law_jar ?amv104w ?Fv104w ?Nv104w ?hlv104w ?hIv104w ?hzv104w ?_; (case amv104w => assumption); (case Fv104w => k_asm); (case Nv104w => k_asm); (case hlv104w => with_reducible assumption); (case hIv104w => with_reducible assumption); (case hzv104w => omega)); intro D9v104w h9v104w tk9v104w a9v104w b9v104w ta9v104w tb9v104w ok9v104w F9v104w N9v104w; (try k_sweep))))
  trivial
theorem pair_true {w : World} {mean : ExcName → Option Value} {mg mb : Str → Option Value} {A : Around} {h₀ : Heap} {L J : Addr} {m : Str → Option Value} {s : Shared} {news keep bag : Bag}
    {a b : Int} {ta tb : Tok} {n d : Nat} {Q E : Value → Shared → Prop}
    (Am : Amb w mean mg mb A h₀ L (d + 5)) (F : Fr h₀ L s.heap m)
    (N : News h₀ L s.heap news) (P : Parts news J (jar a b ta tb n) keep bag) (ok : JarOk a b)
    (ret : ∀ (a b : Int) ta tb n bag' h' tk', JarOk a b → Fr h₀ L h' m → News h₀ L h' ((J, jar a b ta tb n) :: (keep ++ bag')) → (∀ p ∈ bag, p ∈ bag') → Tups bag' → Q (.bool true) { s with heap := h', toks := tk' }) :
    wpAny (model Challenge.rw_xm0574_01.prog w) A (call (.ref 73) [.ref J]) Q E s :=
  pair_right Am F N P ok fun r h' tk' H => by
    obtain ⟨a, b, ta, tb, n, bag', ok', F', N', s', t', f', e⟩ := H
    have e' : r = .bool true := e
    subst e'
    exact ret a b ta tb n bag' h' tk' ok' F' N' s' t'
theorem rows124 : True := by
  (k_with "@call ref" => ((k_here; (with_reducible show wpAny _ _ (call (Value.ref 73) _) _ _ _); k_dflt (refine' pair_true ?amv105w ?Fv105w ?Nv105w ?Pv105w ?okv105w ?_; (case amv105w => assumption); (case Fv105w => k_asm); (case Nv105w => k_asm); (case Pv105w => walk_at "MyParts"); (case okv105w => assumption)); intro a9v105w b9v105w ta9v105w tb9v105w n9v105w bag9v105w h9v105w tk9v105w ok9v105w F9v105w N9v105w sub9v105w tt9v105w; (try k_sweep))))
  (k_with "@call ref" => ((k_here; (with_reducible show wpAny _ _ (call (Value.ref 40) _) _ _ _); k_dflt (refine' dip3 ?amv106w ?Fv106w ?Nv106w ?Pv106w ?okv106w ?_; (case amv106w => assumption); (case Fv106w => k_asm); (case Nv106w => k_asm); (case Pv106w => walk_at "MyParts"); (case okv106w => assumption)); intro r9v106w a9v106w b9v106w tr9v106w ta9v106w tb9v106w n9v106w h9v106w tk9v106w hr9v106w ok9v106w F9v106w N9v106w; (rcases hr9v106w with e9v106w | e9v106w | e9v106w <;> subst e9v106w))))
  trivial
theorem apart_of {h₀ h : Heap} {L I a : Addr} {it o : Obj} {news : Bag} (N : News h₀ L h news) (h1 : (I, it) ∈ news) (h2 : (a, o) ∈ news) (hc : it.cls ≠ o.cls) : a ≠ I := fun e => by
  have e1 := (N _ h1).1
  have e2 := (N _ h2).1
  dsimp only at e1 e2
  rw [e, e1] at e2
  exact hc (congrArg Obj.cls (Option.some.inj e2))
theorem unrEnd_J {h₀ h' : Heap} {L I J fd : Addr} {x y : Int} {fo : Obj} {rest : (Str → Option Value) → Bag → Prop} {s₁ : Shared} {tk : Nat} {m' : Str → Option Value} {a b : Int} {ta tb : Tok} {n : Nat} {bag' : Bag}
    (F : Fr h₀ L h' m') (N : News h₀ L h' ((J, jar a b ta tb n) :: ([(I, itR x y), (fd, fo)] ++ bag'))) (t : Tups bag') (hf : fd ≠ I)
    (r : rest m' ((fd, fo) :: (J, jar a b ta tb n) :: ([] ++ bag'))) : UnrEnd h₀ L s₁ I (itR x y) rest { s₁ with heap := h', toks := tk } := by
  refine UnrEnd.intro F N _ (fun p hp => ?_) (fun p hp => ?_) r
  · simp only [List.mem_cons, List.mem_append, List.nil_append, List.not_mem_nil, or_false] at hp ⊢
    rcases hp with hp | hp | hp | hp <;> simp [hp]
  · simp only [List.mem_cons, List.mem_append, List.nil_append] at hp
    rcases hp with rfl | rfl | hp
    · exact hf
    · exact apart_of (it := itR x y) N (by simp) (List.mem_cons_self) (show Value.type "range_iterator" ≠ Value.type "list" by decide)
    · obtain ⟨vs, k, e⟩ := t p hp
      refine apart_of (it := itR x y) (o := p.2) N (by simp) (by simp [hp]) ?_
      rw [e]
      exact (show Value.type "range_iterator" ≠ Value.type "tuple" by decide)
theorem Fr.once {h₀ h : Heap} {L : Addr} {x : Str} {u v : Option Value} {m : Str → Option Value} (F : Fr h₀ L h (fun y => if y = x then u else if y = x then v else m y)) : Fr h₀ L h (fun y => if y = x then u else m y) := by
  have e : (fun y => if y = x then u else if y = x then v else m y) = fun y => if y = x then u else m y := by
    funext y
    by_cases q : y = x
    · rw [if_pos q, if_pos q]
    · rw [if_neg q, if_neg q, if_neg q]
  rw [e] at F
  exact F
theorem rows125 : True := by
  (k_with "@UnrEnd" => ((k_here; k_dflt (refine' unrEnd_J ?Fv107w ?Nv107w ?tv107w ?hfv107w ?_; (case Fv107w => first | (refine' Fr.once ?F2v107w; (case F2v107w => k_asm)) | k_asm); (case Nv107w => k_asm); (case tv107w => with_reducible assumption); (case hfv107w => first | with_reducible assumption | k_ne)))))
  trivial
theorem sl0 {a c : Value} : (slicePick #[a, c] none (some 0) none).toList = [] := by rfl
theorem sl1 {a c : Value} : (slicePick #[a, c] none (some 1) none).toList = [a] := by rfl
theorem sl2 {a c : Value} : (slicePick #[a, c] none (some 2) none).toList = [a, c] := by rfl
theorem slice_tmp {prog : Program} {w : World} {A : Around} {E : Value → Shared → Prop} {s : Shared} {h₀ : Heap} {L l : Addr} {m : Str → Option Value} {news : Bag} {value slice : Expr} {items : Array Value} {vl vu : Value} {lo hi : Option Int} {zs : List Value} {Q : Value → Shared → Prop}
    (F : Fr h₀ L s.heap m) (N : News h₀ L s.heap news) (hl : s.heap.IsList l items) (pl : IsPart vl lo) (pu : IsPart vu hi) (e : (slicePick items lo hi none).toList = zs)
    (h : ∀ D h', Fr h₀ L h' m → News h₀ L h' ((D, listOf zs.toArray 0) :: news) → (∀ p ∈ news, p.1 < D) → Q (.ref D) { s with heap := h' })
    (hs : subscripted slice false (.ref l) (.ref s.heap.objs.size) = operate [.ref s.heap.objs.size, .ref l] (getItem (.ref l) (.ref s.heap.objs.size))) (hsz : items.size ≤ sizeLine) :
    wpAny (model prog w) A (subscriptTail value slice (.ref l) (.ref s.heap.objs.size)) Q E { s with heap := s.heap.push { cls := .type "slice", data := .fields #[vl, vu, .none] } } := by
  refine tail_any (Heap.IsList.typeIs (s := { s with heap := s.heap.push { cls := .type "slice", data := .fields #[vl, vu, .none] } }) (hl.push _)) list_getitem_lookup
    (wpAny_getItem_list_slice (hl.push _) (Heap.IsSliceOf.new ..) pl pu .none (by simp) ?_ hsz) hs
  have F1 := F.push { cls := .type "slice", data := .fields #[vl, vu, .none] }
  have N0 := N.grown (h' := s.heap.push { cls := .type "slice", data := .fields #[vl, vu, .none] }) fun _ _ e => Heap.get?_push_of_some _ e
  have N1 := News.push F1 N0 { cls := .type "list", data := .seq (slicePick items lo hi none) }
  have e2 : slicePick items lo hi none = zs.toArray := by rw [← e, Array.toArray_toList]
  rw [e2] at N1 ⊢
  exact h _ _ (F1.push _) N1 fun p hp => Heap.lt_size (N0 p hp).1
theorem rows126 : True := by
  (k_with "@subscriptTail" => ((k_here; (with_reducible show wpAny _ _ (subscriptTail _ (PySem.Expr.Slice _ _ none _) (Value.ref _) (Value.ref _)) _ _ _); k_dflt (refine' slice_tmp ?Fv108w ?Nv108w ?lv108w ?pv108w ?qv108w ?ev108w ?_ ?sv108w ?zv108w; (case Fv108w => k_asm); (case Nv108w => k_asm); (case lv108w => exact News.isList (by k_asm) (by walk_at "MyMem")); (case pv108w => kmk_part); (case qv108w => kmk_part); (case ev108w => first | exact sl0 | exact sl1 | exact sl2); (case sv108w => with_unfolding_all rfl); (case zv108w => exact Nat.le_of_ble_eq_true rfl)); intro D9v108w h9v108w F9v108w N9v108w l9v108w; (try k_lt l9v108w); (try k_sweep))))
  (k_with "@pyIter ref" => ((k_here; (with_reducible show wpAny _ _ (pyIter (Value.ref _)) (fun it s₂ => LoopAtV _ _ _ _ _ _ _ _ _ it s₂) _ _); k_dflt (refine' iter_listUnr ?hhv109w ?Fv109w ?Nv109w ?mv109w ?cv109w ?dv109w ?_; (case hhv109w => exact rfl); (case Fv109w => k_asm); (case Nv109w => k_asm); (case mv109w => walk_at "MyMem"); (case cv109w => exact rfl); (case dv109w => exact rfl)); intro i9v109w l9v109w; (try k_lt l9v109w))))
  trivial
theorem law_type {w : World} {mean : ExcName → Option Value} {mg mb : Str → Option Value} {J fd : Addr} {fo : Obj} {kvs : List (Str × Value)} {f : Str → Option Dat} (n : Nat) : TypeAt w mean mg mb J fd fo kvs f n := by
  induction n with
  | zero => exact law_type0
  | succ n ih => exact law_typeS ih
theorem type_top {w : World} {mean : ExcName → Option Value} {mg mb : Str → Option Value} {J fd : Addr} {fo : Obj} {kvs : List (Str × Value)} {f : Str → Option Dat}
    {A : Around} {h₀ : Heap} {L : Addr} {m : Str → Option Value} {s : Shared} {news keep bag : Bag} {d : Nat} {a b : Int} {ta tb tn : Tok} {nj : Nat} {Q E : Value → Shared → Prop}
    (Am : Amb w mean mg mb A h₀ L (d + 8)) (F : Fr h₀ L s.heap m) (N : News h₀ L s.heap news) (P : Parts news J (jar a b ta tb nj) keep bag) (ok : JarOk a b) (hm : (fd, fo) ∈ keep) (hd : fo.IsDictOf (strKind Challenge.rw_xm0574_01.prog w) kvs) (lo : (fd == sysModules) = false) (fk : Fok kvs f bag)
    (ret : ∀ (r : Addr) v1 v2 nt d1 e1 (a b : Int) ta tb n bag' h' tk', JarOk a b → Fr h₀ L h' m → News h₀ L h' ((J, jar a b ta tb n) :: (keep ++ bag')) → (∀ p ∈ bag, p ∈ bag') → Tups bag' → (r, tup [v1, v2] nt) ∈ bag' → DatIn bag' v1 d1 → DatIn bag' v2 e1 → Fill f 3 d1 e1 → okD 9 e1 = true → Fok kvs f bag' → Q (.ref r) { s with heap := h', toks := tk' }) :
    wpAny (model Challenge.rw_xm0574_01.prog w) A (call (.ref 78) [.ref J, .int 3 tn, .ref fd]) Q E s :=
  TypeAt.use (law_type 3) (d := d) (Am.mono (by omega)) F N P ok hm hd lo fk (by rfl) fun r h' tk' H => by
    obtain ⟨a, b, ta, tb, n, bag', ok', F', N', s', t', _, d1, e1, hi, hf, ho⟩ := H
    cases hi with | tuple hm2 hall =>
    cases hall with | cons q1 hall =>
    cases hall with | cons q2 hall =>
    cases hall
    exact ret _ _ _ _ d1 e1 a b ta tb n bag' h' tk' ok' F' N' s' t' hm2 q1 q2 hf ho (fk.mono s')
theorem fil_top {w : World} {mean : ExcName → Option Value} {mg mb : Str → Option Value} {A : Around} {h₀ : Heap} {L fd : Addr} {fo : Obj} {m : Str → Option Value} {s : Shared} {news bag : Bag} {kvs : List (Str × Value)} {f : Str → Option Dat} {d : Nat} {Q E : Value → Shared → Prop} {v1 : Value} {d1 e1 : Dat}
    (Am : Amb w mean mg mb A h₀ L (d + 3 + 1)) (F : Fr h₀ L s.heap m) (N : News h₀ L s.heap news) (hb : ∀ p ∈ bag, p ∈ news) (hm : (fd, fo) ∈ news) (hd : fo.IsDictOf (strKind Challenge.rw_xm0574_01.prog w) kvs) (lo : (fd == sysModules) = false) (fk : Fok kvs f bag) (ia : DatIn bag v1 d1) (hf : Fill f 3 d1 e1)
    (ret : ∀ r tl h' tk', Fr h₀ L h' m → News h₀ L h' (tl ++ news) → DatIn (tl ++ bag) r e1 → Q r { s with heap := h', toks := tk' }) :
    wpAny (model Challenge.rw_xm0574_01.prog w) A (call (.ref 26) [v1, .ref fd]) Q E s :=
  FilledAt.use (filled_n 3) Am F N hb ⟨hm, hd, lo, fun x => by
    rcases fk x with h | ⟨v, d, a, b, c, e⟩
    · exact .inl h
    · exact .inr ⟨v, d, a, b, c⟩⟩ ia hf fun r h' tk' H => by
    obtain ⟨tl, F', N', _, d'⟩ := H
    exact ret r tl h' tk' F' N' d'
theorem rows127 : True := by
  (k_with "@call ref" => ((k_here; (with_reducible show wpAny _ _ (call (Value.ref 78) _) _ _ _); k_dflt (refine' type_top ?amv110w ?Fv110w ?Nv110w ?Pv110w ?okv110w ?hmv110w ?dv110w ?lov110w ?fkv110w ?_; (case amv110w => assumption); (case Fv110w => k_asm); (case Nv110w => k_asm); (case Pv110w => walk_at "MyParts"); (case okv110w => assumption); (case hmv110w => walk_at "MyMem"); (case dv110w => first | with_reducible assumption | assumption); (case lov110w => first | with_reducible assumption | assumption); (case fkv110w => first | exact fok_nil | with_reducible assumption | (refine' Fok.mono ?s9v110w ?a9v110w; (case a9v110w => with_reducible assumption); (case s9v110w => walk_at "MyChain")))); intro r9v110w v9v110w u9v110w nt9v110w d9v110w e9v110w a9v110w b9v110w ta9v110w tb9v110w n9v110w bag9v110w h9v110w tk9v110w ok9v110w F9v110w N9v110w sub9v110w tt9v110w hm9v110w iv9v110w iu9v110w hf9v110w ho9v110w fk9v110w; (try k_sweep))))
  (k_with "@call ref" => ((k_here; (with_reducible show wpAny _ _ (call (Value.ref 26) _) _ _ _); k_dflt (refine' fil_top ?amv111w ?Fv111w ?Nv111w ?hbv111w ?hmv111w ?hdv111w ?lov111w ?fkv111w ?iav111w ?hfv111w ?_; (case amv111w => assumption); (case Fv111w => k_asm); (case Nv111w => k_asm); (case hfv111w => with_reducible assumption); (case iav111w => with_reducible assumption); (case fkv111w => with_reducible assumption); (case hbv111w => walk_at "MyChain"); (case hmv111w => walk_at "MyMem"); (case hdv111w => assumption); (case lov111w => assumption)); intro r9v111w tl9v111w h9v111w tk9v111w F9v111w N9v111w d9v111w; (try k_sweep))))
  (k_with "@compareOp Eq" => ((k_here; (with_reducible show wpAny _ _ (compareOp CmpOp.Eq _ _) _ _ _); k_dflt (refine' eqD_same ?Nv112w ?iav112w ?ibv112w ?ov112w ?qv112w ?uv112w ?_; (case ov112w => with_reducible assumption); (case Nv112w => k_asm); (case iav112w => walk_at "MyIn"); (case ibv112w => walk_at "MyIn"); (case qv112w => decide); (case uv112w => (refine' units_of ?amv112w; (case amv112w => assumption)))); k_whole)))
  (k_with "MyAllD" => (first | exact all_nil | (refine' all_cons ?i9v113w ?o9v113w ?r9v113w; (case i9v113w => walk_at "MyIn"); (case o9v113w => decide +kernel); (case r9v113w => walk_at "MyAllD"))))
  (k_with "@call ref" => ((k_here; (with_reducible show wpAny _ _ (call (Value.ref 47) _) _ _ _); k_dflt (refine' one_dat ?amv114w ?Fv114w ?Nv114w ?Pv114w ?okv114w ?mv114w ?v1v114w ?v2v114w ?allv114w ?_; (case amv114w => assumption); (case Fv114w => k_asm); (case Nv114w => k_asm); (case Pv114w => walk_at "MyParts"); (case okv114w => assumption); (case mv114w => walk_at "MyMem"); (case v1v114w => exact Nat.le_of_ble_eq_true rfl); (case v2v114w => exact Nat.le_of_ble_eq_true rfl); (case allv114w => walk_at "MyAllD")); intro r9v114w d9v114w a9v114w b9v114w ta9v114w tb9v114w n9v114w h9v114w tk9v114w iv9v114w od9v114w ok9v114w F9v114w N9v114w tt9v114w; (try k_sweep))))
  trivial
theorem found_setJ {prog : Program} {w : World} {A : Around} {E : Value → Shared → Prop} {s : Shared} {h₀ : Heap} {L J I D fd : Addr} {m : Str → Option Value} {news keep bag : Bag} {fo it : Obj} {kvs : List (Str × Value)} {f : Str → Option Dat} {a b : Int} {ta tb : Tok} {n c : Nat} {x y : Str} {t u : Tok} {v : Value} {vs : List Value} {d : Dat} {z : Nat} {Q : Unit → Shared → Prop}
    (F : Fr h₀ L s.heap m) (N : News h₀ L s.heap news) (P : Parts news J (jar a b ta tb n) keep bag) (pa : (fd, fo) ∈ news) (da : fo.IsDictOf (strKind prog w) kvs) (hz : kvs.length ≤ z) (hz2 : z ≤ 1) (fk : Fok kvs f bag) (iv : DatIn bag v d) (od : okD 3 d = true)
    (hit : it.cls = .type "list_iterator") (hI : (I, it) ∈ news) (hD : (D, listOf (Value.str y u :: vs).toArray c) ∈ news)
    (k : ∀ h' o' kvs' f', Fr h₀ L h' m → News h₀ L h' ((J, jar a b ta tb n) :: ([(fd, o'), (I, it), (D, listOf (Value.str y u :: vs).toArray c)] ++ bag)) → o'.IsDictOf (strKind prog w) kvs' → kvs'.length ≤ z + 1 → Fok kvs' f' bag → Tups bag → Q () { s with heap := h', toks := s.toks + 1 }) : wpAny (model prog w) A (setItem (.ref fd) (.str x t) v) Q E s := by
  refine found_set (keep := (J, jar a b ta tb n) :: ([(I, it), (D, listOf (Value.str y u :: vs).toArray c)] ++ bag)) F N pa da hz hz2 fk iv od (fun p hp => ?_) (fun p hp => ?_) fun h' o' kvs' f' F' N' hd hz' fk' => k h' o' kvs' f' F' (News.sub N' fun p hp => ?_) hd hz' fk' P.tups
  · simp only [List.mem_cons, List.mem_append, List.not_mem_nil, or_false] at hp
    rcases hp with rfl | (rfl | rfl) | hp
    · exact P.sub _ (.head _)
    · exact hI
    · exact hD
    · exact P.sub _ (.tail _ (List.mem_append_right _ hp))
  · simp only [List.mem_cons, List.mem_append, List.not_mem_nil, or_false] at hp
    rcases hp with rfl | (rfl | rfl) | hp
    · exact (show Value.type "list" ≠ Value.type "dict" by decide)
    · dsimp only; rw [hit]; exact (show Value.type "list_iterator" ≠ Value.type "dict" by decide)
    · exact (show Value.type "list" ≠ Value.type "dict" by decide)
    · obtain ⟨vs, k, e⟩ := P.tups p hp
      rw [e]
      exact (show Value.type "tuple" ≠ Value.type "dict" by decide)
  · simp only [List.mem_cons, List.mem_append, List.not_mem_nil, or_false] at hp ⊢
    rcases hp with hp | (hp | hp | hp) | hp <;> simp [hp]
theorem rows128 : True := by
  (k_with "@setItem ref str" => ((k_here; (with_reducible show wpAny _ _ (setItem (Value.ref _) (Value.str _ _) _) _ _ _); k_dflt (refine' found_setJ ?Fv115w ?Nv115w ?Pv115w ?pav115w ?dav115w ?hzv115w ?hz2v115w ?fkv115w ?ivv115w ?odv115w ?hitv115w ?hIv115w ?hDv115w ?_; (case Fv115w => k_asm); (case Nv115w => k_asm); (case Pv115w => walk_at "MyParts"); (case pav115w => walk_at "MyMem"); (case dav115w => assumption); (case hzv115w => first | exact Nat.le_refl 0 | with_reducible assumption); (case hz2v115w => decide); (case fkv115w => first | exact fok_nil | with_reducible assumption | (refine' Fok.mono ?s9v115w ?a9v115w; (case a9v115w => with_reducible assumption); (case s9v115w => walk_at "MyChain"))); (case ivv115w => with_reducible assumption); (case odv115w => with_reducible assumption); (case hitv115w => with_reducible assumption); (case hIv115w => walk_at "MyMem"); (case hDv115w => walk_at "MyMem")); intro h9v115w o9v115w kvs9v115w f9v115w F9v115w N9v115w hd9v115w hz9v115w fk9v115w tt9v115w; (try k_sweep))))
  trivial
theorem unrEnd_L {prog : Program} {w : World} {h₀ h' : Heap} {L I J D fd : Addr} {fo it no : Obj} {rest : (Str → Option Value) → Bag → Prop} {s₁ : Shared} {tk : Nat} {m' : Str → Option Value} {a b : Int} {ta tb : Tok} {n : Nat} {bag' : Bag} {kvs : List (Str × Value)}
    (F : Fr h₀ L h' m') (N : News h₀ L h' ((J, jar a b ta tb n) :: ([(fd, fo), (I, it), (D, no)] ++ bag'))) (t : Tups bag') (hd : fo.IsDictOf (strKind prog w) kvs) (hit : it.cls = .type "list_iterator") (hno : no.cls = .type "list")
    (r : rest m' ((fd, fo) :: (J, jar a b ta tb n) :: ([(D, no)] ++ bag'))) : UnrEnd h₀ L s₁ I it (fun m' n' => (D, no) ∈ n' ∧ rest m' n') { s₁ with heap := h', toks := tk } := by
  refine UnrEnd.intro F N ((fd, fo) :: (J, jar a b ta tb n) :: ([(D, no)] ++ bag')) (fun p hp => ?_) (fun p hp => ?_) ⟨by simp, r⟩
  · simp only [List.mem_cons, List.mem_append, List.not_mem_nil, or_false] at hp ⊢
    rcases hp with hp | hp | hp | hp | hp <;> simp [hp]
  · simp only [List.mem_cons, List.mem_append, List.not_mem_nil, or_false] at hp
    rcases hp with rfl | rfl | rfl | hp
    · refine apart_of (it := it) (o := fo) N (by simp) (by simp) ?_
      rw [hit, dict_ne hd]; exact (show Value.type "list_iterator" ≠ Value.type "dict" by decide)
    · refine apart_of (it := it) N (by simp) (List.mem_cons_self) ?_
      rw [hit]; exact (show Value.type "list_iterator" ≠ Value.type "list" by decide)
    · refine apart_of (it := it) (o := no) N (by simp) (by simp) ?_
      rw [hit, hno]; exact (show Value.type "list_iterator" ≠ Value.type "list" by decide)
    · obtain ⟨vs, k, e⟩ := t p hp
      refine apart_of (it := it) (o := p.2) N (by simp) (by simp [hp]) ?_
      rw [hit, e]
      exact (show Value.type "list_iterator" ≠ Value.type "tuple" by decide)
theorem rows129 : True := by
  (k_with "@UnrEnd" => ((k_here; k_dflt (refine' unrEnd_L ?Fv116w ?Nv116w ?tv116w ?hdv116w ?hitv116w ?hnov116w ?_; (case Fv116w => k_asm); (case Nv116w => k_asm); (case tv116w => with_reducible assumption); (case hdv116w => assumption); (case hitv116w => with_reducible assumption); (case hnov116w => exact rfl)))))
  (k_with "@call type:dict" => ((k_here; (with_reducible show wpAny _ _ (call (Value.type "dict") [Value.ref _]) _ _ _); k_dflt (refine' found_dict ?Fv117w ?Nv117w ?pav117w ?dav117w ?lav117w ?hbv117w ?hzv117w ?_; (case Fv117w => k_asm); (case Nv117w => k_asm); (case pav117w => walk_at "MyMem"); (case dav117w => assumption); (case lav117w => assumption); (case hbv117w => exact Top.nolimit (Amb.T (by assumption))); (case hzv117w => first | exact Nat.zero_le _ | omega)); intro d9v117w h9v117w o9v117w F9v117w N9v117w l9v117w lo9v117w hd9v117w; (try k_lt l9v117w); (try k_sweep))))
  trivial
theorem units_of65 {w : World} {mean : ExcName → Option Value} {mg mb : Str → Option Value} {A : Around} {h₀ : Heap} {L : Addr} {d : Nat} (Am : Amb w mean mg mb A h₀ L d) : A.units + 65 < cLine := by
  have := Am.units
  show A.units + 65 < 9900
  omega
theorem rows130 : True := by
  (k_with "@compareOp Eq ref ref" => ((k_here; (with_reducible show wpAny _ _ (compareOp CmpOp.Eq _ _) _ _ _); k_dflt (refine' found_eq ?Nv118w ?sv118w ?fkv118w ?pav118w ?pbv118w ?dav118w ?dbv118w ?lav118w ?lbv118w ?uv118w ?_; (case Nv118w => k_asm); (case pav118w => walk_at "MyMem"); (case pbv118w => walk_at "MyMem"); (case dav118w => assumption); (case dbv118w => assumption); (case fkv118w => first | exact fok_nil | with_reducible assumption); (case sv118w => walk_at "MyChain"); (case lav118w => assumption); (case lbv118w => assumption); (case uv118w => (refine' units_of65 ?amv118w; (case amv118w => assumption)))); k_whole)))
  trivial
/-- what the loop over the names leaves -/
inductive AfterF (prog : Program) (w : World) (s : Shared) (h₀ : Heap) (L : Addr) (m : Str → Option Value) (fd J : Addr) (fl : Flow) (s' : Shared) : Prop
  | mk (h' : Heap) (tk' : Nat) (vo : Option Value) (fo : Obj) (kvs : List (Str × Value)) (f : Str → Option Dat) (a b : Int) (ta tb : Tok) (n : Nat) (keep bag : Bag) (e1 : fl = .next) (e2 : s' = { s with heap := h', toks := tk' })
      (F : Fr h₀ L h' (fun y => if y = ("name" : Str) then vo else m y)) (N : News h₀ L h' ((J, jar a b ta tb n) :: (keep ++ bag))) (off : OffJ J keep) (t : Tups bag) (hm : (fd, fo) ∈ keep) (ok : JarOk a b) (hd : fo.IsDictOf (strKind prog w) kvs) (hz : kvs.length ≤ 2) (fk : Fok kvs f bag) : AfterF prog w s h₀ L m fd J fl s'
theorem afterF {prog : Program} {w : World} {s : Shared} {h₀ : Heap} {L : Addr} {m m' : Str → Option Value} {fd J : Addr} {h' : Heap} {tk' : Nat} {fo : Obj} {kvs : List (Str × Value)} {f : Str → Option Dat} {a b : Int} {ta tb : Tok} {n : Nat} {news keep bag : Bag}
    (F : Fr h₀ L h' m') (N : News h₀ L h' news) (P : Parts news J (jar a b ta tb n) keep bag) (hm : (fd, fo) ∈ keep) (hd : fo.IsDictOf (strKind prog w) kvs) (hy : ∀ y, y ≠ ("name" : Str) → m' y = m y) (ok : JarOk a b) (hz : kvs.length ≤ 2) (fk : Fok kvs f bag) :
    AfterF prog w s h₀ L m fd J .next { s with heap := h', toks := tk' } := by
  have e : m' = fun y => if y = ("name" : Str) then m' ("name" : Str) else m y := by
    funext y
    by_cases q : y = ("name" : Str)
    · rw [if_pos q, q]
    · rw [if_neg q, hy y q]
  rw [e] at F
  exact ⟨h', tk', _, fo, kvs, f, a, b, ta, tb, n, keep, bag, rfl, rfl, F, News.sub N P.sub, P.off, P.tups, hm, ok, hd, hz, fk⟩
theorem cutF {prog : Program} {w : World} {M : Model} {A : Around} {E : Value → Shared → Prop} {s : Shared} {h₀ : Heap} {L : Addr} {m : Str → Option Value} {fd J : Addr} {fo : Obj} {kvs : List (Str × Value)} {a b : Int} {ta tb : Tok} {n : Nat} {news keep bag : Bag} {stmt : Stmt} {env : Env} {Q : Flow → Shared → Prop}
    (F : Fr h₀ L s.heap m) (N : News h₀ L s.heap news) (hJ : (J, jar a b ta tb n) ∈ news) (P : Parts news J (jar a b ta tb n) keep bag) (hd : fo.IsDictOf (strKind prog w) kvs) (hm : (fd, fo) ∈ keep)
    (h1 : wpAny M A (exec stmt env) (fun fl s' => AfterF prog w s h₀ L m fd J fl s') E s)
    (h2 : ∀ h' tk' vo fo kvs f a b ta tb n keep bag, Fr h₀ L h' (fun y => if y = ("name" : Str) then vo else m y) → News h₀ L h' ((J, jar a b ta tb n) :: (keep ++ bag)) → OffJ J keep → Tups bag → (fd, fo) ∈ keep → JarOk a b → fo.IsDictOf (strKind prog w) kvs → kvs.length ≤ 2 → Fok kvs f bag → Q .next { s with heap := h', toks := tk' }) : wpAny M A (exec stmt env) Q E s :=
  wpAny_mono h1 (fun fl s' H => by
    obtain ⟨h', tk', vo, fo, kvs, f, a, b, ta, tb, n, keep, bag, e1, e2, F, N, off, t, hm, ok, hd, hz, fk⟩ := H
    subst e1 e2
    exact h2 h' tk' vo fo kvs f a b ta tb n keep bag F N off t hm ok hd hz fk) fun _ _ x => x
theorem rows131 : True := by
  (k_with "@exec For Name Subscript cons nil" => ((k_here; k_dflt (refine' cutF ?Fv119w ?Nv119w ?hJv119w ?Pv119w ?hdv119w ?hmv119w ?_ ?_; (case Fv119w => k_asm); (case Nv119w => k_asm); (case hJv119w => walk_at "MyMem"); (case Pv119w => walk_at "MyParts"); (case hdv119w => assumption); (case hmv119w => walk_at "MyMem")); (with_reducible rename Fr _ _ _ _ => lF'); (with_unfolding_all refine' For_invVF lF' ?k1v119w ?k2v119w ?_; (case k1v119w => exact rfl); (case k2v119w => exact rfl); k_whole); rotate_left; intro h9v119w tk9v119w vo9v119w fo9v119w kvs9v119w f9v119w a9v119w b9v119w ta9v119w tb9v119w n9v119w keep9v119w bag9v119w F9v119w N9v119w off9v119w tt9v119w hm9v119w ok9v119w hd9v119w hz9v119w fk9v119w; (try k_sweep); (try dsimp only); rotate_left)))
  (k_with "@AfterF" => ((k_dflt (refine' afterF ?Fv120w ?Nv120w ?Pv120w ?hmv120w ?hdv120w ?hyv120w ?okv120w ?hzv120w ?fkv120w; (case Fv120w => k_asm); (case Nv120w => k_asm); (case Pv120w => walk_at "MyParts"); (case hmv120w => walk_at "MyMem"); (case hdv120w => assumption); (case hyv120w => (intro y9v120w hy9v120w; first | rfl | (rw [if_neg hy9v120w]; done) | (rw [if_neg hy9v120w, if_neg hy9v120w]; done))); (case okv120w => assumption); (case hzv120w => first | exact Nat.zero_le _ | omega); (case fkv120w => first | exact fok_nil | with_reducible assumption | (refine' Fok.mono ?s9v120w ?a9v120w; (case a9v120w => with_reducible assumption); (case s9v120w => walk_at "MyChain")))))))
  trivial
-- part M2
theorem main : PySem.Challenge.rw_xm0574_01.Holds := hd (by
  k_go0
  all_goals try k_fold
  (with_reducible rename (hd.heap_39 _).In _ => KX9)
  (with_reducible rename Top _ _ _ _ _ _ => T9)
  refine' amb_top ?X ?T ?hf ?hk ?_
  (case X => exact KX9)
  (case T => exact T9)
  (case hk => exact rfl)
  (case hf => exact rfl)
  intro Am
  have tn := tups_nil
  (try ((with_reducible rename Ground _ _ _ _ _ _ _ _ _ => z1); clear z1))
  (try ((with_reducible rename Tables _ _ _ _ => z2); clear z2))
  (try ((with_reducible rename TopE _ _ _ _ => z3); clear z3))
  (try ((with_reducible rename TopW _ _ _ => z4); clear z4))
  (try ((with_reducible rename Flt.MathXP _ _ _ => z5); clear z5))
  (try ((with_reducible rename LooseAre _ _ _ => z6); clear z6))
  (try ((with_reducible rename BMod _ _ _ _ _ => z7); clear z7))
  (try ((with_reducible rename Below _ _ _ _ => z8); clear z8))
  k_steps
  all_goals walk_at "AfterF")
end Mine
theorem PySem.Challenge.cw_xm0574_01_holds : PySem.Challenge.rw_xm0574_01.Holds := by
  exact Mine.main
