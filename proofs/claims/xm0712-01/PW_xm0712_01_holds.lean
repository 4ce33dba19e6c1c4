import PyProof.Rows.All
import Wide.All
import OpenK.AllK
import Wide.FinOn
import PySem.Challenge.RW_xm0712_01
open PySem PySem.W PyProof.Rows
set_option Elab.async false
namespace Mine

section PartHd
set_option maxRecDepth 100000 in
set_option maxHeartbeats 8000000 in
open_top hd for PySem.Challenge.rw_xm0712_01
end PartHd

section PartSB
theorem tok_gen {α : Type} {M : Model} {A : Around} {t : Sem α} {Q : α → Shared → Prop} {E : Value → Shared → Prop} {h : Heap} {g : Array GenState} {d : Drawn} {X : Nat} {o : OsState} (H : ∀ tk, wpAny M A t Q E ⟨h, g, d, tk, o⟩) : wpAny M A t Q E ⟨h, g, d, X, o⟩ := H X
local macro_rules | `(tactic| k_room) => `(tactic| ktr_room)
local macro_rules | `(tactic| k_units) => `(tactic| ktr_units)
abbrev tupO (vs : List Value) (n : Nat) : Obj := { cls := .type "tuple", data := .seq vs.toArray n }
abbrev sideO (P : Params) (k1 k2 k3 k4 k5 : Tok) (v1 v2 v3 v4 v5 : Value) : Obj :=
  dictOf [{ hash := PyData.keyHash P (Str.ofString "x1"), key := Value.str (Str.ofString "x1") k1, val := v1 },
    { hash := PyData.keyHash P (Str.ofString "y1"), key := Value.str (Str.ofString "y1") k2, val := v2 },
    { hash := PyData.keyHash P (Str.ofString "x2"), key := Value.str (Str.ofString "x2") k3, val := v3 },
    { hash := PyData.keyHash P (Str.ofString "y2"), key := Value.str (Str.ofString "y2") k4, val := v4 },
    { hash := PyData.keyHash P (Str.ofString "way"), key := Value.str (Str.ofString "way") k5, val := v5 }] 5
/-- a side: upper end, lower end, way -/
structure Sd where
  x1 : Int
  y1 : Int
  x2 : Int
  y2 : Int
  way : Int
def side (p q : Int × Int) : Option Sd :=
  if p.2 = q.2 then none else if p.2 < q.2 then some ⟨p.1, p.2, q.1, q.2, 1⟩ else some ⟨q.1, q.2, p.1, p.2, -1⟩
inductive SideIn (P : Params) (news : List (Addr × Obj)) : Value → Sd → Prop
  | mk {x d : Addr} {k1 k2 k3 k4 k5 t1 t2 t3 t4 t5 : Tok} {e : Sd} : (x, instObj 59 d) ∈ news →
      (d, sideO P k1 k2 k3 k4 k5 (.int e.x1 t1) (.int e.y1 t2) (.int e.x2 t3) (.int e.y2 t4) (.int e.way t5)) ∈ news → SideIn P news (.ref x) e
theorem SideIn.mono {P : Params} {news news' : List (Addr × Obj)} {v : Value} {e : Sd} (h : SideIn P news v e) (hs : ∀ p ∈ news, p ∈ news') : SideIn P news' v e := by
  cases h with
  | mk a b => exact .mk (hs _ a) (hs _ b)
set_option maxRecDepth 100000 in
set_option maxHeartbeats 8000000 in
theorem sb_spec {w : World} {loose : List Str} {mean : ExcName → Option Value} {mg mb : Str → Option Value}
    {dp un : Nat} {gd : Option (List Code)} {cn : Str} {cs : Scope} {a : Addr} {ccd : Value} {cl : List (Str × Addr)} {outer : List Env} {A₀ : Around} {base h₀ : Heap} {L : Addr} {m : Str → Option Value} {news : List (Addr × Obj)} {s : Shared}
    {Q E : Value → Shared → Prop} {o u : Addr} {x1 y1 x2 y2 : Int} {t1 t2 t3 t4 : Tok} {n1 n2 : Nat}
    (B : Below A₀ base outer h₀) (F : Fr h₀ L s.heap m) (X : (hd.heap_39 w.params).In h₀) (N : News h₀ L s.heap news) (T : Top hd.view_39 loose mean mg mb h₀) (hk : cs.kind = .function)
    (ho : (o, tupO [.int x1 t1, .int y1 t2] n1) ∈ news) (hu : (u, tupO [.int x2 t3, .int y2 t4] n2) ∈ news)
    (hdp : dp + 20 < recursionLimit) (hun : un + 200 < cLine)
    (retN : side (x1, y1) (x2, y2) = none → ∀ h' tk', Fr h₀ L h' m → News h₀ L h' news → Q .none { s with heap := h', toks := tk' })
    (retS : ∀ e, side (x1, y1) (x2, y2) = some e → ∀ x d k1 k2 k3 k4 k5 u1 u2 u3 u4 u5 h' tk', Fr h₀ L h' m →
      News h₀ L h' ((x, instObj 59 d) :: (d, sideO w.params k1 k2 k3 k4 k5 (.int e.x1 u1) (.int e.y1 u2) (.int e.x2 u3) (.int e.y2 u4) (.int e.way u5)) :: news) →
      (∀ p ∈ news, p.1 < d) → d < x → Q (.ref x) { s with heap := h', toks := tk' }) :
    wpAny (model PySem.Challenge.rw_xm0712_01.row.prog w) (ktrTop dp un gd cn cs L a ccd cl outer) (call (.ref 70) [.ref o, .ref u]) Q E s := by
  revert X; k_fill; intro X
  have hKd9 := kdMark
  refine wpAny_call ?_
  k_dflt ktr_enter
  k_steps
  · refine retN (by simp_all [side]) _ _ (by k_asm) (by k_asm)
  · refine retS ⟨x1, y1, x2, y2, 1⟩ (by simp_all [side]) _ _ _ _ _ _ _ _ _ _ _ _ _ _ (by k_asm) (by k_asm) ?_ ?_
    all_goals assumption
  · refine retS ⟨x2, y2, x1, y1, -1⟩ (by simp_all [side]) _ _ _ _ _ _ _ _ _ _ _ _ _ _ (by k_asm) (by k_asm) ?_ ?_

    all_goals assumption
end PartSB

section PartZT
section
variable {prog : Program} {w : World} {A : Around} {E : Value → Shared → Prop} {s : Shared}

theorem nextOf_tup {it t : Addr} {i : Nat} {items : Array Value} {x : Value} {Q : Value → Shared → Prop} (hit : s.heap.IsTupleIter it t i) (ht : s.heap.IsTuple t items) (hx : items[i]? = some x)
    (hQ : ∀ h', h'.IsTupleIter it t (i + 1) → Heap.SameBut it s.heap h' → Q x { s with heap := h' }) :
    wpAny (model prog w) A (Builtin.SmallTypes.nextOf (.ref it)) Q E s := by
  obtain ⟨o, ho, hc, hd⟩ := id hit
  obtain ⟨ol, hol, _, nl, hdl⟩ := ht
  unfold Builtin.SmallTypes.nextOf
  refine wpAny_bind (wpAny_callSpecial?_slot (name := Str.ofString "__next__") hit.typeIs F.slot_tuple_iterator_next
    (wpAny_call_entry F.slot_tuple_iterator_next hit.typeIs F.entry_tuple_iterator_next ?_ (F.args_tuple_iterator_next_1 _)))
  show wpAny _ _ (field (.ref it) 0 >>= _) _ _ s
  refine wpAny_bind (wpAny_field ho hd (x := .ref t) rfl ?_)
  show wpAny _ _ (if (Value.ref t == Value.none) = true then _ else _) _ _ s
  rw [if_neg (show ¬ ((Value.ref t == Value.none) = true) from Bool.false_ne_true)]
  show wpAny _ _ (field (.ref it) 1 >>= _) _ _ s
  refine wpAny_bind (wpAny_field ho hd (x := .int i 0) rfl ?_)
  show wpAny _ _ (seqItems? (.ref t) >>= _) _ _ s
  refine wpAny_bind (wpAny_seqItems hol hdl ?_)
  simp only [Int.toNat_natCast, hx]
  refine wpAny_bind (wpAny_setField ho hd (by simp) (wpAny_pure ⟨x, rfl, wpAny_pure (hQ _ ?_ (Heap.SameBut.update ..))⟩))
  exact ⟨_, Heap.get?_update_self _ ho (Obj.isFreed_of_fields (Obj.data_mapFields hd _)), (Obj.cls_mapFields ..).trans hc, by
    rw [Obj.data_mapFields hd]; simp [rawInt]⟩

theorem nextOf_tup_end {it t : Addr} {i : Nat} {items : Array Value} {Q : Value → Shared → Prop} (hh : A.handled = none) (hit : s.heap.IsTupleIter it t i) (ht : s.heap.IsTuple t items) (hx : items[i]? = none)
    (hE : ∀ h' e, Heap.ExtBut it s.heap h' → (∃ o, h'.get? e = some o ∧ o.cls = .type "StopIteration") → E (.ref e) { s with heap := h' }) :
    wpAny (model prog w) A (Builtin.SmallTypes.nextOf (.ref it)) Q E s := by
  obtain ⟨o, ho, hc, hd⟩ := id hit
  obtain ⟨ol, hol, _, nl, hdl⟩ := ht
  unfold Builtin.SmallTypes.nextOf
  refine wpAny_bind (wpAny_callSpecial?_slot (name := Str.ofString "__next__") hit.typeIs F.slot_tuple_iterator_next
    (wpAny_call_entry F.slot_tuple_iterator_next hit.typeIs F.entry_tuple_iterator_next ?_ (F.args_tuple_iterator_next_1 _)))
  show wpAny _ _ (field (.ref it) 0 >>= _) _ _ s
  refine wpAny_bind (wpAny_field ho hd (x := .ref t) rfl ?_)
  show wpAny _ _ (if (Value.ref t == Value.none) = true then _ else _) _ _ s
  rw [if_neg (show ¬ ((Value.ref t == Value.none) = true) from Bool.false_ne_true)]
  show wpAny _ _ (field (.ref it) 1 >>= _) _ _ s
  refine wpAny_bind (wpAny_field ho hd (x := .int i 0) rfl ?_)
  show wpAny _ _ (seqItems? (.ref t) >>= _) _ _ s
  refine wpAny_bind (wpAny_seqItems hol hdl ?_)
  simp only [Int.toNat_natCast, hx]
  refine wpAny_bind (wpAny_rule (wpAny_bind (wpAny_setField ho hd (by simp) ?_)))
  show wpAny _ _ (newExc (.type "StopIteration") [] >>= _) _ _ _
  refine wpAny_bind ?_
  simp only [newExc, newTuple]
  refine wpAny_bind (wpAny_newObj_type ?_ (by size_fits))
  refine wpAny_bind (m := firstArgMember _ _) (wpAny_of_eq (a := Value.none) (by first | rfl | (simp only [firstArgMember]; rfl)) ?_)
  refine wpAny_newObj_type ?_ (by size_fits)
  simp only [raiseNew]
  refine wpAny_bind (wpAny_handled ?_)
  first | rw [show A.in1.handled = none from hh] | rw [hh]
  refine wpAny_bind (wpAny_pure (wpAny_throw ?_))
  exact hE _ _ (((Heap.SameBut.update ..).extBut.push _).push _) ⟨_, Heap.get?_push_size _ rfl, rfl⟩

theorem loadAlive {a : Addr} {Q : Option Obj → Shared → Prop} (h : Q (s.heap.get? a) s) : wpAny (model prog w) A (loadIfAlive a) Q E s :=
  fun Γ p _ => by unfold loadIfAlive; rw [Sem.wp_loadIfAlive]; exact h

abbrev ZipAt (h : Heap) (z TI TO : Addr) (f0 f1 : Value) : Prop :=
  h.get? z = some { cls := .type "zip", dict := none, data := .fields #[f0, f1, .bool false, .ref TI, .ref TO], slots := #[] }

/-- the addresses of a zip over two tuples lie apart -/
abbrev Apart (z TI TO i1 i2 t1 t2 : Addr) : Prop := ZipApart z TI TO i1 i2 t1 t2

theorem zip_free_item {z TI TO i1 i2 l1 l2 : Addr} {k1 k2 : Nat} {xs ys : Array Value} {x y a b : Value} {Q : Value → Shared → Prop} (D : Apart z TI TO i1 i2 l1 l2)
    (hz : ZipAt s.heap z TI TO .none (.bool false)) (hTI : IsPair s.heap TI (.ref i1) (.ref i2)) (hTO : IsPair s.heap TO a b)
    (h1 : s.heap.IsTupleIter i1 l1 k1) (h2 : s.heap.IsTupleIter i2 l2 k2) (hl1 : s.heap.IsTuple l1 xs) (hl2 : s.heap.IsTuple l2 ys) (hx : xs[k1]? = some x) (hy : ys[k2]? = some y)
    (hQ : ∀ h', ZipAt h' z TI TO (rawInt s.heap.objs.size) (.bool false) → IsPair h' TO x y → h'.IsTupleIter i1 l1 (k1 + 1) → h'.IsTupleIter i2 l2 (k2 + 1) → IsPair h' s.heap.objs.size x y →
      (∀ c o, c ≠ z → c ≠ TO → c ≠ i1 → c ≠ i2 → s.heap.get? c = some o → h'.get? c = some o) → Q (.ref s.heap.objs.size) { s with heap := h' }) :
    wpAny (model prog w) A (Builtin.«zip.__next__» ⟨[.ref z], []⟩) (fun fin s' => ∃ v, fin = .done (.ret v) ∧ Q v s') E s := by
  show wpAny _ _ (field (.ref z) 2 >>= _) _ _ _
  refine wpAny_bind (wpAny_field hz rfl (x := .bool false) rfl ?_)
  show wpAny _ _ (field (.ref z) 3 >>= _) _ _ _
  refine wpAny_bind (wpAny_field hz rfl (x := .ref TI) rfl ?_)
  refine wpAny_bind (wpAny_seqItems hTI rfl ?_)
  show wpAny _ _ (Builtin.SmallTypes.ownedTupleIsFree (.ref z) >>= _) _ _ _
  refine wpAny_bind ?_
  unfold Builtin.SmallTypes.ownedTupleIsFree
  refine wpAny_bind (wpAny_field hz rfl (x := .none) rfl (wpAny_pure ?_))
  simp only [if_true]
  refine wpAny_bind (wpAny_rule ?_)
  refine wpAny_bind (wpAny_field hz rfl (x := .ref TO) rfl ?_)
  refine wpAny_bind (wpAny_setField_rec hz (by simp) fun h₁ hz₁ hs₁ => ?_)
  replace hz₁ : ZipAt h₁ z TI TO .ellipsis (.bool false) := hz₁
  refine wpAny_bind ?_
  simp only [List.zipIdx_cons, List.zipIdx_nil, List.forIn_cons, List.forIn_nil]
  refine wpAny_bind (wpAny_bind (wpAny_onRaise ?_))
  show wpAny _ _ (Builtin.SmallTypes.nextOf (.ref i1) >>= _) _ _ _
  refine wpAny_bind (nextOf_tup (h1.extBut hs₁.extBut D.i1z) (hl1.extBut hs₁.extBut D.l1z) hx fun h₂ h1₂ hs₂ => wpAny_pure ?_)
  have hTO₂ : IsPair h₂ TO a b := hs₂.extBut _ _ D.TOi1 (hs₁.extBut _ _ D.TOz hTO)
  refine wpAny_bind (wpAny_seqItems hTO₂ rfl ?_)
  refine wpAny_bind (wpAny_updateSeq_pair hTO₂ fun h₃ hTO₃ hs₃ => ?_)
  replace hTO₃ : IsPair h₃ TO x b := hTO₃
  refine wpAny_bind (wpAny_letGo (wpAny_pure ?_))
  refine wpAny_bind (wpAny_bind (wpAny_onRaise ?_))
  show wpAny _ _ (Builtin.SmallTypes.nextOf (.ref i2) >>= _) _ _ _
  refine wpAny_bind (nextOf_tup (((h2.extBut hs₁.extBut D.i2z).extBut hs₂.extBut D.i12.symm).extBut hs₃.extBut D.TOi2.symm)
    (((hl2.extBut hs₁.extBut D.l2z).extBut hs₂.extBut D.l2i1).extBut hs₃.extBut D.l2TO) hy fun h₄ h2₄ hs₄ => wpAny_pure ?_)
  have hTO₄ : IsPair h₄ TO x b := hs₄.extBut _ _ D.TOi2 hTO₃
  refine wpAny_bind (wpAny_seqItems hTO₄ rfl ?_)
  refine wpAny_bind (wpAny_updateSeq_pair hTO₄ fun h₅ hTO₅ hs₅ => ?_)
  replace hTO₅ : IsPair h₅ TO x y := hTO₅
  refine wpAny_bind (wpAny_letGo (wpAny_pure (wpAny_pure ?_)))
  refine wpAny_bind (wpAny_seqItems hTO₅ rfl ?_)
  refine wpAny_bind (wpAny_newTuple ?_)
  have hsz : h₅.objs.size = s.heap.objs.size := by rw [hs₅.1, hs₄.1, hs₃.1, hs₂.1, hs₁.1]
  have hz₅ : ZipAt h₅ z TI TO .ellipsis (.bool false) := hs₅.extBut _ _ D.TOz.symm (hs₄.extBut _ _ D.i2z.symm (hs₃.extBut _ _ D.TOz.symm (hs₂.extBut _ _ D.i1z.symm hz₁)))
  have hk₅ : ∀ c o, c ≠ z → c ≠ TO → c ≠ i1 → c ≠ i2 → s.heap.get? c = some o → h₅.get? c = some o := fun c o c1 c2 c3 c4 e =>
    hs₅.extBut _ _ c2 (hs₄.extBut _ _ c4 (hs₃.extBut _ _ c2 (hs₂.extBut _ _ c3 (hs₁.extBut _ _ c1 e))))
  have h1₅ : h₅.IsTupleIter i1 l1 (k1 + 1) := ((h1₂.extBut hs₃.extBut D.TOi1.symm).extBut hs₄.extBut D.i12).extBut hs₅.extBut D.TOi1.symm
  have h2₅ : h₅.IsTupleIter i2 l2 (k2 + 1) := h2₄.extBut hs₅.extBut D.TOi2.symm
  have hzlt : z < h₅.objs.size := Heap.lt_size hz₅
  show wpAny _ _ (Builtin.SmallTypes.ownedTupleHandOut (.ref z) (.ref h₅.objs.size) >>= _) _ _ _
  refine wpAny_bind ?_
  unfold Builtin.SmallTypes.ownedTupleHandOut
  have hz₆ : ZipAt (h₅.push { cls := .type "tuple", data := .seq #[x, y] }) z TI TO .ellipsis (.bool false) := Heap.get?_push_of_some _ hz₅
  refine wpAny_bind (wpAny_setField_rec hz₆ (by simp) fun h₇ hz₇ hs₇ => ?_)
  replace hz₇ : ZipAt h₇ z TI TO (rawInt h₅.objs.size) (.bool false) := hz₇
  refine wpAny_setField_rec hz₇ (by simp) fun h₈ hz₈ hs₈ => ?_
  replace hz₈ : ZipAt h₈ z TI TO (rawInt h₅.objs.size) (.bool false) := hz₈
  have up : ∀ c o, c ≠ z → h₅.get? c = some o → h₈.get? c = some o := fun c o c1 e => hs₈.extBut _ _ c1 (hs₇.extBut _ _ c1 (Heap.get?_push_of_some _ e))
  have hT₈ : IsPair h₈ h₅.objs.size x y := hs₈.extBut _ _ (Nat.ne_of_gt hzlt) (hs₇.extBut _ _ (Nat.ne_of_gt hzlt) (Heap.get?_push_size _ rfl))
  rw [hsz] at hz₈ hT₈
  refine wpAny_pure ⟨_, rfl, ?_⟩
  show Q (.ref h₅.objs.size) _
  rw [hsz]
  exact hQ h₈ hz₈ (up _ _ D.TOz hTO₅) (h1₅.at fun o e => up _ o D.i1z e) (h2₅.at fun o e => up _ o D.i2z e) hT₈ fun c o c1 c2 c3 c4 e => up c o c1 (hk₅ c o c1 c2 c3 c4 e)

theorem zip_free_end {z TI TO i1 i2 l1 l2 : Addr} {k1 k2 : Nat} {xs ys : Array Value} {a b : Value} {Q : Fin → Shared → Prop} (hh : A.handled = none) (D : Apart z TI TO i1 i2 l1 l2)
    (hz : ZipAt s.heap z TI TO .none (.bool false)) (hTI : IsPair s.heap TI (.ref i1) (.ref i2)) (hTO : IsPair s.heap TO a b)
    (h1 : s.heap.IsTupleIter i1 l1 k1) (h2 : s.heap.IsTupleIter i2 l2 k2) (hl1 : s.heap.IsTuple l1 xs) (hl2 : s.heap.IsTuple l2 ys) (hend : xs[k1]? = none ∨ ys[k2]? = none)
    (hE : ∀ h' e, (∀ c o, c ≠ z → c ≠ TO → c ≠ i1 → c ≠ i2 → s.heap.get? c = some o → h'.get? c = some o) → (∃ o, h'.get? e = some o ∧ o.cls = .type "StopIteration") → E (.ref e) { s with heap := h' }) :
    wpAny (model prog w) A (Builtin.«zip.__next__» ⟨[.ref z], []⟩) Q E s := by
  show wpAny _ _ (field (.ref z) 2 >>= _) _ _ _
  refine wpAny_bind (wpAny_field hz rfl (x := .bool false) rfl ?_)
  show wpAny _ _ (field (.ref z) 3 >>= _) _ _ _
  refine wpAny_bind (wpAny_field hz rfl (x := .ref TI) rfl ?_)
  refine wpAny_bind (wpAny_seqItems hTI rfl ?_)
  show wpAny _ _ (Builtin.SmallTypes.ownedTupleIsFree (.ref z) >>= _) _ _ _
  refine wpAny_bind ?_
  unfold Builtin.SmallTypes.ownedTupleIsFree
  refine wpAny_bind (wpAny_field hz rfl (x := .none) rfl (wpAny_pure ?_))
  simp only [if_true]
  refine wpAny_bind (wpAny_rule ?_)
  refine wpAny_bind (wpAny_field hz rfl (x := .ref TO) rfl ?_)
  refine wpAny_bind (wpAny_setField_rec hz (by simp) fun h₁ hz₁ hs₁ => ?_)
  replace hz₁ : ZipAt h₁ z TI TO .ellipsis (.bool false) := hz₁
  refine wpAny_bind ?_
  simp only [List.zipIdx_cons, List.zipIdx_nil, List.forIn_cons, List.forIn_nil]
  refine wpAny_bind (wpAny_bind (wpAny_onRaise ?_))
  show wpAny _ _ (Builtin.SmallTypes.nextOf (.ref i1) >>= _) _ _ _
  cases hx : xs[k1]? with
  | none =>
    refine wpAny_bind (nextOf_tup_end hh (h1.extBut hs₁.extBut D.i1z) (hl1.extBut hs₁.extBut D.l1z) hx fun h₂ e hs₂ he => ?_)
    obtain ⟨oe, hoe, hce⟩ := he
    have hz₂ : ZipAt h₂ z TI TO .ellipsis (.bool false) := hs₂ _ _ D.i1z.symm hz₁
    have hez : e ≠ z := fun x => by subst x; rw [hz₂] at hoe; cases hoe; simp at hce
    refine wpAny_setField_rec hz₂ (by simp) fun h₃ _ hs₃ => hE h₃ e (fun c o c1 _ c3 _ x => hs₃.extBut _ _ c1 (hs₂ _ _ c3 (hs₁.extBut _ _ c1 x))) ⟨oe, hs₃.extBut _ _ hez hoe, hce⟩
  | some x =>
    have hy : ys[k2]? = none := by rcases hend with h | h; rw [hx] at h; cases h; exact h
    refine wpAny_bind (nextOf_tup (h1.extBut hs₁.extBut D.i1z) (hl1.extBut hs₁.extBut D.l1z) hx fun h₂ h1₂ hs₂ => wpAny_pure ?_)
    have hTO₂ : IsPair h₂ TO a b := hs₂.extBut _ _ D.TOi1 (hs₁.extBut _ _ D.TOz hTO)
    refine wpAny_bind (wpAny_seqItems hTO₂ rfl ?_)
    refine wpAny_bind (wpAny_updateSeq_pair hTO₂ fun h₃ hTO₃ hs₃ => ?_)
    refine wpAny_bind (wpAny_letGo (wpAny_pure ?_))
    refine wpAny_bind (wpAny_bind (wpAny_onRaise ?_))
    show wpAny _ _ (Builtin.SmallTypes.nextOf (.ref i2) >>= _) _ _ _
    refine wpAny_bind (nextOf_tup_end hh (((h2.extBut hs₁.extBut D.i2z).extBut hs₂.extBut D.i12.symm).extBut hs₃.extBut D.TOi2.symm)
      (((hl2.extBut hs₁.extBut D.l2z).extBut hs₂.extBut D.l2i1).extBut hs₃.extBut D.l2TO) hy fun h₄ e hs₄ he => ?_)
    obtain ⟨oe, hoe, hce⟩ := he
    have hz₄ : ZipAt h₄ z TI TO .ellipsis (.bool false) := hs₄ _ _ D.i2z.symm (hs₃.extBut _ _ D.TOz.symm (hs₂.extBut _ _ D.i1z.symm hz₁))
    have hez : e ≠ z := fun x => by subst x; rw [hz₄] at hoe; cases hoe; simp at hce
    refine wpAny_setField_rec hz₄ (by simp) fun h₅ _ hs₅ => hE h₅ e (fun c o c1 c2 c3 c4 x => hs₅.extBut _ _ c1 (hs₄ _ _ c4 (hs₃.extBut _ _ c2 (hs₂.extBut _ _ c3 (hs₁.extBut _ _ c1 x))))) ⟨oe, hs₅.extBut _ _ hez hoe, hce⟩

theorem zip_held_item {z TI TO i1 i2 l1 l2 T : Addr} {oT : Obj} {f1 : Bool} {k1 k2 : Nat} {xs ys : Array Value} {x y : Value} {Q : Value → Shared → Prop} (D : Apart z TI TO i1 i2 l1 l2)
    (hz : ZipAt s.heap z TI TO (rawInt T) (.bool f1)) (hT : s.heap.get? T = some oT) (hTI : IsPair s.heap TI (.ref i1) (.ref i2))
    (h1 : s.heap.IsTupleIter i1 l1 k1) (h2 : s.heap.IsTupleIter i2 l2 k2) (hl1 : s.heap.IsTuple l1 xs) (hl2 : s.heap.IsTuple l2 ys) (hx : xs[k1]? = some x) (hy : ys[k2]? = some y)
    (hQ : ∀ h', ZipAt h' z TI TO (rawInt T) (.bool true) → h'.IsTupleIter i1 l1 (k1 + 1) → h'.IsTupleIter i2 l2 (k2 + 1) → IsPair h' s.heap.objs.size x y →
      (∀ c o, c ≠ z → c ≠ i1 → c ≠ i2 → s.heap.get? c = some o → h'.get? c = some o) → Q (.ref s.heap.objs.size) { s with heap := h' }) :
    wpAny (model prog w) A (Builtin.«zip.__next__» ⟨[.ref z], []⟩) (fun fin s' => ∃ v, fin = .done (.ret v) ∧ Q v s') E s := by
  show wpAny _ _ (field (.ref z) 2 >>= _) _ _ _
  refine wpAny_bind (wpAny_field hz rfl (x := .bool false) rfl ?_)
  show wpAny _ _ (field (.ref z) 3 >>= _) _ _ _
  refine wpAny_bind (wpAny_field hz rfl (x := .ref TI) rfl ?_)
  refine wpAny_bind (wpAny_seqItems hTI rfl ?_)
  show wpAny _ _ (Builtin.SmallTypes.ownedTupleIsFree (.ref z) >>= _) _ _ _
  refine wpAny_bind ?_
  unfold Builtin.SmallTypes.ownedTupleIsFree
  refine wpAny_bind (wpAny_field hz rfl (x := rawInt T) rfl ?_)
  show wpAny _ _ (loadIfAlive ((T : Int).toNat) >>= _) _ _ _
  rw [Int.toNat_natCast]
  refine wpAny_bind (loadAlive ?_)
  rw [hT]
  simp only [Option.isNone_some, Bool.false_eq_true, if_false]
  refine wpAny_bind (wpAny_field hz rfl (x := .bool f1) rfl ?_)
  refine wpAny_mono (Q := fun (a : Bool) s' => a = false ∧ ∃ h₁, s' = { s with heap := h₁ } ∧ ZipAt h₁ z TI TO (rawInt T) (.bool true) ∧ h₁.objs.size = s.heap.objs.size ∧ ∀ c o, c ≠ z → s.heap.get? c = some o → h₁.get? c = some o) ?_ (fun a s' ha => ?_) (fun _ _ e => e)
  · cases f1 with
    | true => exact wpAny_pure ⟨rfl, s.heap, rfl, hz, rfl, fun _ _ _ e => e⟩
    | false =>
      show wpAny _ _ (setField (.ref z) 1 (.bool true) >>= _) _ _ _
      refine wpAny_bind (wpAny_setField_rec hz (by simp) fun h₁ hz₁ hs₁ => wpAny_pure ⟨rfl, h₁, rfl, hz₁, hs₁.1, fun c o hc e => hs₁.extBut _ _ hc e⟩)
  · obtain ⟨rfl, h₀, rfl, hz₀, hsz₀, hk₀⟩ := ha
    simp only [Bool.false_eq_true, if_false]
    have a1 : h₀.IsTupleIter i1 l1 k1 := h1.at fun o e => hk₀ _ o D.i1z e
    have a2 : h₀.IsTupleIter i2 l2 k2 := h2.at fun o e => hk₀ _ o D.i2z e
    have b1 : h₀.IsTuple l1 xs := hl1.at fun o e => hk₀ _ o D.l1z e
    have b2 : h₀.IsTuple l2 ys := hl2.at fun o e => hk₀ _ o D.l2z e
    simp only [List.forIn_toArray, List.forIn_cons, List.forIn_nil]
    refine wpAny_bind (wpAny_bind (wpAny_bind (wpAny_holding ?_)))
    show wpAny _ _ (Builtin.SmallTypes.nextOf (.ref i1) >>= _) _ _ _
    refine wpAny_bind (nextOf_tup a1 b1 hx fun h₁ a1' hs₁ => wpAny_pure (wpAny_pure ?_))
    refine wpAny_bind (wpAny_bind (wpAny_holding ?_))
    show wpAny _ _ (Builtin.SmallTypes.nextOf (.ref i2) >>= _) _ _ _
    refine wpAny_bind (nextOf_tup (a2.extBut hs₁.extBut D.i12.symm) (b2.extBut hs₁.extBut D.l2i1) hy fun h₂ a2' hs₂ => wpAny_pure (wpAny_pure (wpAny_pure ?_)))
    have hsz : h₂.objs.size = s.heap.objs.size := by rw [hs₂.1, hs₁.1, hsz₀]
    have up : ∀ c o, c ≠ i1 → c ≠ i2 → h₀.get? c = some o → (h₂.push { cls := .type "tuple", data := .seq #[x, y] }).get? c = some o := fun c o c1 c2 e =>
      Heap.get?_push_of_some _ (hs₂.extBut _ _ c2 (hs₁.extBut _ _ c1 e))
    show wpAny _ _ (newTuple [x, y] >>= _) _ _ _
    refine wpAny_bind (wpAny_newTuple (wpAny_pure ⟨_, rfl, ?_⟩))
    show Q (.ref h₂.objs.size) _
    have hT₂ : IsPair (h₂.push { cls := .type "tuple", data := .seq #[x, y] }) h₂.objs.size x y := Heap.get?_push_size _ rfl
    rw [hsz] at hT₂ ⊢
    exact hQ _ (up _ _ D.i1z.symm D.i2z.symm hz₀) ((a1'.extBut hs₂.extBut D.i12).at fun o e => Heap.get?_push_of_some _ e) (a2'.at fun o e => Heap.get?_push_of_some _ e) hT₂
      fun c o c1 c3 c4 e => up c o c3 c4 (hk₀ c o c1 e)

theorem zip_held_end {z TI TO i1 i2 l1 l2 T : Addr} {oT : Obj} {f1 : Bool} {k1 k2 : Nat} {xs ys : Array Value} {Q : Fin → Shared → Prop} (hh : A.handled = none) (D : Apart z TI TO i1 i2 l1 l2)
    (hz : ZipAt s.heap z TI TO (rawInt T) (.bool f1)) (hT : s.heap.get? T = some oT) (hTI : IsPair s.heap TI (.ref i1) (.ref i2))
    (h1 : s.heap.IsTupleIter i1 l1 k1) (h2 : s.heap.IsTupleIter i2 l2 k2) (hl1 : s.heap.IsTuple l1 xs) (hl2 : s.heap.IsTuple l2 ys) (hend : xs[k1]? = none ∨ ys[k2]? = none)
    (hE : ∀ h' e, (∀ c o, c ≠ z → c ≠ i1 → c ≠ i2 → s.heap.get? c = some o → h'.get? c = some o) → (∃ o, h'.get? e = some o ∧ o.cls = .type "StopIteration") → E (.ref e) { s with heap := h' }) :
    wpAny (model prog w) A (Builtin.«zip.__next__» ⟨[.ref z], []⟩) Q E s := by
  show wpAny _ _ (field (.ref z) 2 >>= _) _ _ _
  refine wpAny_bind (wpAny_field hz rfl (x := .bool false) rfl ?_)
  show wpAny _ _ (field (.ref z) 3 >>= _) _ _ _
  refine wpAny_bind (wpAny_field hz rfl (x := .ref TI) rfl ?_)
  refine wpAny_bind (wpAny_seqItems hTI rfl ?_)
  show wpAny _ _ (Builtin.SmallTypes.ownedTupleIsFree (.ref z) >>= _) _ _ _
  refine wpAny_bind ?_
  unfold Builtin.SmallTypes.ownedTupleIsFree
  refine wpAny_bind (wpAny_field hz rfl (x := rawInt T) rfl ?_)
  show wpAny _ _ (loadIfAlive ((T : Int).toNat) >>= _) _ _ _
  rw [Int.toNat_natCast]
  refine wpAny_bind (loadAlive ?_)
  rw [hT]
  simp only [Option.isNone_some, Bool.false_eq_true, if_false]
  refine wpAny_bind (wpAny_field hz rfl (x := .bool f1) rfl ?_)
  refine wpAny_mono (Q := fun (a : Bool) s' => a = false ∧ ∃ h₁, s' = { s with heap := h₁ } ∧ ZipAt h₁ z TI TO (rawInt T) (.bool true) ∧ h₁.objs.size = s.heap.objs.size ∧ ∀ c o, c ≠ z → s.heap.get? c = some o → h₁.get? c = some o) ?_ (fun a s' ha => ?_) (fun _ _ e => e)
  · cases f1 with
    | true => exact wpAny_pure ⟨rfl, s.heap, rfl, hz, rfl, fun _ _ _ e => e⟩
    | false =>
      show wpAny _ _ (setField (.ref z) 1 (.bool true) >>= _) _ _ _
      refine wpAny_bind (wpAny_setField_rec hz (by simp) fun h₁ hz₁ hs₁ => wpAny_pure ⟨rfl, h₁, rfl, hz₁, hs₁.1, fun c o hc e => hs₁.extBut _ _ hc e⟩)
  · obtain ⟨rfl, h₀, rfl, hz₀, hsz₀, hk₀⟩ := ha
    simp only [Bool.false_eq_true, if_false]
    have a1 : h₀.IsTupleIter i1 l1 k1 := h1.at fun o e => hk₀ _ o D.i1z e
    have a2 : h₀.IsTupleIter i2 l2 k2 := h2.at fun o e => hk₀ _ o D.i2z e
    have b1 : h₀.IsTuple l1 xs := hl1.at fun o e => hk₀ _ o D.l1z e
    have b2 : h₀.IsTuple l2 ys := hl2.at fun o e => hk₀ _ o D.l2z e
    simp only [List.forIn_toArray, List.forIn_cons, List.forIn_nil]
    refine wpAny_bind (wpAny_bind (wpAny_bind (wpAny_holding ?_)))
    show wpAny _ _ (Builtin.SmallTypes.nextOf (.ref i1) >>= _) _ _ _
    cases hx : xs[k1]? with
    | none => exact wpAny_bind (nextOf_tup_end hh a1 b1 hx fun h₁ e hs₁ he => hE h₁ e (fun c o c1 c3 c4 x => hs₁ _ _ c3 (hk₀ c o c1 x)) he)
    | some x =>
      have hy : ys[k2]? = none := by rcases hend with h | h; rw [hx] at h; cases h; exact h
      refine wpAny_bind (nextOf_tup a1 b1 hx fun h₁ a1' hs₁ => wpAny_pure (wpAny_pure ?_))
      refine wpAny_bind (wpAny_bind (wpAny_holding ?_))
      show wpAny _ _ (Builtin.SmallTypes.nextOf (.ref i2) >>= _) _ _ _
      exact wpAny_bind (nextOf_tup_end hh (a2.extBut hs₁.extBut D.i12.symm) (b2.extBut hs₁.extBut D.l2i1) hy fun h₂ e hs₂ he =>
        hE h₂ e (fun c o c1 c3 c4 x => hs₂ _ _ c4 (hs₁.extBut _ _ c3 (hk₀ c o c1 x))) he)

/-- where a zip over two tuples stands, i pairs taken; S: a list that is none of its parts -/
structure ZS (z TI TO i1 i2 l1 l2 S : Addr) (xs ys : Array Value) (i : Nat) (h : Heap) : Prop where
  zip : ZipAt h z TI TO .none (.bool false) ∨ ∃ (T : Addr) (o : Obj) (b : Bool), ZipAt h z TI TO (rawInt T) (.bool b) ∧ h.get? T = some o ∧ T ≠ z ∧ T ≠ TO ∧ T ≠ i1 ∧ T ≠ i2 ∧ T ≠ S
  ti : IsPair h TI (.ref i1) (.ref i2)
  to : ∃ a b, IsPair h TO a b
  it1 : h.IsTupleIter i1 l1 i
  it2 : h.IsTupleIter i2 l2 i
  t1 : h.IsTuple l1 xs
  t2 : h.IsTuple l2 ys

theorem zip_next {z TI TO i1 i2 l1 l2 S : Addr} {i : Nat} {xs ys : Array Value} {x y : Value} {Q : Option Value → Shared → Prop} (D : Apart z TI TO i1 i2 l1 l2)
    (Z : ZS z TI TO i1 i2 l1 l2 S xs ys i s.heap) (hS : S < s.heap.objs.size) (hx : xs[i]? = some x) (hy : ys[i]? = some y)
    (hQ : ∀ h', ZS z TI TO i1 i2 l1 l2 S xs ys (i + 1) h' → IsPair h' s.heap.objs.size x y →
      (∀ c o, c ≠ z → c ≠ TO → c ≠ i1 → c ≠ i2 → s.heap.get? c = some o → h'.get? c = some o) → Q (some (.ref s.heap.objs.size)) { s with heap := h' }) :
    wpAny (model prog w) A (pyNext (.ref z)) Q E s := by
  obtain ⟨hz, hTI, ⟨a, b, hTO⟩, h1, h2, hl1, hl2⟩ := Z
  have lt : ∀ {c o}, s.heap.get? c = some o → s.heap.objs.size ≠ c := fun e => Nat.ne_of_gt (Heap.lt_size e)
  have n1 : s.heap.objs.size ≠ i1 := by obtain ⟨_, e, _⟩ := h1; exact lt e
  have n2 : s.heap.objs.size ≠ i2 := by obtain ⟨_, e, _⟩ := h2; exact lt e
  rcases hz with hz | ⟨T, o, f1, hz, hT, c1, c2, c3, c4, c5⟩
  · have hty : s.TypeIs (.ref z) "zip" := ⟨_, hz, rfl⟩
    unfold pyNext
    refine wpAny_bind (wpAny_attempt (wpAny_callSpecial?_slot (name := Str.ofString "__next__") hty F.slot_zip_next
      (wpAny_call_entry F.slot_zip_next hty F.entry_zip_next (zip_free_item D hz hTI hTO h1 h2 hl1 hl2 hx hy fun h' q1 q2 q3 q4 q5 hk => wpAny_pure ?_) (F.args_zip_next_1 _))))
    exact hQ h' ⟨.inr ⟨_, _, false, q1, q5, lt hz, lt hTO, n1, n2, Nat.ne_of_gt hS⟩, hk _ _ D.TIz D.TITO D.TIi1 D.TIi2 hTI, ⟨_, _, q2⟩, q3, q4,
      hl1.at fun o e => hk _ o D.l1z D.l1TO D.l1i1 D.l1i2 e, hl2.at fun o e => hk _ o D.l2z D.l2TO D.l2i1 D.l2i2 e⟩ q5 hk
  · have hty : s.TypeIs (.ref z) "zip" := ⟨_, hz, rfl⟩
    unfold pyNext
    refine wpAny_bind (wpAny_attempt (wpAny_callSpecial?_slot (name := Str.ofString "__next__") hty F.slot_zip_next
      (wpAny_call_entry F.slot_zip_next hty F.entry_zip_next (zip_held_item D hz hT hTI h1 h2 hl1 hl2 hx hy fun h' q1 q3 q4 q5 hk => wpAny_pure ?_) (F.args_zip_next_1 _))))
    exact hQ h' ⟨.inr ⟨_, _, true, q1, hk _ _ c1 c3 c4 hT, c1, c2, c3, c4, c5⟩, hk _ _ D.TIz D.TIi1 D.TIi2 hTI, ⟨_, _, hk _ _ D.TOz D.TOi1 D.TOi2 hTO⟩, q3, q4,
      hl1.at fun o e => hk _ o D.l1z D.l1i1 D.l1i2 e, hl2.at fun o e => hk _ o D.l2z D.l2i1 D.l2i2 e⟩ q5 fun c o d1 _ d3 d4 e => hk c o d1 d3 d4 e

theorem zip_ends {z TI TO i1 i2 l1 l2 S : Addr} {i : Nat} {xs ys : Array Value} {Q : Option Value → Shared → Prop} (hh : A.handled = none) (D : Apart z TI TO i1 i2 l1 l2)
    (Z : ZS z TI TO i1 i2 l1 l2 S xs ys i s.heap) (hend : xs[i]? = none ∨ ys[i]? = none)
    (hQ : ∀ h', (∀ c o, c ≠ z → c ≠ TO → c ≠ i1 → c ≠ i2 → s.heap.get? c = some o → h'.get? c = some o) → Q none { s with heap := h' }) :
    wpAny (model prog w) A (pyNext (.ref z)) Q E s := by
  obtain ⟨hz, hTI, ⟨a, b, hTO⟩, h1, h2, hl1, hl2⟩ := Z
  rcases hz with hz | ⟨T, o, f1, hz, hT, c1, c2, c3, c4, c5⟩
  · have hty : s.TypeIs (.ref z) "zip" := ⟨_, hz, rfl⟩
    unfold pyNext
    refine wpAny_bind (wpAny_attempt (wpAny_callSpecial?_slot (name := Str.ofString "__next__") hty F.slot_zip_next
      (wpAny_call_entry F.slot_zip_next hty F.entry_zip_next (zip_free_end hh D hz hTI hTO h1 h2 hl1 hl2 hend fun h' e hk he => ?_) (F.args_zip_next_1 _))))
    obtain ⟨o, ho, hc⟩ := he
    exact wpAny_bind (wpAny_isInstance (T := "StopIteration") (b := true) ⟨o, ho, hc⟩ isSubtype_stop (wpAny_pure (hQ _ hk)))
  · have hty : s.TypeIs (.ref z) "zip" := ⟨_, hz, rfl⟩
    unfold pyNext
    refine wpAny_bind (wpAny_attempt (wpAny_callSpecial?_slot (name := Str.ofString "__next__") hty F.slot_zip_next
      (wpAny_call_entry F.slot_zip_next hty F.entry_zip_next (zip_held_end hh D hz hT hTI h1 h2 hl1 hl2 hend fun h' e hk he => ?_) (F.args_zip_next_1 _))))
    obtain ⟨o, ho, hc⟩ := he
    exact wpAny_bind (wpAny_isInstance (T := "StopIteration") (b := true) ⟨o, ho, hc⟩ isSubtype_stop (wpAny_pure (hQ _ fun c o d1 _ d3 d4 e => hk c o d1 d3 d4 e)))

/-- the pairs taken so far -/
def Taken (z TO i1 i2 S : Addr) (xs ys : Array Value) (lo : Addr) (acc : Array Value) (i : Nat) (h : Heap) : Prop :=
  acc.size = i ∧ ∀ j, j < i → ∃ R x y, acc[j]? = some (.ref R) ∧ xs[j]? = some x ∧ ys[j]? = some y ∧ IsPair h R x y ∧ lo ≤ R ∧ R ≠ z ∧ R ≠ TO ∧ R ≠ i1 ∧ R ≠ i2 ∧ R ≠ S

theorem zip_loop {R : Result → Shared → Prop} {z TI TO i1 i2 l1 l2 S lo : Addr} {xs ys : Array Value} (hh : A.in1.handled = none) (D : Apart z TI TO i1 i2 l1 l2) (hn : min xs.size ys.size ≤ sizeLine) (res : Value)
    (s1 : S ≠ z) (s2 : S ≠ TI) (s3 : S ≠ TO) (s4 : S ≠ i1) (s5 : S ≠ i2) (s6 : S ≠ l1) (s7 : S ≠ l2) :
    ∀ (k i : Nat) (s : Shared) (acc : Array Value) (c : Nat), min xs.size ys.size - i = k → i ≤ min xs.size ys.size → lo ≤ s.heap.objs.size → ZS z TI TO i1 i2 l1 l2 S xs ys i s.heap →
      s.heap.get? S = some { cls := .type "list", dict := none, data := .seq acc c, slots := #[] } → Taken z TO i1 i2 S xs ys lo acc i s.heap →
      (∀ h' tk acc' c', (∀ b o, b ≠ S → b ≠ z → b ≠ TO → b ≠ i1 → b ≠ i2 → s.heap.get? b = some o → h'.get? b = some o) →
        h'.get? S = some { cls := .type "list", dict := none, data := .seq acc' c', slots := #[] } → Taken z TO i1 i2 S xs ys lo acc' (min xs.size ys.size) h' → R (.ok (.ret res)) { s with heap := h', toks := tk }) →
      codeAny (model prog w) A (.builtin "list.extend.loop" ⟨[.ref S, .ref z, res], []⟩) R s := by
  intro k
  induction k with
  | zero =>
    intro i s acc c hk hi hlo hst hS hacc hR
    have hin : i = min xs.size ys.size := by omega
    refine codeAny_builtin F.entry_extend_loop ?_
    rw [Around.under_plainId F.plain_extend_loop _]
    show wpAny _ A.in1 (pyNext (.ref z) >>= _) _ _ s
    refine wpAny_bind (zip_ends hh D hst ?_ fun h' hk' => ?_)
    · rcases Nat.le_total xs.size ys.size with h | h
      · exact .inl (by rw [hin, Nat.min_eq_left h]; exact Array.getElem?_eq_none (Nat.le_refl _))
      · exact .inr (by rw [hin, Nat.min_eq_right h]; exact Array.getElem?_eq_none (Nat.le_refl _))
    · subst hin
      refine wpAny_pure (hR h' s.toks acc c (fun b o b1 b2 b3 b4 b5 e => hk' b o b2 b3 b4 b5 e) (hk' _ _ s1 s3 s4 s5 hS) ⟨hacc.1, fun j hj => ?_⟩)
      obtain ⟨R', x, y, e1, e2, e3, e4, e5, n1, n2, n3, n4, n5⟩ := hacc.2 j hj
      exact ⟨R', x, y, e1, e2, e3, hk' _ _ n1 n2 n3 n4 e4, e5, n1, n2, n3, n4, n5⟩
  | succ k ih =>
    intro i s acc c hk hi hlo hst hS hacc hR
    have hix : i < xs.size := by omega
    have hiy : i < ys.size := by omega
    have hSlt : S < s.heap.objs.size := Heap.lt_size hS
    refine codeAny_builtin F.entry_extend_loop ?_
    rw [Around.under_plainId F.plain_extend_loop _]
    show wpAny _ A.in1 (pyNext (.ref z) >>= _) _ _ s
    have lt : ∀ {c o}, s.heap.get? c = some o → s.heap.objs.size ≠ c := fun e => Nat.ne_of_gt (Heap.lt_size e)
    have nz : s.heap.objs.size ≠ z := by rcases hst.zip with e | ⟨_, _, _, e, _⟩ <;> exact lt e
    have nTO : s.heap.objs.size ≠ TO := by obtain ⟨_, _, e⟩ := hst.to; exact lt e
    have n1' : s.heap.objs.size ≠ i1 := by obtain ⟨_, e, _⟩ := hst.it1; exact lt e
    have n2' : s.heap.objs.size ≠ i2 := by obtain ⟨_, e, _⟩ := hst.it2; exact lt e
    refine wpAny_bind (zip_next D hst hSlt (Array.getElem?_eq_getElem hix) (Array.getElem?_eq_getElem hiy) fun h' hst' hp hk' => ?_)
    have hS' := hk' _ _ s1 s3 s4 s5 hS
    show wpAny _ A.in1 (updateSeq S (·.push (.ref s.heap.objs.size)) >>= _) _ _ _
    have oth : ∀ b o, b ≠ S → h'.get? b = some o → (h'.update S (Obj.mapSeq (·.push (.ref s.heap.objs.size)))).get? b = some o := fun b o hb e => (Heap.get?_update_other _ _ (Ne.symm hb)).trans e
    refine wpAny_bind ?_
    refine wpAny_updateSeq hS' rfl (wpAny_pure ⟨plainId_quiet F.plain_extend_loop _, ih (i + 1) _ (acc.push (.ref s.heap.objs.size)) _ (by omega) (by omega) ?_ ?_ (Heap.get?_update_self _ hS' rfl) ⟨by rw [Array.size_push, hacc.1], fun j hj => ?_⟩ fun h'' tk acc' c' hk'' hS'' hacc' => ?_⟩)
      (by rw [hacc.1]; omega) (by show (acc.push _).size ≤ sizeLine + 1; rw [Array.size_push, hacc.1]; omega)
    · show lo ≤ (h'.update S _).objs.size
      rw [Heap.size_update]
      exact Nat.le_trans hlo (Nat.le_of_lt (Heap.lt_size hp))
    · obtain ⟨hz, hTI, ⟨a, b, hTO⟩, h1, h2, hl1, hl2⟩ := hst'
      refine ⟨?_, oth _ _ (Ne.symm s2) hTI, ⟨a, b, oth _ _ (Ne.symm s3) hTO⟩, h1.at fun o e => oth _ o (Ne.symm s4) e, h2.at fun o e => oth _ o (Ne.symm s5) e, hl1.at fun o e => oth _ o (Ne.symm s6) e, hl2.at fun o e => oth _ o (Ne.symm s7) e⟩
      rcases hz with hz | ⟨T, o, f1, hz, hT, c1, c2, c3, c4, c5⟩
      · exact .inl (oth _ _ (Ne.symm s1) hz)
      · exact .inr ⟨T, o, f1, oth _ _ (Ne.symm s1) hz, oth _ _ c5 hT, c1, c2, c3, c4, c5⟩
    · by_cases hji : j = i
      · subst hji
        exact ⟨_, _, _, by rw [← hacc.1]; exact Array.getElem?_push_size, Array.getElem?_eq_getElem hix, Array.getElem?_eq_getElem hiy, oth _ _ (Nat.ne_of_gt hSlt) hp, hlo, nz, nTO, n1', n2', Nat.ne_of_gt hSlt⟩
      · obtain ⟨R', x, y, e1, e2, e3, e4, e5, n1, n2, n3, n4, n5⟩ := hacc.2 j (by omega)
        refine ⟨R', x, y, ?_, e2, e3, oth _ _ n5 (hk' _ _ n1 n2 n3 n4 e4), e5, n1, n2, n3, n4, n5⟩
        rw [Array.getElem?_push, if_neg (by rw [hacc.1]; exact hji)]; exact e1
    · exact hR h'' tk acc' c' (fun b o b1 b2 b3 b4 b5 e => hk'' b o b1 b2 b3 b4 b5 (oth _ _ b1 (hk' _ _ b2 b3 b4 b5 e))) hS'' hacc'


theorem zip_no_len : typeLookup (.type "zip") "__len__" = pure none := by rw [typeLookup_type, builtinLookup_eq_fast]; kernel_rfl
theorem zip_no_hint : typeLookup (.type "zip") "__length_hint__" = pure none := by rw [typeLookup_type, builtinLookup_eq_fast]; kernel_rfl

theorem call_list_zip {Q : Value → Shared → Prop} {z TI TO i1 i2 l1 l2 : Addr} {xs ys : Array Value} (hh : A.handled = none) (D : Apart z TI TO i1 i2 l1 l2) (hn : min xs.size ys.size ≤ sizeLine)
    (Z : ∀ S, s.heap.objs.size ≤ S → ZS z TI TO i1 i2 l1 l2 S xs ys 0 s.heap)
    (hQ : ∀ h' tk acc' c', (∀ b o, b ≠ z → b ≠ TO → b ≠ i1 → b ≠ i2 → s.heap.get? b = some o → h'.get? b = some o) →
      h'.get? s.heap.objs.size = some { cls := .type "list", dict := none, data := .seq acc' c', slots := #[] } → Taken z TO i1 i2 s.heap.objs.size xs ys (s.heap.objs.size + 1) acc' (min xs.size ys.size) h' →
      Q (.ref s.heap.objs.size) { s with heap := h', toks := tk }) :
    wpAny (model prog w) A (call (.type "list") [.ref z]) Q E s := by
  have Z0 := Z _ (Nat.le_refl _)
  have lt : ∀ {c o}, s.heap.get? c = some o → s.heap.objs.size ≠ c := fun e => Nat.ne_of_gt (Heap.lt_size e)
  have nz : s.heap.objs.size ≠ z := by rcases Z0.zip with e | ⟨_, _, _, e, _⟩ <;> exact lt e
  have nTI : s.heap.objs.size ≠ TI := lt Z0.ti
  have nTO : s.heap.objs.size ≠ TO := by obtain ⟨_, _, e⟩ := Z0.to; exact lt e
  have n1' : s.heap.objs.size ≠ i1 := by obtain ⟨_, e, _⟩ := Z0.it1; exact lt e
  have n2' : s.heap.objs.size ≠ i2 := by obtain ⟨_, e, _⟩ := Z0.it2; exact lt e
  have m1 : s.heap.objs.size ≠ l1 := by obtain ⟨_, e, _⟩ := Z0.t1; exact lt e
  have m2 : s.heap.objs.size ≠ l2 := by obtain ⟨_, e, _⟩ := Z0.t2; exact lt e
  have move : ∀ h' : Heap, (∀ b o, b ≠ s.heap.objs.size → s.heap.get? b = some o → h'.get? b = some o) → ZS z TI TO i1 i2 l1 l2 s.heap.objs.size xs ys 0 h' := fun h' hk => by
    obtain ⟨hz, hTI, ⟨a, b, hTO⟩, h1, h2, hl1, hl2⟩ := Z0
    refine ⟨?_, hk _ _ (Ne.symm nTI) hTI, ⟨a, b, hk _ _ (Ne.symm nTO) hTO⟩, h1.at fun o e => hk _ o (Ne.symm n1') e, h2.at fun o e => hk _ o (Ne.symm n2') e, hl1.at fun o e => hk _ o (Ne.symm m1) e, hl2.at fun o e => hk _ o (Ne.symm m2) e⟩
    rcases hz with hz | ⟨T, o, f1, hz, hT, c1, c2, c3, c4, c5⟩
    · exact .inl (hk _ _ (Ne.symm nz) hz)
    · exact .inr ⟨T, o, f1, hk _ _ (Ne.symm nz) hz, hk _ _ c5 hT, c1, c2, c3, c4, c5⟩
  refine callType_codes (Q₁ := fun obj s₁ => obj = .ref s.heap.objs.size ∧ s₁ = { s with heap := s.heap.push { cls := .type "list", data := .seq #[] } }) F.called_list (F.typeCall_list_1 _) F.entry_list_init
    (code_list_new _ ⟨rfl, rfl⟩) fun obj s₁ h₁ => ?_
  obtain ⟨rfl, rfl⟩ := h₁
  have hS : (s.heap.push { cls := .type "list", data := .seq #[] }).get? s.heap.objs.size = some { cls := .type "list", data := .seq #[] } := Heap.get?_push_size _ rfl
  have k0 : ∀ b o, b ≠ s.heap.objs.size → s.heap.get? b = some o → (s.heap.push { cls := .type "list", data := .seq #[] }).get? b = some o := fun b o _ e => Heap.get?_push_of_some _ e
  refine ⟨⟨_, hS, rfl⟩, F.args_list_init_2 _ _, ?_⟩
  show wpAny _ _ (do let old ← Builtin.List.listItems (.ref s.heap.objs.size); Builtin.List.listUpdate (.ref s.heap.objs.size) (fun _ => #[]); letGo old.toList.reverse; Builtin.List.listExtendWith (.ref s.heap.objs.size) (.ref z) .none) _ _ _
  refine wpAny_bind ?_
  unfold Builtin.List.listItems
  refine wpAny_bind (wpAny_seqItems hS rfl (wpAny_pure ?_))
  show wpAny _ _ (updateSeq s.heap.objs.size (fun _ => #[]) >>= fun _ => letGo (#[] : Array Value).toList.reverse >>= fun _ => Builtin.List.listExtendWith (.ref s.heap.objs.size) (.ref z) .none) _ _ _
  refine wpAny_bind (wpAny_updateSeq hS rfl ?_)
  have hS₂ := Heap.get?_update_self (Obj.mapSeq (fun _ => (#[] : Array Value))) hS rfl
  have k1 : ∀ b o, b ≠ s.heap.objs.size → s.heap.get? b = some o → ((s.heap.push { cls := .type "list", data := .seq #[] }).update s.heap.objs.size (Obj.mapSeq (fun _ => (#[] : Array Value)))).get? b = some o :=
    fun b o hb e => (Heap.get?_update_other _ _ (Ne.symm hb)).trans (k0 b o hb e)
  refine wpAny_bind (wpAny_letGo ?_)
  unfold Builtin.List.listExtendWith
  have hty : ∀ h' : Heap, ∀ tk, ZS z TI TO i1 i2 l1 l2 s.heap.objs.size xs ys 0 h' → Shared.TypeIs { s with heap := h', toks := tk } (.ref z) "zip" := fun h' tk Z' => by
    rcases Z'.zip with e | ⟨_, _, _, e, _⟩ <;> exact ⟨_, e, rfl⟩
  have hself : ∀ (A' : Around) (h' : Heap) tk (Q' : Value → Shared → Prop) (E' : Value → Shared → Prop), ZS z TI TO i1 i2 l1 l2 s.heap.objs.size xs ys 0 h' → Q' (.ref z) { s with heap := h', toks := tk } →
      wpAny (model prog w) A' (pyIter (.ref z)) Q' E' { s with heap := h', toks := tk } := fun A' h' tk Q' E' Z' q => by
    have hT := hty h' tk Z'
    refine wpAny_pyIter_slot hT F.slot_zip_iter (wpAny_call_entry F.slot_zip_iter hT F.entry_zip_iter ?_ (F.args_zip_iter_1 _))
    show wpAny _ _ (PySem.ret (.ref z)) _ _ _
    exact wpAny_pure ⟨_, rfl, "zip", _, hT, F.slot_zip_next.lookup, q⟩
  refine wpAny_bind (wpAny_typeOf (hty _ _ (move _ k1)) ?_)
  have h1 : Builtin.List.listSameRef (.ref s.heap.objs.size) (.ref z) = false := by simp [Builtin.List.listSameRef, nz]
  have h2 : (Value.type "zip" == Value.type "list") = false := by decide
  have h3 : (Value.type "zip" == Value.type "tuple") = false := by decide
  simp only [h1, h2, h3, Bool.or_false, Bool.false_eq_true, if_false]
  refine wpAny_bind (hself _ _ _ _ _ (move _ k1) ?_)
  refine wpAny_bind (wpAny_holding ?_)
  unfold Builtin.List.listLengthHint
  refine wpAny_bind (wpAny_specialOf (hty _ _ (move _ k1)) zip_no_len ?_)
  show wpAny _ _ (specialOf (Value.ref z) (Str.ofString "__length_hint__") >>= _) _ _ _
  refine wpAny_bind (wpAny_specialOf (hty _ _ (move _ k1)) zip_no_hint ?_)
  refine wpAny_pure ?_
  show wpAny _ _ (rule "list.extend.makes-room" >>= fun _ => Builtin.List.listTouch (.ref s.heap.objs.size) >>= fun _ =>
    again (.builtin "list.extend.loop" ⟨[.ref s.heap.objs.size, .ref z, .none], []⟩)) _ _ _
  refine wpAny_bind (wpAny_rule ?_)
  refine wpAny_bind ?_
  show wpAny _ _ (updateSeq s.heap.objs.size (·.push .none) >>= fun _ => updateSeq s.heap.objs.size (·.pop)) _ _ _
  refine wpAny_bind (wpAny_updateSeq hS₂ rfl ?_)
  have hS₃ := Heap.get?_update_self (Obj.mapSeq (·.push Value.none)) hS₂ rfl
  refine wpAny_updateSeq (hz := by seq_fits) hS₃ rfl ?_
  have hS₄ := Heap.get?_update_self (Obj.mapSeq (·.pop)) hS₃ rfl
  have k2 : ∀ b o, b ≠ s.heap.objs.size → s.heap.get? b = some o → ((((s.heap.push { cls := .type "list", data := .seq #[] }).update s.heap.objs.size (Obj.mapSeq (fun _ => (#[] : Array Value)))).update s.heap.objs.size (Obj.mapSeq (·.push Value.none))).update s.heap.objs.size (Obj.mapSeq (·.pop))).get? b = some o :=
    fun b o hb e => (Heap.get?_update_other _ _ (Ne.symm hb)).trans ((Heap.get?_update_other _ _ (Ne.symm hb)).trans (k1 b o hb e))
  refine wpAny_pure ⟨plainId_quiet F.plain_extend_loop _, zip_loop (A := A.in1) (lo := s.heap.objs.size + 1) hh D hn .none nz nTI nTO n1' n2' m1 m2 _ 0 _ #[] _ rfl (Nat.zero_le _) ?_ (move _ k2) hS₄ ⟨rfl, fun j hj => absurd hj (Nat.not_lt_zero _)⟩ fun h' tk acc' c' hk hS' hacc => ?_⟩
  · show s.heap.objs.size + 1 ≤ Array.size (Heap.objs _)
    rw [Heap.size_update, Heap.size_update, Heap.size_update, Heap.size_push]
    exact Nat.le_refl _
  · exact ⟨rfl, hQ h' tk acc' c' (fun b o b1 b2 b3 b4 e => hk b o (Nat.ne_of_lt (Heap.lt_size e)) b1 b2 b3 b4 (k2 b o (Nat.ne_of_lt (Heap.lt_size e)) e)) hS' hacc⟩

abbrev zt1 (h : Heap) (l1 : Addr) : Heap := h.push { cls := .type "tuple_iterator", data := .fields #[.ref l1, .int 0 0] }
abbrev zt2 (h : Heap) (l1 l2 : Addr) : Heap := (zt1 h l1).push { cls := .type "tuple_iterator", data := .fields #[.ref l2, .int 0 0] }
abbrev zt3 (h : Heap) (l1 l2 : Addr) : Heap := (zt2 h l1 l2).push { cls := .type "tuple", data := .seq #[.ref h.objs.size, .ref (zt1 h l1).objs.size] }
abbrev zt4 (h : Heap) (l1 l2 : Addr) : Heap := (zt3 h l1 l2).push { cls := .type "tuple", data := .seq #[.none, .none] }
abbrev zt5 (h : Heap) (l1 l2 : Addr) : Heap := (zt4 h l1 l2).push { cls := .type "zip", data := .fields #[.none, .bool false, .bool false, .ref (zt2 h l1 l2).objs.size, .ref (zt3 h l1 l2).objs.size] }

theorem meets_zip_tup (l1 l2 : Addr) (xs ys : Array Value) :
    Meets (Builtin.«zip.__new__» ⟨[.type "zip", .ref l1, .ref l2], []⟩) (fun _ R s => s.heap.IsTuple l1 xs ∧ s.heap.IsTuple l2 ys ∧
      R (.ok (.ret (.ref (zt4 s.heap l1 l2).objs.size))) { s with heap := zt5 s.heap l1 l2 }) :=
  .of_wp fun prog w A R s h => by
    obtain ⟨hp, g, d, tk, os⟩ := s; obtain ⟨hl1, hl2, h⟩ := h
    have hsub := sub_zip
    have hL1 : Heap.IsTuple (Shared.heap ⟨hp, g, d, tk, os⟩) l1 xs := hl1
    have hL2 : Heap.IsTuple (Shared.heap ⟨hp.push { cls := .type "tuple_iterator", data := .fields #[.ref l1, .int 0 0] }, g, d, tk, os⟩) l2 ys := Heap.IsTuple.push hl2 _
    wp_walk using wpAny_pyIter_tuple hL1, wpAny_pyIter_tuple hL2
    exact ⟨_, rfl, h⟩

theorem call_zip_tup {h₀ : Heap} {L : Addr} {m : Str → Option Value} {news : List (Addr × Obj)} {l1 l2 : Addr} {xs ys : Array Value} {Q : Value → Shared → Prop} (Fh : Fr h₀ L s.heap m) (N : News h₀ L s.heap news)
    (hl1 : s.heap.IsTuple l1 xs) (hl2 : s.heap.IsTuple l2 ys)
    (h : ∀ h' z TI TO i1 i2, Apart z TI TO i1 i2 l1 l2 → (∀ S, h'.objs.size ≤ S → ZS z TI TO i1 i2 l1 l2 S xs ys 0 h') → (L < z ∧ L < TO ∧ L < i1 ∧ L < i2) →
      (s.heap.objs.size ≤ z ∧ s.heap.objs.size ≤ TO ∧ s.heap.objs.size ≤ i1 ∧ s.heap.objs.size ≤ i2) → s.heap.objs.size ≤ h'.objs.size →
      (∀ p ∈ news, p.1 < s.heap.objs.size) → Fr h₀ L h' m → News h₀ L h' news → Q (.ref z) { s with heap := h' }) :
    wpAny (model prog w) A (call (.type "zip") [.ref l1, .ref l2]) Q E s := by
  refine callType_new F.called_zip (by decide) (F.typeCall_zip_2 _ _) (F.newCall_zip_2 _ _) (fun obj => F.args_object_init_3 obj _ _) F.entry_zip_new
    (meets_zip_tup l1 l2 xs ys) ⟨hl1, hl2, ?_⟩
  have z1 : (zt1 s.heap l1).objs.size = s.heap.objs.size + 1 := Heap.size_push ..
  have z2 : (zt2 s.heap l1 l2).objs.size = s.heap.objs.size + 2 := by rw [Heap.size_push, z1]
  have z3 : (zt3 s.heap l1 l2).objs.size = s.heap.objs.size + 3 := by rw [Heap.size_push, z2]
  have z4 : (zt4 s.heap l1 l2).objs.size = s.heap.objs.size + 4 := by rw [Heap.size_push, z3]
  have z5 : (zt5 s.heap l1 l2).objs.size = s.heap.objs.size + 5 := by rw [Heap.size_push, z4]
  have g5 : (zt5 s.heap l1 l2).get? (zt4 s.heap l1 l2).objs.size = some _ := Heap.get?_push_size _ rfl
  have g4 : (zt5 s.heap l1 l2).get? (zt3 s.heap l1 l2).objs.size = some _ := Heap.get?_push_of_some _ (Heap.get?_push_size _ rfl)
  have g3 : (zt5 s.heap l1 l2).get? (zt2 s.heap l1 l2).objs.size = some _ := Heap.get?_push_of_some _ (Heap.get?_push_of_some _ (Heap.get?_push_size _ rfl))
  have g2 : (zt5 s.heap l1 l2).get? (zt1 s.heap l1).objs.size = some _ := Heap.get?_push_of_some _ (Heap.get?_push_of_some _ (Heap.get?_push_of_some _ (Heap.get?_push_size _ rfl)))
  have g1 : (zt5 s.heap l1 l2).get? s.heap.objs.size = some _ := Heap.get?_push_of_some _ (Heap.get?_push_of_some _ (Heap.get?_push_of_some _ (Heap.get?_push_of_some _ (Heap.get?_push_size _ rfl))))
  have up : ∀ c o, s.heap.get? c = some o → (zt5 s.heap l1 l2).get? c = some o := fun c o x =>
    Heap.get?_push_of_some _ (Heap.get?_push_of_some _ (Heap.get?_push_of_some _ (Heap.get?_push_of_some _ (Heap.get?_push_of_some _ x))))
  have a1 : l1 < s.heap.objs.size := by obtain ⟨_, e, _⟩ := hl1; exact Heap.lt_size e
  have a2 : l2 < s.heap.objs.size := by obtain ⟨_, e, _⟩ := hl2; exact Heap.lt_size e
  show _ ∧ _
  rw [z2, z3, z4] at g5
  rw [z1, z2] at g3
  rw [z3] at g4
  rw [z1] at g2
  rw [z4]
  refine ⟨⟨_, g5, rfl⟩, h _ _ (s.heap.objs.size + 2) (s.heap.objs.size + 3) s.heap.objs.size (s.heap.objs.size + 1) (zipApart_new a1 a2) (fun S _ => ⟨.inl g5, g3, ⟨_, _, g4⟩, ⟨_, g1, rfl, rfl⟩, ⟨_, g2, rfl, rfl⟩, hl1.at fun o e => up _ o e, hl2.at fun o e => up _ o e⟩)
    ⟨Nat.lt_of_lt_of_le Fh.ns.lt (Nat.le_add_right _ 4), Nat.lt_of_lt_of_le Fh.ns.lt (Nat.le_add_right _ 3), Fh.ns.lt, Nat.lt_of_lt_of_le Fh.ns.lt (Nat.le_add_right _ 1)⟩
    ⟨Nat.le_add_right _ 4, Nat.le_add_right _ 3, Nat.le_refl _, Nat.le_add_right _ 1⟩ (by rw [z5]; exact Nat.le_add_right _ 5) (fun p hp => Heap.lt_size (N p hp).1) (Fh.keeps up) (N.grown up)⟩

/-- the pairs of two rows of values, as objects of the ledger -/
inductive PairsIn (news : List (Addr × Obj)) : List Value → List Value → List Value → Prop
  | nil1 {ys : List Value} : PairsIn news [] [] ys
  | nil2 {xs : List Value} : PairsIn news [] xs []
  | cons {R : Addr} {x y : Value} {rs xs ys : List Value} : (R, ({ cls := .type "tuple", data := .seq [x, y].toArray 0 } : Obj)) ∈ news → PairsIn news rs xs ys → PairsIn news (.ref R :: rs) (x :: xs) (y :: ys)


theorem PairsIn.mono {news news' : List (Addr × Obj)} {rs xs ys : List Value} (h : PairsIn news rs xs ys) (hs : ∀ p ∈ news, p ∈ news') : PairsIn news' rs xs ys := by
  induction h with
  | nil1 => exact .nil1
  | nil2 => exact .nil2
  | cons hm _ ih => exact .cons (hs _ hm) ih

theorem pairs_of {h : Heap} {lo : Addr} : ∀ (xs ys rs : List Value), rs.length = min xs.length ys.length →
    (∀ j, j < min xs.length ys.length → ∃ R x y, rs[j]? = some (.ref R) ∧ xs[j]? = some x ∧ ys[j]? = some y ∧ IsPair h R x y ∧ lo ≤ R) →
    ∃ tl : List (Addr × Obj), PairsIn tl rs xs ys ∧ ∀ p ∈ tl, h.get? p.1 = some p.2 ∧ lo ≤ p.1
  | [], ys, rs, hl, _ => by
    have : rs = [] := List.length_eq_zero_iff.mp (by simpa using hl)
    subst this
    exact ⟨[], .nil1, fun _ hp => nomatch hp⟩
  | x :: xs, [], rs, hl, _ => by
    have : rs = [] := List.length_eq_zero_iff.mp (by simpa using hl)
    subst this
    exact ⟨[], .nil2, fun _ hp => nomatch hp⟩
  | x :: xs, y :: ys, [], hl, _ => by simp at hl
  | x :: xs, y :: ys, r :: rs, hl, hj => by
    have hl' : rs.length = min xs.length ys.length := by simp only [List.length_cons] at hl; omega
    obtain ⟨tl, ht, hp⟩ := pairs_of (h := h) (lo := lo) xs ys rs hl' fun j hj' => by
      obtain ⟨R, a, b, e1, e2, e3, e4, e5⟩ := hj (j + 1) (by simp only [List.length_cons]; omega)
      exact ⟨R, a, b, by simpa using e1, by simpa using e2, by simpa using e3, e4, e5⟩
    obtain ⟨R, a, b, e1, e2, e3, e4, e5⟩ := hj 0 (by simp only [List.length_cons]; omega)
    have f1 : r = .ref R := by simpa using e1
    have f2 : x = a := by simpa using e2
    have f3 : y = b := by simpa using e3
    subst f1 f2 f3
    refine ⟨(R, _) :: tl, .cons (.head _) (ht.mono fun p hp => .tail _ hp), fun p hp' => ?_⟩
    rcases List.mem_cons.mp hp' with rfl | hp'
    · exact ⟨e4, e5⟩
    · exact hp p hp'

theorem list_zip_N {h₀ : Heap} {L : Addr} {m : Str → Option Value} {news : List (Addr × Obj)} {Q : Value → Shared → Prop} {z TI TO i1 i2 l1 l2 : Addr} {xs ys : List Value} {K : Nat} (hh : A.handled = none) (Fh : Fr h₀ L s.heap m) (N : News h₀ L s.heap news)
    (D : Apart z TI TO i1 i2 l1 l2) (hn : min xs.length ys.length ≤ sizeLine) (Z : ∀ S, s.heap.objs.size ≤ S → ZS z TI TO i1 i2 l1 l2 S xs.toArray ys.toArray 0 s.heap)
    (hL : L < z ∧ L < TO ∧ L < i1 ∧ L < i2) (hK : K ≤ z ∧ K ≤ TO ∧ K ≤ i1 ∧ K ≤ i2) (hnews : ∀ p ∈ news, p.1 < K)
    (hQ : ∀ D rs c tl h' tk, Fr h₀ L h' m → News h₀ L h' ((D, listOf rs.toArray c) :: (tl ++ news)) → (∀ p ∈ news, p.1 < D) → (∀ p ∈ tl, D < p.1) → PairsIn tl rs xs ys → Q (.ref D) { s with heap := h', toks := tk }) :
    wpAny (model prog w) A (call (.type "list") [.ref z]) Q E s := by
  have hLs : L < s.heap.objs.size := Fh.ns.lt
  have old : ∀ b, b ≤ L → b ≠ z ∧ b ≠ TO ∧ b ≠ i1 ∧ b ≠ i2 := fun b hb => ⟨Nat.ne_of_lt (Nat.lt_of_le_of_lt hb hL.1), Nat.ne_of_lt (Nat.lt_of_le_of_lt hb hL.2.1), Nat.ne_of_lt (Nat.lt_of_le_of_lt hb hL.2.2.1), Nat.ne_of_lt (Nat.lt_of_le_of_lt hb hL.2.2.2)⟩
  refine call_list_zip hh D (by rw [List.size_toArray, List.size_toArray]; exact hn) Z fun h' tk acc' c' hk hS hT => ?_
  have F' : Fr h₀ L h' m := ⟨Fh.ns.at' fun o e => hk _ o (old _ (Nat.le_refl _)).1 (old _ (Nat.le_refl _)).2.1 (old _ (Nat.le_refl _)).2.2.1 (old _ (Nat.le_refl _)).2.2.2 e,
    fun b o e => by
      have hb : b ≤ L := Nat.le_of_lt (Nat.lt_of_lt_of_le (Heap.lt_size e) Fh.above)
      exact hk b o (old b hb).1 (old b hb).2.1 (old b hb).2.2.1 (old b hb).2.2.2 (Fh.keep b o e), Fh.above⟩
  have none₀ : ∀ b, L < b → h₀.get? b = none := fun b hb => Heap.get?_none_of_le (Nat.le_trans Fh.above (Nat.le_of_lt hb))
  have em : min xs.toArray.size ys.toArray.size = min xs.length ys.length := by rw [List.size_toArray, List.size_toArray]
  rw [em] at hT
  obtain ⟨tl, ht, hp⟩ := pairs_of (h := h') (lo := s.heap.objs.size + 1) xs ys acc'.toList (by rw [Array.length_toList, hT.1]) fun j hj => by
    obtain ⟨R, x, y, e1, e2, e3, e4, e5, _⟩ := hT.2 j hj
    exact ⟨R, x, y, by simpa using e1, by simpa using e2, by simpa using e3, e4, e5⟩
  refine hQ _ acc'.toList c' tl h' tk F' (fun p hp' => ?_) (fun p hp' => Heap.lt_size (N p hp').1) (fun p hp' => (hp p hp').2) ht
  rcases List.mem_cons.mp hp' with rfl | hp'
  · exact ⟨by simpa using hS, Nat.ne_of_gt hLs, none₀ _ hLs⟩
  · rcases List.mem_append.mp hp' with hp' | hp'
    · have := hp p hp'
      have hlt : L < p.1 := Nat.lt_of_lt_of_le (Nat.lt_succ_of_lt hLs) this.2
      exact ⟨this.1, Nat.ne_of_gt hlt, none₀ _ hlt⟩
    · have hb := hnews p hp'
      exact ⟨hk _ _ (Nat.ne_of_lt (Nat.lt_of_lt_of_le hb hK.1)) (Nat.ne_of_lt (Nat.lt_of_lt_of_le hb hK.2.1)) (Nat.ne_of_lt (Nat.lt_of_lt_of_le hb hK.2.2.1)) (Nat.ne_of_lt (Nat.lt_of_lt_of_le hb hK.2.2.2)) (N p hp').1, (N p hp').2⟩

/-- t[1:] of a tuple of any length -/
theorem slice_tup1 {h₀ : Heap} {L : Addr} {m : Str → Option Value} {news : List (Addr × Obj)} {value slice : Expr} {t : Addr} {vs : List Value} {n : Nat} {u : Tok} {Q : Value → Shared → Prop}
    (F : Fr h₀ L s.heap m) (N : News h₀ L s.heap news) (hm : (t, ({ cls := .type "tuple", data := .seq vs.toArray n } : Obj)) ∈ news) (hsz : vs.length ≤ sizeLine)
    (h : ∀ D n' h', Fr h₀ L h' m → News h₀ L h' ((D, ({ cls := .type "tuple", data := .seq (vs.drop 1).toArray n' } : Obj)) :: news) → Q (.ref D) { s with heap := h' })
    (hs : subscripted slice false (.ref t) (.ref s.heap.objs.size) = operate [.ref s.heap.objs.size, .ref t] (getItem (.ref t) (.ref s.heap.objs.size)))
    (hg : ∀ r, letTemporaryGo value (.ref t) r = pure ()) :
    wpAny (model prog w) A (subscriptTail value slice (.ref t) (.ref s.heap.objs.size)) Q E { s with heap := s.heap.push { cls := .type "slice", data := .fields #[.int 1 u, .none, .none] } } := by
  have ht : IsTup s.heap t vs.toArray := ⟨_, (N _ hm).1, rfl, _, rfl⟩
  cases vs with
  | cons v vs =>
    refine slice_tuple_from (a := 1) F N ht (Nat.le_refl _) (by simp) (fun h' F' N' => h _ 0 h' F' ?_) hs hg (by simpa using hsz)
    simpa using N'
  | nil =>
    have ht' : IsTup (s.heap.push { cls := .type "slice", data := .fields #[.int 1 u, .none, .none] }) t #[] := ht.keeps fun _ _ e => Heap.get?_push_of_some _ e
    have hsl := Heap.IsSliceOf.new s.heap (.int 1 u) .none .none
    have N1 : News h₀ L (s.heap.push { cls := .type "slice", data := .fields #[.int 1 u, .none, .none] }) news := N.grown fun _ _ e => Heap.get?_push_of_some _ e
    refine subscriptTail_ops (s := { s with heap := s.heap.push { cls := .type "slice", data := .fields #[.int 1 u, .none, .none] } }) ht'.typeIs slot_tuple_getitem.lookup ?_ hs hg
    have hQ : Q (.ref t) { s with heap := s.heap.push { cls := .type "slice", data := .fields #[.int 1 u, .none, .none] } } := by
      refine h t n _ (F.push _) fun p hp => ?_
      rcases List.mem_cons.mp hp with rfl | hp
      · exact N1 _ hm
      · exact N1 _ hp
    obtain ⟨os, hos, hcs, hds⟩ := id hsl
    have hTs : Shared.TypeIs { s with heap := s.heap.push { cls := .type "slice", data := .fields #[.int 1 u, .none, .none] } } (.ref s.heap.objs.size) "slice" := ⟨os, hos, hcs⟩
    unfold getItem
    try with_reducible refine wpAny_holding ?_
    first | refine wpAny_bind (wpAny_pure ?_) | skip
    refine wpAny_bind (wpAny_sequenceKey ht'.typeIs (by decide) ?_)
    refine wpAny_bind (wpAny_callSpecial?_slot (name := Str.ofString "__getitem__") ht'.typeIs slot_tuple_getitem
      (wpAny_call_entry slot_tuple_getitem ht'.typeIs entry_tuple_getitem ?_ (args_tuple_getitem _ _)))
    show wpAny _ _ (Builtin.Tuple.tupleItemsOf (.ref t) >>= _) _ _ _
    refine wpAny_bind (tupleItemsOf_ ht' ?_)
    refine wpAny_bind (wpAny_typeOf hTs ?_)
    rw [if_pos (by decide)]
    refine wpAny_bind (m := Builtin.Slice.sliceApplied _ _) ?_
    unfold Builtin.Slice.sliceApplied Builtin.Slice.sliceFields
    refine wpAny_bind (wpAny_bind (wpAny_field hos hds (x := .int 1 u) rfl (wpAny_bind (wpAny_field hos hds (x := .none) rfl (wpAny_bind (wpAny_field hos hds (x := .none) rfl (wpAny_pure ?_)))))))
    refine wpAny_bind (slicePart_none ?_)
    show wpAny _ _ (if ((1 : Int) == 0) = true then _ else _) _ _ _
    rw [if_neg (by decide)]
    refine wpAny_bind (slicePart_int (wpAny_bind (slicePart_none (wpAny_bind (wpAny_pure ?_)))))
    have e0 : Builtin.Slice.sliceAdjust (some (1 : Int)) none 1 (((#[] : Array Value).size : Nat) : Int) = (0, 0) := by decide
    show wpAny _ _ (match Builtin.Slice.sliceAdjust (some (1 : Int)) none 1 (((#[] : Array Value).size : Nat) : Int) with | (lo, hi) => pure (lo, (1 : Int), Builtin.Slice.slicePlaces lo hi 1)) _ _ _
    rw [e0]
    refine wpAny_pure ?_
    show wpAny _ _ (if ((0 : Int) == 0 && (1 : Int) == 1 && Builtin.Slice.slicePlaces 0 0 1 == (#[] : Array Value).size) = true then _ else _) _ _ _
    rw [if_pos (by decide)]
    show wpAny _ _ (Builtin.Tuple.tupleIsExact (.ref t) >>= _) _ _ _
    unfold Builtin.Tuple.tupleIsExact
    refine wpAny_bind (wpAny_bind (wpAny_typeOf ht'.typeIs (wpAny_pure ?_)))
    rw [if_pos (by decide)]
    exact wpAny_bind (wpAny_rule (wpAny_pure ⟨_, rfl, wpAny_pure hQ⟩))
end
end PartZT

section PartLP
theorem append_mem {prog : Program} {w : World} {A : Around} {E : Value → Shared → Prop} {s : Shared} {h₀ : Heap} {L D : Addr} {m : Str → Option Value} {news : List (Addr × Obj)} {its : Array Value} {n : Nat} {x : Value} {Q : Value → Shared → Prop} (F : Fr h₀ L s.heap m) (N : News h₀ L s.heap news) (hm : (D, listOf its n) ∈ news)
    (h : ∀ h', Fr h₀ L h' m → (∀ rest : List (Addr × Obj), (∀ p ∈ rest, p ∈ news ∧ p.1 ≠ D) → News h₀ L h' ((D, listOf (its.push x) (n + 1)) :: rest)) → Q .none { s with heap := h' }) (hsz : its.size ≤ sizeLine) :
    wpAny (model prog w) A (call (.builtin "list.append") [.ref D, x]) Q E s :=
  append_at (hsz := hsz) (N _ hm).1 fun h' hs ho' => h h' (F.change hs (N _ hm).2.1 (N _ hm).2.2) fun rest hr p hp => by
    rcases List.mem_cons.mp hp with rfl | hp
    · exact ⟨ho', (N _ hm).2⟩
    · exact ⟨hs.extBut _ _ (hr p hp).2 (N p (hr p hp).1).1, (N p (hr p hp).1).2⟩
inductive Are {α : Type} (R : List (Addr × Obj) → Value → α → Prop) (news : List (Addr × Obj)) : List Value → List α → Prop
  | nil : Are R news [] []
  | cons {v : Value} {vs : List Value} {d : α} {ds : List α} : R news v d → Are R news vs ds → Are R news (v :: vs) (d :: ds)
section
variable {α : Type} {R : List (Addr × Obj) → Value → α → Prop} {news news' : List (Addr × Obj)} {vs ws : List Value} {ds es : List α}
theorem Are.mono (hR : ∀ {v d}, R news v d → R news' v d) (h : Are R news vs ds) : Are R news' vs ds := by
  induction h with
  | nil => exact .nil
  | cons a _ ih => exact .cons (hR a) ih
theorem Are.length (h : Are R news vs ds) : vs.length = ds.length := by
  induction h with
  | nil => rfl
  | cons _ _ ih => simp [ih]
theorem Are.append (h : Are R news vs ds) (k : Are R news ws es) : Are R news (vs ++ ws) (ds ++ es) := by
  induction h with
  | nil => exact k
  | cons a _ ih => exact .cons a ih
theorem Are.one {v : Value} {d : α} (h : R news v d) : Are R news [v] [d] := .cons h .nil
theorem Are.drop (h : Are R news vs ds) : ∀ n, Are R news (vs.drop n) (ds.drop n) := by
  induction h with
  | nil => intro n; simpa using .nil
  | cons a b ih =>
    intro n
    cases n with
    | zero => exact .cons a b
    | succ n => exact ih n
theorem Are.get (h : Are R news vs ds) : ∀ {k : Nat} {d : α}, ds[k]? = some d → ∃ v, vs[k]? = some v ∧ R news v d := by
  induction h with
  | nil => intro k d e; simp at e
  | cons a _ ih =>
    intro k d e
    cases k with
    | zero => have e' := Option.some.inj (by simpa using e); exact ⟨_, rfl, e' ▸ a⟩
    | succ k => exact ih (by simpa using e)
end
section
variable {prog : Program} {w : World} {A : Around} {E : Value → Shared → Prop} {s : Shared} {env : Env} {h₀ : Heap} {target : Expr} {body : List Stmt} {Q : Flow → Shared → Prop}
def TurnEnd (h₀ : Heap) (L I : Addr) (o : Obj) (keep : List (Addr × Obj)) (s₁ : Shared) (Jn : (Str → Option Value) → List (Addr × Obj) → Prop) (s₂ : Shared) : Prop :=
  ∃ h' tk m' news', s₂ = { s₁ with heap := h', toks := tk } ∧ Fr h₀ L h' m' ∧ News h₀ L h' ((I, o) :: news') ∧ (∀ p ∈ news', p.1 ≠ I) ∧ SubL keep news' ∧ Jn m' news'
def TurnPost (h₀ : Heap) (L I : Addr) (o : Obj) (keep : List (Addr × Obj)) (s₁ : Shared) (Jn : (Str → Option Value) → List (Addr × Obj) → Prop) (Q : Flow → Shared → Prop) (f : Flow) (s₂ : Shared) : Prop :=
  match f with
  | .ret v => Q (.ret v) s₂
  | .brk => Q .next s₂
  | _ => TurnEnd h₀ L I o keep s₁ Jn s₂
theorem TurnPost.up {L I : Addr} {o : Obj} {keep : List (Addr × Obj)} {s₁ s₂ : Shared} {J J' : (Str → Option Value) → List (Addr × Obj) → Prop} {f : Flow} (h : TurnPost h₀ L I o keep s₁ J Q f s₂) (up : ∀ m n, J m n → J' m n) :
    UnrPostW h₀ L s₁ [(I, o)] (fun m' n' => SubL keep n' ∧ J' m' n') Q f s₂ := by
  have e : TurnEnd h₀ L I o keep s₁ J s₂ → UnrEndW h₀ L s₁ [(I, o)] (fun m' n' => SubL keep n' ∧ J' m' n') s₂ := by
    rintro ⟨h', tk, m', news', e, F, N, ho, hk, j⟩
    exact ⟨h', tk, m', news', e, F, N, fun p hp q hq => by rw [List.mem_singleton.mp hq]; exact ho p hp, hk, up _ _ j⟩
  cases f with
  | ret v => exact h
  | brk => exact h
  | next => exact e h
  | cont => exact e h
theorem items_ind {α : Type} {R : List (Addr × Obj) → Value → α → Prop} {G : List (Addr × Obj)} {I : Addr} {cn : String} {keep : List (Addr × Obj)} (J : List α → (Str → Option Value) → List (Addr × Obj) → Prop)
    (turn : ∀ d ds v m news h tk o, R G v d → J (d :: ds) m news → Fr h₀ env.locals h m → o.cls = .type cn → News h₀ env.locals h ((I, o) :: news) →
      wpAny (model prog w) A (assign target env v) (fun _ s₂ => wpAny (model prog w) A (execs body env) (TurnPost h₀ env.locals I o keep { s with heap := h, toks := tk } (J ds) Q) E s₂) E { s with heap := h, toks := tk })
    (fin : ∀ m news h tk, J [] m news → Fr h₀ env.locals h m → News h₀ env.locals h news → Q .next { s with heap := h, toks := tk }) :
    ∀ {vs : List Value} {ds : List α}, Are R G vs ds → ∀ {m : Str → Option Value} {news : List (Addr × Obj)}, J ds m news → ItemsRest prog w A E h₀ env target body Q s [(I, cn)] keep (vs.map .val) m news := by
  intro vs ds h
  induction h with
  | nil => exact fun {m news} j => ItemsRest.zero fun h tk F N => fin m news h tk j F N
  | cons hd _ ih =>
    intro m news j
    refine ItemsRest.val fun h tk F o ho N => ?_
    refine wpAny_mono (turn _ _ _ m news h tk o hd j F ho N) (fun _ s₂ p => wpAny_mono p (fun f s₃ q => q.up fun m n j => ih j) fun _ _ e => e) fun _ _ e => e
end
section
variable {prog : Program} {w : World} {A : Around} {h₀ : Heap} {L : Addr} {m : Str → Option Value} {env : Env} {elt : Expr} {x : Str} {scope : Scope} {cl : List (Str × Addr)} {s : Shared} {S : List (Addr × Obj) → Prop} {Fin : List Value → List (Addr × Obj) → Prop}
theorem comp_ind {P : Nat → Value → Prop} {n : Nat} (J : Nat → List Value → List (Addr × Obj) → Prop)
    (turn : ∀ i ys news v I oI C oC D m₂ h tk (E' : Value → Shared → Prop), i < n → P i v → J i ys news → LCg.NsObj oC m₂ → m₂ x = some v → Fr h₀ L h m → News h₀ L h ((I, oI) :: (C, oC) :: (D, LCg.lst ys) :: news) → LCg.Off3 I C D news → ((@Ne Nat I C) ∧ (@Ne Nat I D) ∧ (@Ne Nat C D)) →
      wpAny (model prog w) A (eval elt (compEnvC scope cl C env)) (LCg.CompEnd h₀ L m { s with heap := h, toks := tk } I oI C oC D (LCg.lst ys) S (fun y news' => J (i + 1) (ys ++ [y]) news')) E' { s with heap := h, toks := tk })
    (fin : ∀ ys news, J n ys news → Fin ys news) :
    ∀ (k i : Nat) (ys : List Value) (news : List (Addr × Obj)), i + k = n → J i ys news → LCg.CompRest prog w A h₀ L m env elt x scope cl s S P Fin k i ys news := by
  intro k
  induction k with
  | zero =>
    intro i ys news hi j
    have : i = n := by omega
    exact LCg.CompRest.zero (fin ys news (this ▸ j))
  | succ k ih =>
    intro i ys news hi j
    refine LCg.CompRest.succ fun v I oI C oC D m₂ h tk E' hP hC hx F N off ne => ?_
    refine wpAny_mono (turn i ys news v I oI C oC D m₂ h tk E' (by omega) hP j hC hx F N off ne) (fun y s₂ e => ?_) fun _ _ e => e
    obtain ⟨h', tk', news', e1, F', N', off', hS, hj⟩ := e
    exact ⟨h', tk', news', e1, F', N', off', hS, ih (i + 1) _ _ (by omega) hj⟩
theorem off3_of {I C D : Addr} {news : List (Addr × Obj)} (h1 : ∀ p ∈ news, p.1 ≠ I) (h2 : ∀ p ∈ news, p.1 ≠ C) (h3 : ∀ p ∈ news, p.1 ≠ D) : LCg.Off3 I C D news := LCg.Off3.of fun p hp => ⟨h1 p hp, h2 p hp, h3 p hp⟩
end
end PartLP

section PartSC
local macro_rules | `(tactic| k_room) => `(tactic| ktr_room)
local macro_rules | `(tactic| k_units) => `(tactic| ktr_units)

local macro_rules | `(tactic| walk_at "execs cons") => `(tactic| ((with_reducible show wpAny _ _ _ _ _ (Shared.mk _ _ _ (_ + _) _)); refine tok_gen (fun tk => ?_)))
local macro_rules | `(tactic| walk_at "execs nil") => `(tactic| ((with_reducible show wpAny _ _ _ _ _ (Shared.mk _ _ _ (_ + _) _)); refine tok_gen (fun tk => ?_)))
local macro_rules | `(tactic| walk_at "call builtin:list.append") => `(tactic| (refine Stop.mk ?_))
def Stop (P : Prop) : Prop := P
theorem Stop.mk {P : Prop} (h : Stop P) : P := h
theorem Stop.out {P : Prop} (h : P) : Stop P := h
local macro_rules | `(tactic| walk_at "call ref") => `(tactic| ((with_reducible show wpAny _ _ (call (Value.ref 70) [_, _]) _ _ _); refine Stop.mk ?_))
local macro_rules | `(tactic| walk_at "eval List") => `(tactic| ((with_reducible show wpAny _ _ (eval (PySem.Expr.List [] _) _) _ _ _); refine Stop.mk ?_))
inductive SpotIn (news : List (Addr × Obj)) : Value → Int × Int → Prop
  | mk {o : Addr} {x y : Int} {t1 t2 : Tok} {n : Nat} : (o, tupO [.int x t1, .int y t2] n) ∈ news → SpotIn news (.ref o) (x, y)
theorem SpotIn.mono {news news' : List (Addr × Obj)} {v : Value} {p : Int × Int} (h : SpotIn news v p) (hs : ∀ q ∈ news, q ∈ news') : SpotIn news' v p := by
  cases h with
  | mk a => exact .mk (hs _ a)
theorem SpotIn.handed {news : List (Addr × Obj)} {v : Value} {p : Int × Int} (h : SpotIn news v p) : handedIn v = true := by cases h; rfl
inductive PairIn (news : List (Addr × Obj)) : Value → (Int × Int) × (Int × Int) → Prop
  | mk {r : Addr} {v u : Value} {p q : Int × Int} {n : Nat} : (r, tupO [v, u] n) ∈ news → SpotIn news v p → SpotIn news u q → PairIn news (.ref r) (p, q)
theorem PairIn.inv {news : List (Addr × Obj)} {v : Value} {d : (Int × Int) × (Int × Int)} (h : PairIn news v d) : ∃ (r o1 o2 : Addr) (x1 y1 x2 y2 : Int) (t1 t2 t3 t4 : Tok) (n n1 n2 : Nat), v = .ref r ∧ d = ((x1, y1), (x2, y2)) ∧
    (r, tupO [.ref o1, .ref o2] n) ∈ news ∧ (o1, tupO [.int x1 t1, .int y1 t2] n1) ∈ news ∧ (o2, tupO [.int x2 t3, .int y2 t4] n2) ∈ news := by
  cases h with
  | mk hr s1 s2 => cases s1 with
    | mk h1 => cases s2 with
      | mk h2 => exact ⟨_, _, _, _, _, _, _, _, _, _, _, _, _, _, rfl, rfl, hr, h1, h2⟩
theorem PairIn.mono {news news' : List (Addr × Obj)} {v : Value} {p : (Int × Int) × (Int × Int)} (h : PairIn news v p) (hs : ∀ q ∈ news, q ∈ news') : PairIn news' v p := by
  cases h with
  | mk a b c => exact .mk (hs _ a) (b.mono hs) (c.mono hs)
theorem pairs_are {tl news : List (Addr × Obj)} {rs xs ys : List Value} (h : PairsIn tl rs xs ys) (ht : ∀ p ∈ tl, p ∈ news) : ∀ {ps qs : List (Int × Int)}, Are SpotIn news xs ps → Are SpotIn news ys qs → Are PairIn news rs (ps.zip qs) := by
  induction h with
  | nil1 => intro ps qs a b; cases a; simpa using .nil
  | nil2 => intro ps qs a b; cases b; simpa using .nil
  | cons hm _ ih =>
    intro ps qs a b
    cases a with
    | cons a1 a2 => cases b with
      | cons b1 b2 => exact .cons (.mk (ht _ hm) a1 b1) (ih a2 b2)

/-- the pairs of neighbours; of a closed row also the one from the last to the first -/
def pairsOf (ps : List (Int × Int)) : List ((Int × Int) × (Int × Int)) := ps.zip (ps.drop 1)
def closing (c : Bool) (ps : List (Int × Int)) : List ((Int × Int) × (Int × Int)) :=
  if c = true ∧ 1 < ps.length then [(ps.getLastD (0, 0), ps.headD (0, 0))] else []
def sidesOf (prs : List ((Int × Int) × (Int × Int))) : List Sd := prs.filterMap fun p => side p.1 p.2

theorem last_at {ps : List (Int × Int)} (h : 1 < ps.length) : ps[ps.length - 1]? = some (ps.getLastD (0, 0)) := by
  cases ps with
  | nil => simp at h
  | cons p ps =>
    rw [List.getElem?_eq_getElem (by simp)]
    simp [List.getLastD_eq_getLast?, List.getLast?_eq_getElem?]
theorem first_at {ps : List (Int × Int)} (h : 1 < ps.length) : ps[0]? = some (ps.headD (0, 0)) := by
  cases ps with
  | nil => simp at h
  | cons p ps => rfl
theorem idx_last {n : Nat} (h : 1 < n) : seqIndex? (-1) n = some (n - 1) := by
  unfold seqIndex?
  have h1 : ¬ ((-1 : Int) ≥ 0) := by omega
  simp only [h1, if_false]
  first
    | (split <;> first | (congr 1; omega) | omega)
    | (simp; omega)
theorem idx_first {n : Nat} (h : 1 < n) : seqIndex? 0 n = some 0 := by
  unfold seqIndex?
  first
    | (simp; omega)
    | (split <;> first | (congr 1; omega) | omega)

theorem prep_gt {g h : Heap} {L D P : Addr} {n0 k' : Nat} {v9 v8 : Value} {rs : List Value} {G news : List (Addr × Obj)} {ps : List (Int × Int)} (N : News g L h ((P, listOf (rs.toArray.push (.ref D)) k') :: (D, tupO [v9, v8] n0) :: G))
    (hp : Are PairIn G rs (pairsOf ps)) (h9 : SpotIn G v9 (ps.getLastD (0, 0))) (h8 : SpotIn G v8 (ps.headD (0, 0))) (hgt : 1 < ps.length) (hs : ∀ p ∈ news, p ∈ G) :
    ∃ R rs2 k2, News g L h R ∧ (P, listOf rs2.toArray k2) ∈ R ∧ Are PairIn R rs2 (pairsOf ps ++ closing true ps) ∧ (∀ p ∈ news, p ∈ R) := by
  have up : ∀ p ∈ G, p ∈ (P, listOf (rs.toArray.push (.ref D)) k') :: (D, tupO [v9, v8] n0) :: G := fun p hp => List.mem_cons_of_mem _ (List.mem_cons_of_mem _ hp)
  have hcl : closing true ps = [(ps.getLastD (0, 0), ps.headD (0, 0))] := by simp [closing, hgt]
  refine ⟨_, rs ++ [.ref D], k', N, ?_, ?_, fun p hp => up p (hs p hp)⟩
  · rw [← List.push_toArray]
    exact List.mem_cons_self ..
  · rw [hcl]
    exact (hp.mono fun h => h.mono up).append (.one (.mk (List.mem_cons_of_mem _ (List.mem_cons_self ..)) (h9.mono up) (h8.mono up)))
theorem prep_id {g h : Heap} {L P : Addr} {k : Nat} {rs : List Value} {G news : List (Addr × Obj)} {ps : List (Int × Int)} {c : Bool} (N : News g L h ((P, listOf rs.toArray k) :: G))
    (hp : Are PairIn G rs (pairsOf ps)) (hc : closing c ps = []) (hs : ∀ p ∈ news, p ∈ G) :
    ∃ R rs2 k2, News g L h R ∧ (P, listOf rs2.toArray k2) ∈ R ∧ Are PairIn R rs2 (pairsOf ps ++ closing c ps) ∧ (∀ p ∈ news, p ∈ R) :=
  ⟨_, rs, k, N, List.mem_cons_self .., by rw [hc, List.append_nil]; exact hp.mono fun h => h.mono fun p hp => List.mem_cons_of_mem _ hp, fun p hp => List.mem_cons_of_mem _ (hs p hp)⟩

theorem fr_name {m : Str → Option Value} (x : Str) {v : Value} (h : m x = some v) : m = fun y => if y = x then some v else m y := by
  funext y
  by_cases hy : y = x
  · rw [if_pos hy, hy, h]
  · rw [if_neg hy]
theorem sidesOf_snoc_none {dn : List ((Int × Int) × (Int × Int))} {p q : Int × Int} (h : side p q = none) : sidesOf (dn ++ [(p, q)]) = sidesOf dn := by
  simp [sidesOf, h]
theorem sidesOf_snoc_some {dn : List ((Int × Int) × (Int × Int))} {p q : Int × Int} {e : Sd} (h : side p q = some e) : sidesOf (dn ++ [(p, q)]) = sidesOf dn ++ [e] := by
  simp [sidesOf, h]
theorem closing_len (c : Bool) (ps : List (Int × Int)) : (closing c ps).length ≤ 1 := by
  unfold closing
  split <;> simp

set_option maxRecDepth 100000 in
set_option maxHeartbeats 8000000 in
theorem sc_spec {w : World} {loose : List Str} {mean : ExcName → Option Value} {mg mb : Str → Option Value}
    {dp un : Nat} {gd : Option (List Code)} {cn : Str} {cs : Scope} {a : Addr} {ccd : Value} {cl : List (Str × Addr)} {outer : List Env} {A₀ : Around} {base h₀ : Heap} {L : Addr} {m : Str → Option Value} {news : List (Addr × Obj)} {s : Shared}
    {Q E : Value → Shared → Prop} {t : Addr} {vs : List Value} {n : Nat} {ps : List (Int × Int)} {c : Bool}
    (B : Below A₀ base outer h₀) (F : Fr h₀ L s.heap m) (X : (hd.heap_39 w.params).In h₀) (N : News h₀ L s.heap news) (T : Top hd.view_39 loose mean mg mb h₀) (hk : cs.kind = .function)
    (ht : (t, tupO vs n) ∈ news) (hvs : Are SpotIn news vs ps) (hlen : ps.length ≤ 100)
    (hdp : dp + 40 < recursionLimit) (hun : un + 400 < cLine)
    (ret : ∀ D rs k tl h' tk', Fr h₀ L h' m → News h₀ L h' (tl ++ news) → (D, listOf rs.toArray k) ∈ tl → Are (SideIn w.params) tl rs (sidesOf (pairsOf ps ++ closing c ps)) →
      (∀ p ∈ tl, ∀ q ∈ news, q.1 < p.1) → Q (.ref D) { s with heap := h', toks := tk' }) :
    wpAny (model PySem.Challenge.rw_xm0712_01.row.prog w) (ktrTop dp un gd cn cs L a ccd cl outer) (call (.ref 77) [.ref t, .bool c]) Q E s := by
  revert X; k_fill; intro X
  have hKd9 := kdMark
  have hlv : vs.length = ps.length := hvs.length
  have hsl : vs.length ≤ sizeLine := by rw [hlv, sizeLine_eq]; omega
  refine wpAny_call ?_
  k_dflt ktr_enter
  k_steps
  rename Fr _ _ _ _ => F1
  rename News _ _ _ _ => N1
  k_dflt (refine' slice_tup1 F1 N1 ?m ?z ?_ ?s ?g; (case m => assumption); (case z => assumption); (case s => with_unfolding_all rfl); (case g => intro _; with_unfolding_all rfl))
  intro D' n' h' F' N'
  k_steps
  rename Fr _ _ _ _ => F2
  rename News _ _ _ _ => N2
  have m2 : (t, tupO vs n) ∈ (D', tupO (vs.drop 1) n') :: news := List.mem_cons_of_mem _ ht
  refine call_zip_tup F2 N2 (xs := vs.toArray) (ys := (vs.drop 1).toArray) ⟨_, (N2 _ m2).1, rfl, _, rfl⟩ ⟨_, (N2 _ (List.mem_cons_self ..)).1, rfl, _, rfl⟩ ?_
  intro h'' z TI TO i1 i2 ap Z hL hK hKl hlow F' N'
  k_steps
  rename Fr _ _ _ _ => F3
  rename News _ _ _ _ => N3
  refine list_zip_N (K := Array.size (Heap.objs _)) (by rfl) F3 N3 ap (by rw [List.length_drop]; omega) Z hL hK hlow ?_
  intro P rs k tl h3 tk3 F' N' l1 l2 hpairs
  have N' := (show News _ _ h3 _ from N')
  obtain ⟨G, hG⟩ : ∃ G, G = tl ++ (D', tupO (vs.drop 1) n') :: news := ⟨_, rfl⟩
  have sub1 : ∀ p ∈ tl, p ∈ G := fun p hp => hG ▸ List.mem_append.mpr (.inl hp)
  have sub2 : ∀ p ∈ news, p ∈ G := fun p hp => hG ▸ List.mem_append.mpr (.inr (List.mem_cons_of_mem _ hp))
  have hprs : Are PairIn G rs (pairsOf ps) := pairs_are hpairs sub1 (hvs.mono fun h => h.mono sub2) ((hvs.drop 1).mono fun h => h.mono sub2)
  have htG : (t, tupO vs n) ∈ G := sub2 _ ht
  have hvG : Are SpotIn G vs ps := hvs.mono fun h => h.mono sub2
  have offG : OwnOff G [P] := by
    intro p hp b hb
    rw [List.mem_singleton.mp hb]
    rw [hG] at hp
    rcases List.mem_append.mp hp with hp | hp
    · exact Nat.ne_of_gt (l2 p hp)
    · exact Nat.ne_of_lt (l1 p hp)
  rw [← hG] at N'
  clear hG sub1 hpairs l1 l2 hvs ht
  have hzl : (pairsOf ps).length ≤ 100 := by simp only [pairsOf, List.length_zip, List.length_drop]; omega
  have hrl : rs.length ≤ 100 := by rw [hprs.length]; exact hzl
  cases c
  case' false =>
    k_steps
    rename News _ _ _ _ => Na
    have hPx := prep_id (c := false) Na hprs (by simp [closing]) sub2
  case' true =>
    k_steps
    rename Fr _ _ _ _ => F4
    rename News _ _ _ _ => N4
    refine len_tuple (items := vs.toArray) ⟨_, (N4 _ (List.mem_cons_of_mem _ htG)).1, rfl, _, rfl⟩ (by rw [List.size_toArray, hlv]; omega) ?_
    rw [show (vs.toArray.size : Int) = (ps.length : Int) by rw [List.size_toArray, hlv]]
    k_steps
  any_goals (
    rename 1 < (ps.length : Int) => hgt
    have hgt' : 1 < ps.length := by omega
    obtain ⟨v9, e9, s9⟩ := hvG.get (last_at hgt')
    obtain ⟨v8, e8, s8⟩ := hvG.get (first_at hgt')
    have hh9 : handedIn v9 = true := s9.handed
    have hh8 : handedIn v8 = true := s8.handed
    rename Fr _ _ _ _ => F5
    rename News _ _ _ _ => N5
    refine item_tupleL (l := vs) (j := ps.length - 1) (x := v9) ⟨_, (N5 _ (List.mem_cons_of_mem _ htG)).1, rfl, _, rfl⟩ (by decide) (by decide) (by rw [hlv]; exact idx_last hgt') e9 ?_
    k_steps
    rename Fr _ _ _ _ => F6
    rename News _ _ _ _ => N6
    refine item_tupleL (l := vs) (j := 0) (x := v8) ⟨_, (N6 _ (List.mem_cons_of_mem _ htG)).1, rfl, _, rfl⟩ (by decide) (by decide) (by rw [hlv]; exact idx_first hgt') e8 ?_
    k_steps
    rename Fr _ _ _ _ => Fa
    rename News _ _ _ _ => Nb
    rename _ ∧ AllLt _ _ => la
    refine Stop.out (append_mem Fa Nb (.tail _ (.head _)) ?_ (by rw [List.size_toArray, sizeLine_eq]; omega))
    intro hb Fb Nb'
    have Na := Nb' (_ :: G) (List.forall_mem_cons.mpr ⟨⟨.head _, Nat.ne_of_gt la.1⟩, fun p hp => ⟨.tail _ (.tail _ hp), offG p hp _ (List.mem_cons_self ..)⟩⟩)
    clear Nb' Nb
    k_steps
    rename News _ _ _ _ => Na
    have hPx := prep_gt Na hprs s9 s8 hgt' sub2)
  any_goals (
    rename ¬ 1 < (ps.length : Int) => hgt
    rename News _ _ _ _ => Na
    have hPx := prep_id (c := true) Na hprs (by simp only [closing]; rw [if_neg]; omega) sub2)
  all_goals (
    obtain ⟨R, rs2, k2, N7, hPR, hprs2, hsubR⟩ := hPx
    rename Fr _ _ _ _ => F7
    clear Na hprs htG hvG offG
    refine Stop.out (List_ ?_)
    walk1
    k_dflt (refine' newList_K ?k1 ?k2 ?_; (case k1 => exact F7); (case k2 => exact N7))
    intro fd h8 F8 N8 l8
    k_steps
    rename Fr _ _ _ _ => F9
    rename News _ _ _ _ => N9
    with_unfolding_all refine' For_turns F9 ?_
    k_steps
    rename Fr _ _ _ _ => Fc
    rename News _ _ _ _ => Nc
    refine iter_listTurns (lo := listOf rs2.toArray k2) (vs := rs2) (n := k2) (by rfl) Fc Nc (List.mem_cons_of_mem _ hPR) (by rfl) (by rfl) ?_
    intro I hI)
  all_goals (
    have hpl := closing_len true ps
    have hpl2 := closing_len false ps
    have hql : ∃ prs, (∀ D rs k tl h' tk', Fr h₀ L h' m → News h₀ L h' (tl ++ news) → (D, listOf rs.toArray k) ∈ tl → Are (SideIn w.params) tl rs (sidesOf prs) →
      (∀ p ∈ tl, ∀ q ∈ news, q.1 < p.1) → Q (.ref D) { s with heap := h', toks := tk' }) ∧ Are PairIn R rs2 prs ∧ prs.length ≤ 101 :=
      ⟨_, ret, hprs2, by rw [List.length_append]; omega⟩
    clear ret hprs2 hpl hpl2
    obtain ⟨prs, ret, hprs2, hpl⟩ := hql
    refine items_ind (J := fun rest m nl => ∃ (u : Str → Option Value) (ys : List Value) (c : Nat) (tl2 : List (Addr × Obj)) (dn : List ((Int × Int) × (Int × Int))), dn ++ rest = prs ∧ m = (fun y => if y = Str.ofString "found" then some (.ref fd) else u y) ∧ nl = (fd, listOf ys.toArray c) :: (tl2 ++ R) ∧
      Are (SideIn w.params) tl2 ys (sidesOf dn) ∧ (∀ p ∈ tl2, fd < p.1 ∧ p.1 ≠ I) ∧ ys.length ≤ dn.length) ?_ ?_ hprs2 ⟨_, [], 0, [], [], rfl, rfl, rfl, .nil, (fun _ hp => nomatch hp), Nat.le_refl _⟩
    · intro d ds v m9 nl9 h9 tk9 o9 hR hJ F9 ho9 N9
      obtain ⟨u, ys, c, tl2, dn, hdn, hm, hnl, hys, htl, hyl⟩ := hJ
      subst hm hnl
      obtain ⟨r, o1, o2, x1, y1, x2, y2, t1, t2, t3, t4, n9, n1, n2, rfl, rfl, hr, ho1, ho2⟩ := hR.inv
      have up : ∀ p ∈ R, p ∈ (I, o9) :: (fd, listOf ys.toArray c) :: (tl2 ++ R) := fun p hp => List.mem_cons_of_mem _ (List.mem_cons_of_mem _ (List.mem_append_right _ hp))
      have hT := show IsTup h9 _ _ from ⟨_, (N9 _ (up _ hr)).1, rfl, _, rfl⟩
      have hIfd : fd < I := hI (fd, listOf #[] 0) (List.mem_cons_self ..)
      have of1 : OwnOff tl2 [fd] := fun p hp b hb => by rw [List.mem_singleton.mp hb]; exact Nat.ne_of_gt (htl p hp).1
      have of2 : OwnOff R [fd] := fun p hp b hb => by rw [List.mem_singleton.mp hb]; exact Nat.ne_of_lt (l8 p hp)
      have hysz : ys.length ≤ 101 := by
        have e9 := congrArg List.length hdn
        rw [List.length_append, List.length_cons] at e9
        omega
      k_steps
      rename Fr _ _ _ _ => Fx
      rename News _ _ _ _ => Nx
      refine Stop.out (sb_spec (by k_asm) Fx (by k_asm) Nx (by k_asm) (by exact rfl) (up _ ho1) (up _ ho2) (by ktr_room) (by ktr_units) ?_ ?_)
      · intro hs hz tkz Fz Nz
        k_steps
        rename Fr _ _ _ _ => Fe
        rename News _ _ _ _ => Ne
        refine ⟨_, _, _, (fd, listOf ys.toArray c) :: (tl2 ++ R), rfl, Fe, Ne, ?_, ⟨List.mem_cons_of_mem _ (List.mem_append_right _ hPR), trivial⟩, _, ys, c, tl2, dn ++ [((x1, y1), (x2, y2))], ?_, fr_name (Str.ofString "found") (by with_unfolding_all rfl), rfl, ?_, htl, ?_⟩
        · intro p hp
          rcases List.mem_cons.mp hp with rfl | hp
          · exact Nat.ne_of_lt hIfd
          · rcases List.mem_append.mp hp with hp | hp
            · exact (htl p hp).2
            · exact Nat.ne_of_lt (hI p (List.mem_cons_of_mem _ hp))
        · rw [List.append_assoc]; exact hdn
        · rw [sidesOf_snoc_none hs]; exact hys
        · rw [List.length_append]; omega
      · intro e hs x dx k1 k2 k3 k4 k5 u1 u2 u3 u4 u5 hz tkz Fz Nz hlt hlt2
        have hfd : fd < dx := hlt (fd, listOf ys.toArray c) (List.mem_cons_of_mem _ (List.mem_cons_self ..))
        have hId : I < dx := hlt (I, o9) (List.mem_cons_self ..)
        k_steps
        rename Fr _ _ _ _ => Fa
        rename News _ _ _ _ => Na
        refine Stop.out (append_K Fa Na (Upd.tail (Nat.ne_of_gt (Nat.lt_trans hfd hlt2)) (Upd.tail (Nat.ne_of_gt hfd) (Upd.tail (Nat.ne_of_gt hIfd) (Upd.head ?_)))) ?_ (by rw [List.size_toArray, sizeLine_eq]; omega))
        · intro p hp
          rcases List.mem_append.mp hp with hp | hp
          · exact of1 p hp _ (List.mem_cons_self ..)
          · exact of2 p hp _ (List.mem_cons_self ..)
        · intro hb Fb Nb
          k_steps
          rename Fr _ _ _ _ => Fe
          rename News _ _ _ _ => Ne
          refine ⟨_, _, _, (fd, listOf (ys ++ [Value.ref x]).toArray (c + 1)) :: (((x, instObj 59 dx) :: (dx, sideO w.params k1 k2 k3 k4 k5 (.int e.x1 u1) (.int e.y1 u2) (.int e.x2 u3) (.int e.y2 u4) (.int e.way u5)) :: tl2) ++ R), rfl, Fe, ?_, ?_, ⟨List.mem_cons_of_mem _ (List.mem_append_right _ hPR), trivial⟩,
            _, ys ++ [Value.ref x], c + 1, (x, instObj 59 dx) :: (dx, sideO w.params k1 k2 k3 k4 k5 (.int e.x1 u1) (.int e.y1 u2) (.int e.x2 u3) (.int e.y2 u4) (.int e.way u5)) :: tl2, dn ++ [((x1, y1), (x2, y2))], ?_, fr_name (Str.ofString "found") (by with_unfolding_all rfl), rfl, ?_, ?_, ?_⟩
          · intro p hp
            refine Ne p ?_
            rw [← List.push_toArray] at hp
            simp only [List.cons_append, List.mem_cons, List.mem_append] at hp ⊢
            rcases hp with hp | hp | hp | hp | hp
            · exact .inr (.inr (.inl hp))
            · exact .inr (.inr (.inr (.inl hp)))
            · exact .inl hp
            · exact .inr (.inl hp)
            · exact .inr (.inr (.inr (.inr hp)))
          · intro p hp
            simp only [List.cons_append, List.mem_cons, List.mem_append] at hp
            rcases hp with rfl | rfl | rfl | hp | hp
            · exact Nat.ne_of_lt hIfd
            · exact Nat.ne_of_gt (Nat.lt_trans hId hlt2)
            · exact Nat.ne_of_gt hId
            · exact (htl p hp).2
            · exact Nat.ne_of_lt (hI p (List.mem_cons_of_mem _ hp))
          · rw [List.append_assoc]; exact hdn
          · rw [sidesOf_snoc_some hs]
            exact (hys.mono fun h => h.mono fun p hp => List.mem_cons_of_mem _ (List.mem_cons_of_mem _ hp)).append (.one (.mk (List.mem_cons_self ..) (List.mem_cons_of_mem _ (List.mem_cons_self ..))))
          · intro p hp
            rcases List.mem_cons.mp hp with rfl | hp
            · exact ⟨Nat.lt_trans hfd hlt2, Nat.ne_of_gt (Nat.lt_trans hId hlt2)⟩
            · rcases List.mem_cons.mp hp with rfl | hp
              · exact ⟨hfd, Nat.ne_of_gt hId⟩
              · exact htl p hp
          · rw [List.length_append, List.length_append, List.length_cons, List.length_cons, List.length_nil]; omega
    · intro m9 nl9 h9 tk9 hJ F9 N9
      obtain ⟨u, ys, c, tl2, dn, hdn, hm, hnl, hys, htl, hyl⟩ := hJ
      rw [List.append_nil] at hdn
      subst hm hnl hdn
      k_steps
      refine ret fd ys c ((fd, listOf ys.toArray c) :: tl2) _ _ (by k_asm) ?_ (List.mem_cons_self ..) (hys.mono fun h => h.mono fun p hp => List.mem_cons_of_mem _ hp) ?_
      · rename News _ _ _ _ => Nz
        exact fun p hp => Nz p (by
          simp only [List.cons_append, List.mem_cons, List.mem_append] at hp ⊢
          rcases hp with hp | hp | hp
          · exact .inl hp
          · exact .inr (.inl hp)
          · exact .inr (.inr (hsubR p hp)))
      · intro p hp q hq
        have hq' := l8 q (hsubR q hq)
        rcases List.mem_cons.mp hp with rfl | hp
        · exact hq'
        · exact Nat.lt_trans hq' (htl p hp).1)
end PartSC

section PartTD
local macro_rules | `(tactic| k_room) => `(tactic| ktr_room)
local macro_rules | `(tactic| k_units) => `(tactic| ktr_units)
local macro_rules | `(tactic| walk_at "call ref") => `(tactic| ((with_reducible show wpAny _ _ (call (Value.ref 77) [_, _]) _ _ _); refine Stop.mk ?_))
local macro_rules | `(tactic| walk_at "eval ListComp") => `(tactic| (refine Stop.mk ?_))
inductive RowIn (news : List (Addr × Obj)) : Value → Sd → Prop
  | mk {a : Addr} {t1 t2 t3 t4 t5 : Tok} {n : Nat} {e : Sd} : (a, tupO [.int e.x1 t1, .int e.y1 t2, .int e.x2 t3, .int e.y2 t4, .int e.way t5] n) ∈ news → RowIn news (.ref a) e
theorem RowIn.mono {news news' : List (Addr × Obj)} {v : Value} {p : Sd} (h : RowIn news v p) (hs : ∀ q ∈ news, q ∈ news') : RowIn news' v p := by
  cases h with
  | mk a => exact .mk (hs _ a)
theorem td_turn {h₀ h : Heap} {L I C D a P : Addr} {m : Str → Option Value} {s₁ : Shared} {tk n i k : Nat} {oI oC : Obj} {ys rs : List Value} {tl2 tl news : List (Addr × Obj)} {sd : List Sd} {e : Sd} {t1 t2 t3 t4 t5 : Tok}
    (F : Fr h₀ L h m) (N : News h₀ L h ((a, tupO [.int e.x1 t1, .int e.y1 t2, .int e.x2 t3, .int e.y2 t4, .int e.way t5] n) :: (I, oI) :: (C, oC) :: (D, LCg.lst ys) :: (tl2 ++ (tl ++ news))))
    (la : I < a ∧ C < a ∧ D < a ∧ AllLt a (tl2 ++ (tl ++ news))) (off : LCg.Off3 I C D (tl2 ++ (tl ++ news))) (hP : (P, listOf rs.toArray k) ∈ tl ++ news) (hi : i + 1 ≤ rs.length) (hys : Are RowIn tl2 ys (sd.take i)) (he : sd[i]? = some e)
    (hlt2 : ∀ p ∈ tl2, ∀ q ∈ news, q.1 < p.1) :
    LCg.CompEnd h₀ L m s₁ I oI C oC D (LCg.lst ys) (LCg.SrcAt h₀ P rs.toArray) (fun y nl => ∃ tl2, nl = tl2 ++ (tl ++ news) ∧ i + 1 ≤ rs.length ∧ Are RowIn tl2 (ys ++ [y]) (sd.take (i + 1)) ∧ (∀ p ∈ tl2, ∀ q ∈ news, q.1 < p.1)) (.ref a) { s₁ with heap := h, toks := tk } := by
  obtain ⟨la1, la2, la3, la4⟩ := la
  have lb := tb_ltOf la4
  have offm := off.mem
  refine LCg.CompEnd.intro F N ((a, tupO [.int e.x1 t1, .int e.y1 t2, .int e.x2 t3, .int e.y2 t4, .int e.way t5] n) :: (tl2 ++ (tl ++ news))) ?_ (off3_of ?_ ?_ ?_) (.inr ⟨_, List.mem_cons_of_mem _ (List.mem_append_right _ hP), rfl, _, rfl⟩)
    ⟨(a, tupO [.int e.x1 t1, .int e.y1 t2, .int e.x2 t3, .int e.y2 t4, .int e.way t5] n) :: tl2, rfl, hi, ?_, ?_⟩
  · intro p hp
    simp only [List.mem_cons] at hp ⊢
    rcases hp with hp | hp | hp | hp | hp
    · exact .inr (.inl hp)
    · exact .inr (.inr (.inl hp))
    · exact .inr (.inr (.inr (.inl hp)))
    · exact .inl hp
    · exact .inr (.inr (.inr (.inr hp)))
  · intro p hp
    rcases List.mem_cons.mp hp with rfl | hp
    · exact Nat.ne_of_gt la1
    · exact (offm p hp).1
  · intro p hp
    rcases List.mem_cons.mp hp with rfl | hp
    · exact Nat.ne_of_gt la2
    · exact (offm p hp).2.1
  · intro p hp
    rcases List.mem_cons.mp hp with rfl | hp
    · exact Nat.ne_of_gt la3
    · exact (offm p hp).2.2
  · rw [List.take_add_one, he]
    exact (hys.mono fun h => h.mono fun p hp => List.mem_cons_of_mem _ hp).append (.one (.mk (List.mem_cons_self ..)))
  · intro p hp q hq
    rcases List.mem_cons.mp hp with rfl | hp
    · exact lb q (List.mem_append_right _ (List.mem_append_right _ hq))
    · exact hlt2 p hp q hq

theorem off1_mem {D : Addr} : ∀ {l : List (Addr × Obj)}, LCg.Off1 D l → ∀ p ∈ l, p.1 ≠ D
  | [], _, _, h => nomatch h
  | _ :: _, x, p, h => by
    rcases List.mem_cons.mp h with rfl | h
    · exact x.1
    · exact off1_mem x.2 p h

set_option maxRecDepth 100000 in
set_option maxHeartbeats 8000000 in
theorem td_spec {w : World} {loose : List Str} {mean : ExcName → Option Value} {mg mb : Str → Option Value}
    {dp un : Nat} {gd : Option (List Code)} {cn : Str} {cs : Scope} {a : Addr} {ccd : Value} {cl : List (Str × Addr)} {outer : List Env} {A₀ : Around} {base h₀ : Heap} {L : Addr} {m : Str → Option Value} {news : List (Addr × Obj)} {s : Shared}
    {Q E : Value → Shared → Prop} {t : Addr} {vs : List Value} {n : Nat} {ps : List (Int × Int)} {c : Bool}
    (B : Below A₀ base outer h₀) (F : Fr h₀ L s.heap m) (X : (hd.heap_39 w.params).In h₀) (N : News h₀ L s.heap news) (T : Top hd.view_39 loose mean mg mb h₀) (hk : cs.kind = .function)
    (ht : (t, tupO vs n) ∈ news) (hvs : Are SpotIn news vs ps) (hlen : ps.length ≤ 100)
    (hdp : dp + 60 < recursionLimit) (hun : un + 600 < cLine)
    (ret : ∀ D rs k tl h' tk', Fr h₀ L h' m → News h₀ L h' (tl ++ news) → (D, listOf rs.toArray k) ∈ tl → Are RowIn tl rs (sidesOf (pairsOf ps ++ closing c ps)) →
      (∀ p ∈ tl, ∀ q ∈ news, q.1 ≠ p.1) → Q (.ref D) { s with heap := h', toks := tk' }) :
    wpAny (model PySem.Challenge.rw_xm0712_01.row.prog w) (ktrTop dp un gd cn cs L a ccd cl outer) (call (.ref 117) [.ref t, .bool c]) Q E s := by
  revert X; k_fill; intro X
  have hKd9 := kdMark
  refine wpAny_call ?_
  k_dflt ktr_enter
  k_steps
  rename Fr _ _ _ _ => F1
  rename News _ _ _ _ => N1
  refine Stop.out ?_
  k_dflt (refine LCg.ListComp_U (F₀ := F1) (by rfl) (by decide) (by rfl) (by decide) (by rfl) ?_)
  k_steps
  rename Fr _ _ _ _ => F2
  rename News _ _ _ _ => N2
  refine Stop.out (sc_spec (by k_asm) F2 (by k_asm) N2 (by k_asm) (by exact rfl) ht hvs hlen (by ktr_room) (by ktr_units) ?_)
  intro P rs k tl h3 tk3 F3 N3 hP hrs hlt
  have hrl : rs.length ≤ 101 := by
    have e1 := hrs.length
    have e2 := closing_len c ps
    have e3 : (pairsOf ps).length ≤ 100 := by simp only [pairsOf, List.length_zip, List.length_drop]; omega
    have e4 : (sidesOf (pairsOf ps ++ closing c ps)).length ≤ (pairsOf ps ++ closing c ps).length := List.length_filterMap_le ..
    rw [List.length_append] at e4
    omega
  obtain ⟨sd, hsd⟩ : ∃ sd, sd = sidesOf (pairsOf ps ++ closing c ps) := ⟨_, rfl⟩
  rw [← hsd] at hrs ret
  have hPN : (P, listOf rs.toArray k) ∈ tl ++ news := List.mem_append_left _ hP
  k_dflt (refine LCg.CompSrc.ledger (by rfl) F3 N3 hPN (by rw [List.size_toArray, sizeLine_eq]; omega) ?_)
  intro g
  refine comp_ind (n := rs.length) (J := fun i ys nl => ∃ tl2, nl = tl2 ++ (tl ++ news) ∧ i ≤ rs.length ∧ Are RowIn tl2 ys (sd.take i) ∧ (∀ p ∈ tl2, ∀ q ∈ news, q.1 < p.1)) ?_ ?_ _ 0 _ _ (by simp) ⟨[], rfl, Nat.zero_le _, by simpa using .nil, fun _ hp => nomatch hp⟩
  · intro i ys nl v I oI C oC D m₂ h9 tk9 E' hi hv hJ hC hx F9 N9 off ne
    obtain ⟨tl2, rfl, _, hys, hlt2⟩ := hJ
    have hil : i < sd.length := by rw [← hrs.length]; exact hi
    obtain ⟨v', hv', hS⟩ := hrs.get (List.getElem?_eq_getElem hil)
    have ev : v' = v := by
      have hv'' : rs[i]? = some v := by simpa using hv
      rw [hv'] at hv''
      exact Option.some.inj hv''
    subst ev
    cases hS with
    | mk hx1 hd1 =>
      k_steps
      rename Fr _ _ _ _ => Fe
      rename News _ _ _ _ => Ne
      rename _ ∧ _ ∧ _ ∧ AllLt _ _ => la
      exact td_turn Fe Ne la off hPN hi hys (List.getElem?_eq_getElem hil) hlt2
  · rintro ys nl ⟨tl2, rfl, _, hys, hlt2⟩
    unfold LCg.FinE
    intro D h9 tk9 F9 N9 o1
    k_steps
    refine ret D ys _ ((D, LCg.lst ys) :: (tl2 ++ tl)) _ _ (by k_asm) ?_ (List.mem_cons_self ..) ?_ ?_
    · rename News _ _ _ _ => Nz
      exact fun p hp => Nz p (by rw [List.cons_append, List.append_assoc] at hp; exact hp)
    · rw [List.take_of_length_le (by rw [← hrs.length]; exact Nat.le_refl _)] at hys
      exact hys.mono fun h => h.mono fun p hp => List.mem_cons_of_mem _ (List.mem_append_left _ hp)
    · intro p hp q hq
      rcases List.mem_cons.mp hp with rfl | hp
      · exact off1_mem o1 q (List.mem_append_right _ (List.mem_append_right _ hq))
      · rcases List.mem_append.mp hp with hp | hp
        · exact Nat.ne_of_lt (hlt2 p hp q hq)
        · exact Nat.ne_of_lt (hlt p hp q hq)
end PartTD

section PartTK
local macro_rules | `(tactic| k_room) => `(tactic| ktr_room)
local macro_rules | `(tactic| k_units) => `(tactic| ktr_units)
set_option maxRecDepth 100000 in
set_option maxHeartbeats 8000000 in
theorem tk_spec {w : World} {loose : List Str} {mean : ExcName → Option Value} {mg mb : Str → Option Value}
    {dp un : Nat} {gd : Option (List Code)} {cn : Str} {cs : Scope} {a : Addr} {ccd : Value} {cl : List (Str × Addr)} {outer : List Env} {A₀ : Around} {base h₀ : Heap} {L : Addr} {m : Str → Option Value} {news : List (Addr × Obj)} {s : Shared}
    {Q E : Value → Shared → Prop} {S : Addr} {i0 i1 top : Int} {t0 t1 tt : Tok} {n : Nat}
    (B : Below A₀ base outer h₀) (F : Fr h₀ L s.heap m) (X : (hd.heap_39 w.params).In h₀) (N : News h₀ L s.heap ((S, listOf #[.int i0 t0, .int i1 t1] n) :: news)) (T : Top hd.view_39 loose mean mg mb h₀) (hk : cs.kind = .function)
    (hS : ∀ p ∈ news, p.1 ≠ S) (h0 : 0 ≤ i0) (h1 : 0 ≤ i1) (h2 : i1 < 2147483647) (ht : 0 < top) (ht2 : top ≤ 2199023255552)
    (hdp : dp + 20 < recursionLimit) (hun : un + 200 < cLine)
    (ret : ∀ r j0 j1 u u0 u1 n' h' tk', 0 ≤ r → r < top → 0 ≤ j0 → j0 ≤ i0 → 0 ≤ j1 → j1 < 2147483647 → Fr h₀ L h' m → News h₀ L h' ((S, listOf #[.int j0 u0, .int j1 u1] n') :: news) → Q (.int r u) { s with heap := h', toks := tk' }) :
    wpAny (model PySem.Challenge.rw_xm0712_01.row.prog w) (ktrTop dp un gd cn cs L a ccd cl outer) (call (.ref 91) [.ref S, .int top tt]) Q E s := by
  revert X; k_fill; intro X
  have hKd9 := kdMark
  have of1 : OwnOff news [S] := fun p hp b hb => by rw [List.mem_singleton.mp hb]; exact hS p hp
  refine wpAny_call ?_
  k_dflt ktr_enter
  have hlog : top.natAbs.log2 < 9000 := Nat.lt_of_lt_of_le ((Nat.log2_lt (by omega)).mpr (show top.natAbs < 2 ^ 42 by omega)) (by decide)
  k_steps
  · refine floordiv_int (by omega) ?_ (Or.inl (PyProof.noPylong_of_log2 hlog))
    k_steps
    have e1 := Int.fmod_nonneg_of_pos i0 ht
    have e2 := Int.fmod_lt_of_pos i0 ht
    have e3 : Int.fdiv i0 top = i0 / top := Int.fdiv_eq_ediv_of_nonneg i0 (Int.le_of_lt ht)
    refine ret (Int.fmod i0 top) (Int.fdiv i0 top) i1 _ _ _ _ _ _ e1 e2 ?_ ?_ h1 h2 (by k_asm) (by k_asm)
    · rw [e3]; exact Int.ediv_nonneg h0 (Int.le_of_lt ht)
    · rw [e3]; exact Int.ediv_le_self top h0
  · have hf1 := Int.fmod_nonneg_of_pos (i1 * 39373 + 7) (b := 2147483647) (by decide)
    have hf2 := Int.fmod_lt_of_pos (i1 * 39373 + 7) (b := 2147483647) (by decide)
    refine mul_int ?_ (IntMulOk.of_left (intBits_le_64 (show -(2 ^ 64) < Int.fmod (i1 * 39373 + 7) 2147483647 by omega) (show Int.fmod (i1 * 39373 + 7) 2147483647 < 2 ^ 64 by omega)))
    k_steps
    rename News _ _ _ _ => Ne
    refine ret _ i0 (Int.fmod (i1 * 39373 + 7) 2147483647) _ _ _ _ _ _ (Int.fmod_nonneg_of_pos _ ht) (Int.fmod_lt_of_pos _ ht) h0 (Int.le_refl _) hf1 hf2 (by k_asm) Ne
end PartTK

section PartNU
local macro_rules | `(tactic| k_room) => `(tactic| ktr_room)
local macro_rules | `(tactic| k_units) => `(tactic| ktr_units)
local macro_rules | `(tactic| walk_at "call ref") => `(tactic| ((with_reducible show wpAny _ _ (call (Value.ref 91) [_, _]) _ _ _); refine Stop.mk ?_))
local macro_rules | `(tactic| walk_at "execs cons") => `(tactic| ((with_reducible show wpAny _ _ _ _ _ (Shared.mk _ _ _ (_ + _) _)); refine tok_gen (fun tk => ?_)))
local macro_rules | `(tactic| walk_at "execs nil") => `(tactic| ((with_reducible show wpAny _ _ _ _ _ (Shared.mk _ _ _ (_ + _) _)); refine tok_gen (fun tk => ?_)))
theorem news_swap {h₀ h : Heap} {L : Addr} {a b : Addr × Obj} {l : List (Addr × Obj)} (N : News h₀ L h (a :: b :: l)) : News h₀ L h (b :: a :: l) := fun p hp => N p (by
  simp only [List.mem_cons] at hp ⊢
  rcases hp with hp | hp | hp
  · exact .inr (.inl hp)
  · exact .inl hp
  · exact .inr (.inr hp))
set_option maxRecDepth 100000 in
set_option maxHeartbeats 8000000 in
theorem nu_spec {w : World} {loose : List Str} {mean : ExcName → Option Value} {mg mb : Str → Option Value}
    {dp un : Nat} {gd : Option (List Code)} {cn : Str} {cs : Scope} {a : Addr} {ccd : Value} {cl : List (Str × Addr)} {outer : List Env} {A₀ : Around} {base h₀ : Heap} {L : Addr} {m : Str → Option Value} {news : List (Addr × Obj)} {s : Shared}
    {Q E : Value → Shared → Prop} {S : Addr} {i0 i1 : Int} {t0 t1 : Tok} {n : Nat}
    (B : Below A₀ base outer h₀) (F : Fr h₀ L s.heap m) (X : (hd.heap_39 w.params).In h₀) (N : News h₀ L s.heap ((S, listOf #[.int i0 t0, .int i1 t1] n) :: news)) (T : Top hd.view_39 loose mean mg mb h₀) (hk : cs.kind = .function)
    (hS : ∀ p ∈ news, p.1 ≠ S) (h0 : 0 ≤ i0) (h1 : 0 ≤ i1) (h2 : i1 < 2147483647)
    (hdp : dp + 40 < recursionLimit) (hun : un + 400 < cLine)
    (ret : ∀ r j0 j1 u u0 u1 n' h' tk', -1099511627776 < r → r < 1099511627776 → 0 ≤ j0 → 0 ≤ j1 → j1 < 2147483647 → Fr h₀ L h' m → News h₀ L h' ((S, listOf #[.int j0 u0, .int j1 u1] n') :: news) → Q (.int r u) { s with heap := h', toks := tk' }) :
    wpAny (model PySem.Challenge.rw_xm0712_01.row.prog w) (ktrTop dp un gd cn cs L a ccd cl outer) (call (.ref 105) [.ref S]) Q E s := by
  revert X; k_fill; intro X
  have hKd9 := kdMark
  refine wpAny_call ?_
  k_dflt ktr_enter
  k_steps
  rename Fr _ _ _ _ => Fx
  rename News _ _ _ _ => Nx
  refine Stop.out (tk_spec (by k_asm) Fx (by k_asm) Nx (by k_asm) (by exact rfl) hS h0 h1 h2 (by decide) (by decide) (by ktr_room) (by ktr_units) ?_)
  intro r1 a0 a1 u1 ua ub n1 h1' tk1 b1 b2 b3 b4 b5 b6 F' N'
  k_steps
  rename Fr _ _ _ _ => Fx
  rename News _ _ _ _ => Nx
  refine Stop.out (tk_spec (by k_asm) Fx (by k_asm) Nx (by k_asm) (by exact rfl) hS b3 b5 b6 (by decide) (by decide) (by ktr_room) (by ktr_units) ?_)
  intro r2 c0 c1 u2 uc ud n2 h2' tk2 c2 c3 c4 c5 c6 c7 F' N'
  k_steps
  rename Fr _ _ _ _ => Fx
  rename News _ _ _ _ => Nx
  refine Stop.out (tk_spec (by k_asm) Fx (by k_asm) Nx (by k_asm) (by exact rfl) hS c4 c6 c7 (by decide) (by decide) (by ktr_room) (by ktr_units) ?_)
  intro r3 d0 d1 u3 ue uf n3 h3' tk3 d2 d3 d4 d5 d6 d7 F' N'
  k_steps
  rename Fr _ _ _ _ => Fx
  rename News _ _ _ _ => Nx
  rename _ ∧ AllLt _ _ => la
  have Nx' := news_swap Nx
  refine Stop.out (tk_spec (by k_asm) Fx (by k_asm) Nx' (by k_asm) (by exact rfl) ?_ d4 d6 d7 (by decide) (by decide) (by ktr_room) (by ktr_units) ?_)
  · intro p hp
    rcases List.mem_cons.mp hp with rfl | hp
    · exact Nat.ne_of_gt la.1
    · exact hS p hp
  intro r4 e0 e1 u4 ug uh n4 h4' tk4 e2 e3 e4 e5 e6 e7 F' N'
  have e3' : r4 < 3 := e3
  have hr : r4 = 0 ∨ r4 = 1 ∨ r4 = 2 := by omega
  have b2' : r1 < 2199023255551 := b2
  have c3' : r2 < 7 := c3
  have d3' : r3 < 7 := d3
  rcases hr with rfl | rfl | rfl
  all_goals (
    k_steps
    rename News _ _ _ _ => Nz
    refine ret _ _ _ _ _ _ _ _ _ ?_ ?_ e4 e6 e7 (by k_asm) (fun p hp => Nz p (by
      rcases List.mem_cons.mp hp with hp | hp
      · exact hp ▸ List.mem_cons_self ..
      · exact List.mem_cons_of_mem _ (List.mem_cons_of_mem _ hp)))
    all_goals first | omega | (show _ < _; simp only [Int.reduceToNat, Int.reducePow] at *; omega))
end PartNU

section PartDU
local macro_rules | `(tactic| k_room) => `(tactic| ktr_room)
local macro_rules | `(tactic| k_units) => `(tactic| ktr_units)
local macro_rules | `(tactic| walk_at "call builtin:list.append") => `(tactic| (refine Stop.mk ?_))
local macro_rules | `(tactic| walk_at "eval List") => `(tactic| ((with_reducible show wpAny _ _ (eval (PySem.Expr.List [] _) _) _ _ _); refine Stop.mk ?_))
local macro_rules | `(tactic| walk_at "execs cons") => `(tactic| ((with_reducible show wpAny _ _ _ _ _ (Shared.mk _ _ _ (_ + _) _)); refine tok_gen (fun tk => ?_)))
local macro_rules | `(tactic| walk_at "execs nil") => `(tactic| ((with_reducible show wpAny _ _ _ _ _ (Shared.mk _ _ _ (_ + _) _)); refine tok_gen (fun tk => ?_)))
theorem du_turn {g h : Heap} {L fd T I P : Addr} {o9 : Obj} {m : Str → Option Value} {s₁ : Shared} {tk c n0 k2 : Nat} {ys rs2 : List Value} {tl2 news : List (Addr × Obj)} {e : Sd} {t1 t2 t3 t4 t5 : Tok} {dn ds prs : List ((Int × Int) × (Int × Int))} {p q : Int × Int}
    (hs : side p q = some e) (F : Fr g L h m) (N : News g L h ((fd, listOf (ys.toArray.push (.ref T)) (c + 1)) :: (T, tupO [.int e.x1 t1, .int e.y1 t2, .int e.x2 t3, .int e.y2 t4, .int e.way t5] n0) :: (I, o9) :: (tl2 ++ news)))
    (hfI : fd < I) (hfT : fd < T) (hTI : I < T) (off : ∀ p ∈ tl2 ++ news, p.1 ≠ I) (hP : (P, listOf rs2.toArray k2) ∈ news) (hdn : dn ++ (p, q) :: ds = prs) (hm : m (Str.ofString "found") = some (.ref fd))
    (hys : Are RowIn tl2 ys (sidesOf dn)) (htl : ∀ p ∈ tl2, fd < p.1 ∧ p.1 ≠ I) (hyl : ys.length ≤ dn.length) :
    TurnEnd g L I o9 [(P, listOf rs2.toArray k2)] s₁ (fun m nl => ∃ (u : Str → Option Value) (ys : List Value) (c : Nat) (tl2 : List (Addr × Obj)) (dn : List ((Int × Int) × (Int × Int))), dn ++ ds = prs ∧ m = (fun y => if y = Str.ofString "found" then some (.ref fd) else u y) ∧ nl = (fd, listOf ys.toArray c) :: (tl2 ++ news) ∧
      Are RowIn tl2 ys (sidesOf dn) ∧ (∀ p ∈ tl2, fd < p.1 ∧ p.1 ≠ I) ∧ ys.length ≤ dn.length) { s₁ with heap := h, toks := tk } := by
  refine ⟨_, _, _, (fd, listOf (ys ++ [Value.ref T]).toArray (c + 1)) :: (((T, tupO [.int e.x1 t1, .int e.y1 t2, .int e.x2 t3, .int e.y2 t4, .int e.way t5] n0) :: tl2) ++ news), rfl, F, ?_, ?_, ⟨List.mem_cons_of_mem _ (List.mem_append_right _ hP), trivial⟩,
    m, ys ++ [Value.ref T], c + 1, (T, tupO [.int e.x1 t1, .int e.y1 t2, .int e.x2 t3, .int e.y2 t4, .int e.way t5] n0) :: tl2, dn ++ [(p, q)], ?_, fr_name (Str.ofString "found") hm, rfl, ?_, ?_, ?_⟩
  · intro r hr
    refine N r ?_
    rw [← List.push_toArray] at hr
    simp only [List.cons_append, List.mem_cons, List.mem_append] at hr ⊢
    rcases hr with hr | hr | hr | hr
    · exact .inr (.inr (.inl hr))
    · exact .inl hr
    · exact .inr (.inl hr)
    · exact .inr (.inr (.inr hr))
  · intro r hr
    simp only [List.cons_append, List.mem_cons] at hr
    rcases hr with rfl | rfl | hr
    · exact Nat.ne_of_lt hfI
    · exact Nat.ne_of_gt hTI
    · exact off r hr
  · rw [List.append_assoc]; exact hdn
  · rw [sidesOf_snoc_some hs]
    exact (hys.mono fun h => h.mono fun p hp => List.mem_cons_of_mem _ hp).append (.one (.mk (List.mem_cons_self ..)))
  · intro r hr
    rcases List.mem_cons.mp hr with rfl | hr
    · exact ⟨hfT, Nat.ne_of_gt hTI⟩
    · exact htl r hr
  · rw [List.length_append, List.length_append, List.length_cons, List.length_cons, List.length_nil]; omega
set_option maxRecDepth 100000 in
set_option maxHeartbeats 8000000 in
theorem du_spec {w : World} {loose : List Str} {mean : ExcName → Option Value} {mg mb : Str → Option Value}
    {dp un : Nat} {gd : Option (List Code)} {cn : Str} {cs : Scope} {a : Addr} {ccd : Value} {cl : List (Str × Addr)} {outer : List Env} {A₀ : Around} {base h₀ : Heap} {L : Addr} {m : Str → Option Value} {news : List (Addr × Obj)} {s : Shared}
    {Q E : Value → Shared → Prop} {P : Addr} {rs2 : List Value} {k2 : Nat} {prs : List ((Int × Int) × (Int × Int))}
    (B : Below A₀ base outer h₀) (F : Fr h₀ L s.heap m) (X : (hd.heap_39 w.params).In h₀) (N : News h₀ L s.heap news) (T : Top hd.view_39 loose mean mg mb h₀) (hk : cs.kind = .function)
    (hPR : (P, listOf rs2.toArray k2) ∈ news) (hprs2 : Are PairIn news rs2 prs) (hpl : prs.length ≤ 101)
    (hdp : dp + 40 < recursionLimit) (hun : un + 400 < cLine)
    (ret : ∀ D rs k tl h' tk', Fr h₀ L h' m → News h₀ L h' (tl ++ news) → (D, listOf rs.toArray k) ∈ tl → Are RowIn tl rs (sidesOf prs) →
      (∀ p ∈ tl, ∀ q ∈ news, q.1 < p.1) → Q (.ref D) { s with heap := h', toks := tk' }) :
    wpAny (model PySem.Challenge.rw_xm0712_01.row.prog w) (ktrTop dp un gd cn cs L a ccd cl outer) (call (.ref 112) [.ref P]) Q E s := by
  revert X; k_fill; intro X
  have hKd9 := kdMark
  refine wpAny_call ?_
  k_dflt ktr_enter
  obtain ⟨R, hR⟩ : ∃ R, R = news := ⟨_, rfl⟩
  k_steps
  rename Fr _ _ _ _ => F7
  rename News _ _ _ _ => N7
  refine Stop.out (List_ ?_)
  walk1
  k_dflt (refine' newList_K ?k1 ?k2 ?_; (case k1 => exact F7); (case k2 => exact N7))
  intro fd h8 F8 N8 l8
  k_steps
  rename Fr _ _ _ _ => F9
  rename News _ _ _ _ => N9
  with_unfolding_all refine' For_turns F9 ?_
  k_steps
  rename Fr _ _ _ _ => Fc
  rename News _ _ _ _ => Nc
  refine iter_listTurns (lo := listOf rs2.toArray k2) (vs := rs2) (n := k2) (by rfl) Fc Nc (List.mem_cons_of_mem _ hPR) (by rfl) (by rfl) ?_
  intro I hI
  refine items_ind (J := fun rest m nl => ∃ (u : Str → Option Value) (ys : List Value) (c : Nat) (tl2 : List (Addr × Obj)) (dn : List ((Int × Int) × (Int × Int))), dn ++ rest = prs ∧ m = (fun y => if y = Str.ofString "found" then some (.ref fd) else u y) ∧ nl = (fd, listOf ys.toArray c) :: (tl2 ++ news) ∧
      Are RowIn tl2 ys (sidesOf dn) ∧ (∀ p ∈ tl2, fd < p.1 ∧ p.1 ≠ I) ∧ ys.length ≤ dn.length) ?_ ?_ hprs2 ⟨_, [], 0, [], [], rfl, rfl, rfl, .nil, (fun _ hp => nomatch hp), Nat.le_refl _⟩
  · intro d ds v m9 nl9 h9 tk9 o9 hR hJ F9 ho9 N9
    obtain ⟨u, ys, c, tl2, dn, hdn, hm, hnl, hys, htl, hyl⟩ := hJ
    subst hm hnl
    obtain ⟨r, o1, o2, x1, y1, x2, y2, t1, t2, t3, t4, n9, n1, n2, rfl, rfl, hr, ho1, ho2⟩ := hR.inv
    have up : ∀ p ∈ news, p ∈ (I, o9) :: (fd, listOf ys.toArray c) :: (tl2 ++ news) := fun p hp => List.mem_cons_of_mem _ (List.mem_cons_of_mem _ (List.mem_append_right _ hp))
    have hT := show IsTup h9 _ _ from ⟨_, (N9 _ (up _ hr)).1, rfl, _, rfl⟩
    have hIfd : fd < I := hI (fd, listOf #[] 0) (List.mem_cons_self ..)
    have of1 : OwnOff tl2 [fd] := fun p hp b hb => by rw [List.mem_singleton.mp hb]; exact Nat.ne_of_gt (htl p hp).1
    have of2 : OwnOff news [fd] := fun p hp b hb => by rw [List.mem_singleton.mp hb]; exact Nat.ne_of_lt (l8 p hp)
    have offI : ∀ p ∈ tl2 ++ news, p.1 ≠ I := by
      intro p hp
      rcases List.mem_append.mp hp with hp | hp
      · exact (htl p hp).2
      · exact Nat.ne_of_lt (hI p (List.mem_cons_of_mem _ hp))
    have offF : ∀ p ∈ tl2 ++ news, p.1 ≠ fd := by
      intro p hp
      rcases List.mem_append.mp hp with hp | hp
      · exact of1 p hp _ (List.mem_cons_self ..)
      · exact of2 p hp _ (List.mem_cons_self ..)
    have hysz : ys.length ≤ 101 := by
      have e9 := congrArg List.length hdn
      rw [List.length_append, List.length_cons] at e9
      omega
    have ho1' := up _ ho1
    have ho2' := up _ ho2
    k_steps
    with_unfolding_all refine' kat_sorted ?k1 ?k2 ?k3 ?k4 ?k5 ?_
    case k1 => k_asm
    case k2 => k_asm
    case k3 => kso_list
    case k4 => exact Nat.le_of_ble_eq_true rfl
    case k5 => exact Nat.le_of_ble_eq_true rfl
    intro D' e' h' F' N' l1
    (try k_lt l1)
    kat_kinds
    k_steps
    any_goals (exfalso; omega)
    any_goals (
      have hs : side (x1, y1) (x2, y2) = none := by
        simp only [side]
        rw [if_pos (by omega)]
      rename Fr _ _ _ _ => Fe
      rename News _ _ _ _ => Ne
      refine ⟨_, _, _, (fd, listOf ys.toArray c) :: (tl2 ++ news), rfl, Fe, (fun p hp => Ne p (.tail _ (.tail _ (.tail _ (.tail _ hp))))), ?_, ⟨List.mem_cons_of_mem _ (List.mem_append_right _ hPR), trivial⟩, _, ys, c, tl2, dn ++ [((x1, y1), (x2, y2))], ?_, fr_name (Str.ofString "found") (by with_unfolding_all rfl), rfl, ?_, htl, ?_⟩
      · intro p hp
        rcases List.mem_cons.mp hp with rfl | hp
        · exact Nat.ne_of_lt hIfd
        · exact offI p hp
      · rw [List.append_assoc]; exact hdn
      · rw [sidesOf_snoc_none hs]; exact hys
      · rw [List.length_append]; omega)
    all_goals (
      have hs : ∃ e, side (x1, y1) (x2, y2) = some e := by
        simp only [side]
        rw [if_neg (by omega)]
        split <;> exact ⟨_, rfl⟩
      obtain ⟨e, hs⟩ := hs
      rename _ ∧ _ ∧ _ ∧ _ ∧ _ ∧ _ ∧ AllLt _ _ => la
      rename Fr _ _ _ _ => Fa
      rename News _ _ _ _ => Na
      have he := hs
      simp only [side] at he
      rw [if_neg (by omega)] at he
      first | rw [if_pos (by omega)] at he | rw [if_neg (by omega)] at he
      obtain ⟨rfl⟩ := Option.some.inj he
      rename Addr => T
      obtain ⟨la1, la2, la3, la4, laI, laF, laR⟩ := la
      have laR' := tb_ltOf laR
      refine Stop.out (append_mem Fa Na (.tail _ (.tail _ (.tail _ (.tail _ (.tail _ (.tail _ (.head _))))))) ?_ (by rw [List.size_toArray, sizeLine_eq]; omega))
      intro hb Fb Nb'
      have Nb := Nb' (_ :: (I, o9) :: (tl2 ++ news)) (List.forall_mem_cons.mpr ⟨⟨.head _, Nat.ne_of_gt laF⟩, List.forall_mem_cons.mpr ⟨⟨.tail _ (.tail _ (.tail _ (.tail _ (.tail _ (.head _))))), Nat.ne_of_gt hIfd⟩, fun p hp => ⟨.tail _ (.tail _ (.tail _ (.tail _ (.tail _ (.tail _ (.tail _ hp)))))), offF p hp⟩⟩⟩)
      clear Nb' Na
      k_steps
      rename Fr _ _ _ _ => Fe
      rename News _ _ _ _ => Ne
      exact du_turn hs Fe Ne hIfd laF laI offI hPR hdn (by with_unfolding_all rfl) hys htl hyl)
  · intro m9 nl9 h9 tk9 hJ F9 N9
    obtain ⟨u, ys, c, tl2, dn, hdn, hm, hnl, hys, htl, hyl⟩ := hJ
    rw [List.append_nil] at hdn
    subst hm hnl hdn
    k_steps
    refine ret fd ys c ((fd, listOf ys.toArray c) :: tl2) _ _ (by k_asm) ?_ (List.mem_cons_self ..) (hys.mono fun h => h.mono fun p hp => List.mem_cons_of_mem _ hp) ?_
    · rename News _ _ _ _ => Nz
      exact Nz
    · intro p hp q hq
      have hq' := l8 q hq
      rcases List.mem_cons.mp hp with rfl | hp
      · exact hq'
      · exact Nat.lt_trans hq' (htl p hp).1
end PartDU

section PartPL
local macro_rules | `(tactic| k_room) => `(tactic| ktr_room)
local macro_rules | `(tactic| k_units) => `(tactic| ktr_units)
local macro_rules | `(tactic| walk_at "execs cons") => `(tactic| ((with_reducible show wpAny _ _ _ _ _ (Shared.mk _ _ _ (_ + _) _)); refine tok_gen (fun tk => ?_)))
local macro_rules | `(tactic| walk_at "execs nil") => `(tactic| ((with_reducible show wpAny _ _ _ _ _ (Shared.mk _ _ _ (_ + _) _)); refine tok_gen (fun tk => ?_)))
theorem pool_a (c : Int) (b : Bool) : 0 ≤ (if -1 - c > c then -1 - c else c) * (if b = true then 1 else 0) := by
  refine Int.mul_nonneg ?_ ?_
  · split <;> omega
  · split <;> omega
set_option maxRecDepth 100000 in
set_option maxHeartbeats 8000000 in
theorem pl_spec {w : World} {loose : List Str} {mean : ExcName → Option Value} {mg mb : Str → Option Value}
    {dp un : Nat} {gd : Option (List Code)} {cn : Str} {cs : Scope} {a : Addr} {ccd : Value} {cl : List (Str × Addr)} {outer : List Env} {A₀ : Around} {base h₀ : Heap} {L : Addr} {m : Str → Option Value} {news : List (Addr × Obj)} {s : Shared}
    {Q E : Value → Shared → Prop} {l : Addr} {vs : List Value} {ns : List Int}
    (B : Below A₀ base outer h₀) (F : Fr h₀ L s.heap m) (X : (hd.heap_39 w.params).In h₀) (N : News h₀ L s.heap news) (T : Top hd.view_39 loose mean mg mb h₀) (hk : cs.kind = .function)
    (hl : h₀.IsList l vs.toArray) (hi : IntsAre vs ns) (hsz : ns.length ≤ 63)
    (hdp : dp + 20 < recursionLimit) (hun : un + 200 < cLine)
    (ret : ∀ D i0 i1 u0 u1 n' h' tk', 0 ≤ i0 → 0 ≤ i1 → i1 < 2147483647 → Fr h₀ L h' m → News h₀ L h' ((D, listOf #[.int i0 u0, .int i1 u1] n') :: news) → (∀ p ∈ news, p.1 < D) → Q (.ref D) { s with heap := h', toks := tk' }) :
    wpAny (model PySem.Challenge.rw_xm0712_01.row.prog w) (ktrTop dp un gd cn cs L a ccd cl outer) (call (.ref 84) [.ref l]) Q E s := by
  revert X; k_fill; intro X
  have hKd9 := kdMark
  refine wpAny_call ?_
  k_dflt ktr_enter
  rename Fr h₀ _ _ _ => FG
  have hlg := hl.at fun o e => FG.keep _ o e
  k_steps
  all_goals exact ret _ _ _ _ _ _ _ _ (pool_a _ _) (Int.fmod_nonneg_of_pos _ (by decide)) (Int.fmod_lt_of_pos _ (by decide)) (by k_asm) (by k_asm) (by assumption)
end PartPL

section PartPN
def ht (e : Sd) : Int := (e.y2 - e.y1) * e.way
def dy (prs : List ((Int × Int) × (Int × Int))) : Int := (prs.map fun pq => pq.2.2 - pq.1.2).sum
theorem side_way {p q : Int × Int} {e : Sd} (h : side p q = some e) : e.way = 1 ∨ e.way = -1 := by
  unfold side at h
  split at h
  · cases h
  · split at h
    · cases h; exact .inl rfl
    · cases h; exact .inr rfl
theorem side_ht {p q : Int × Int} {e : Sd} (h : side p q = some e) : ht e = q.2 - p.2 := by
  unfold side at h
  split at h
  · cases h
  · split at h
    · cases h; simp [ht]
    · cases h; simp only [ht]; omega
theorem side_flat {p q : Int × Int} (h : side p q = none) : q.2 - p.2 = 0 := by
  unfold side at h
  split at h
  · omega
  · split at h <;> cases h
theorem ways {prs : List ((Int × Int) × (Int × Int))} : ∀ e ∈ sidesOf prs, e.way = 1 ∨ e.way = -1 := by
  intro e he
  obtain ⟨pq, _, h⟩ := List.mem_filterMap.mp he
  exact side_way h
theorem hts : ∀ prs : List ((Int × Int) × (Int × Int)), ((sidesOf prs).map ht).sum = dy prs
  | [] => rfl
  | (p, q) :: r => by
    have ih := hts r
    cases h : side p q with
    | none =>
      have e : sidesOf ((p, q) :: r) = sidesOf r := by simp [sidesOf, h]
      have f := side_flat h
      rw [e, ih]
      simp only [dy, List.map_cons, List.sum_cons]
      omega
    | some e =>
      have e' : sidesOf ((p, q) :: r) = e :: sidesOf r := by simp [sidesOf, h]
      have f := side_ht h
      rw [e', List.map_cons, List.sum_cons, ih]
      simp only [dy, List.map_cons, List.sum_cons]
      omega
theorem pairs_cons (p q : Int × Int) (r : List (Int × Int)) : pairsOf (p :: q :: r) = (p, q) :: pairsOf (q :: r) := by simp [pairsOf]
theorem last_cons (p q : Int × Int) (r : List (Int × Int)) : (p :: q :: r).getLastD (0, 0) = (q :: r).getLastD (0, 0) := by
  simp [List.getLastD]
theorem dy_pairs : ∀ (r : List (Int × Int)) (p : Int × Int), dy (pairsOf (p :: r)) = ((p :: r).getLastD (0, 0)).2 - p.2
  | [], p => by simp [pairsOf, dy]
  | q :: r, p => by
    rw [pairs_cons, last_cons]
    have ih := dy_pairs r q
    simp only [dy, List.map_cons, List.sum_cons] at ih ⊢
    omega
theorem closed_zero (ps : List (Int × Int)) : ((sidesOf (pairsOf ps ++ closing true ps)).map ht).sum = 0 := by
  rw [hts]
  have e : dy (pairsOf ps ++ closing true ps) = dy (pairsOf ps) + dy (closing true ps) := by simp [dy]
  rw [e]
  cases ps with
  | nil => simp [pairsOf, closing, dy]
  | cons p r =>
    rw [dy_pairs]
    cases r with
    | nil => simp [closing, dy]
    | cons q r =>
      have hc : closing true (p :: q :: r) = [((p :: q :: r).getLastD (0, 0), p)] := by simp [closing]
      rw [hc]
      simp only [dy, List.map_cons, List.map_nil, List.sum_cons, List.sum_nil]
      omega
theorem open_due (ps : List (Int × Int)) : sidesOf (pairsOf ps ++ closing false ps) = sidesOf (pairsOf ps) := by simp [closing]
end PartPN

section PartLW
local macro_rules | `(tactic| walk_at "execs cons") => `(tactic| ((with_reducible show wpAny _ _ _ _ _ (Shared.mk _ _ _ (_ + _) _)); refine tok_gen (fun tk => ?_)))
local macro_rules | `(tactic| walk_at "execs nil") => `(tactic| ((with_reducible show wpAny _ _ _ _ _ (Shared.mk _ _ _ (_ + _) _)); refine tok_gen (fun tk => ?_)))
local macro_rules | `(tactic| walk_at "call ref") => `(tactic| (first
  | (with_reducible show wpAny _ _ (call (Value.ref 117) [_, _]) _ _ _)
  | (with_reducible show wpAny _ _ (call (Value.ref 112) [_]) _ _ _)
  | (with_reducible show wpAny _ _ (call (Value.ref 105) [_]) _ _ _)
  | (with_reducible show wpAny _ _ (call (Value.ref 84) [_]) _ _ _)
  | (with_reducible show wpAny _ _ (call (Value.ref 91) [_, _]) _ _ _)); refine Stop.mk ?_)
local macro_rules | `(tactic| walk_at "subscriptTail") => `(tactic| ((with_reducible show wpAny _ _ (subscriptTail (PySem.Expr.Name (PySem.Str.ofString "spots") _) _ (Value.ref _) (Value.int _ _)) _ _ _); refine Stop.mk ?_))
local macro_rules | `(tactic| walk_at "subscriptTail Name Name ref int") => `(tactic| ((with_reducible show wpAny _ _ (subscriptTail (PySem.Expr.Name (PySem.Str.ofString "spots") _) _ (Value.ref _) (Value.int _ _)) _ _ _); refine Stop.mk ?_))
local macro_rules | `(tactic| walk_at "subscriptTail Name BinOp ref int") => `(tactic| ((with_reducible show wpAny _ _ (subscriptTail (PySem.Expr.Name (PySem.Str.ofString "spots") _) _ (Value.ref _) (Value.int _ _)) _ _ _); refine Stop.mk ?_))
local macro_rules | `(tactic| walk_at "call builtin:sum") => `(tactic| (refine Stop.mk ?_))
local macro_rules | `(tactic| walk_at "binaryOp Add ref ref") => `(tactic| (refine Stop.mk ?_))
local macro_rules | `(tactic| walk_at "CompSrc") => `(tactic| (refine Stop.mk ?_))
local macro_rules | `(tactic| walk_at "eval ListComp") => `(tactic| (refine Stop.mk ?_))
local macro_rules | `(tactic| walk_at "exec Assign cons ListComp") => `(tactic| ((with_reducible show wpAny _ _ (exec (PySem.Stmt.Assign [PySem.Expr.Name (PySem.Str.ofString "pairs") _] _ _) _) _ _ _); refine Stop.mk ?_))
local macro_rules | `(tactic| walk_at "compareOp NotEq ref ref") => `(tactic| (refine Stop.mk ?_))
local macro_rules | `(tactic| walk_at "compareOp Eq ref ref") => `(tactic| (refine Stop.mk ?_))
def rowD (e : Sd) : Dat := .tuple [.int e.x1, .int e.y1, .int e.x2, .int e.y2, .int e.way]
theorem row_dat {news : List (Addr × Obj)} {rs : List Value} {es : List Sd} (h : Are RowIn news rs es) : DatAll news rs (es.map rowD) := by
  induction h with
  | nil => exact .nil
  | cons a _ ih =>
    cases a with
    | mk hm => exact .cons (.tuple hm (.cons (.int _ _) (.cons (.int _ _) (.cons (.int _ _) (.cons (.int _ _) (.cons (.int _ _) .nil)))))) ih
theorem row_ok {es : List Sd} : ∀ d ∈ es.map rowD, kqdOk 8 d = true := by
  intro d hd
  obtain ⟨e, _, rfl⟩ := List.mem_map.mp hd
  rfl
theorem first_told : sidesOf (pairsOf [(0, 0), (1, 5)] ++ closing true [(0, 0), (1, 5)]) = [⟨0, 0, 1, 5, 1⟩, ⟨0, 0, 1, 5, -1⟩] := by
  simp [sidesOf, pairsOf, closing, side]
theorem cells_off {S c1 c2 : Addr} {w1 w2 : Obj} (h : ∀ p ∈ [(c1, w1), (c2, w2)], p.1 < S) (o1 o2 : Obj) : ∀ p ∈ [(c1, o1)] ++ [(c2, o2)], p.1 ≠ S := by
  have h1 := h (c1, w1) (.head _)
  have h2 := h (c2, w2) (.tail _ (.head _))
  intro p hp
  rcases List.mem_cons.mp hp with rfl | hp
  · exact Nat.ne_of_lt h1
  · rw [List.mem_singleton.mp hp]
    exact Nat.ne_of_lt h2
/-- the spots so far: the source with its two cells' entries, then the spots -/
def SpJ (S : Addr) (cs : List (Addr × Obj)) (i : Nat) (ys : List Value) (nl : List (Addr × Obj)) : Prop :=
  ∃ (i0 i1 : Int) (u0 u1 : Tok) (nn : Nat) (tl2 : List (Addr × Obj)) (ps : List (Int × Int)), nl = (S, listOf #[.int i0 u0, .int i1 u1] nn) :: (cs ++ tl2) ∧ 0 ≤ i0 ∧ 0 ≤ i1 ∧ i1 < 2147483647 ∧ ps.length = i ∧ Are SpotIn tl2 ys ps ∧ (∀ p ∈ tl2, S < p.1)
theorem SpJ.start {S : Addr} {cs : List (Addr × Obj)} {i0 i1 : Int} {u0 u1 : Tok} {nn : Nat} (h0 : 0 ≤ i0) (h1 : 0 ≤ i1) (h2 : i1 < 2147483647) : SpJ S cs 0 [] ((S, listOf #[.int i0 u0, .int i1 u1] nn) :: cs) :=
  ⟨i0, i1, u0, u1, nn, [], [], by rw [List.append_nil], h0, h1, h2, rfl, .nil, fun _ hp => nomatch hp⟩
theorem sp_perm {α : Type} {a b c d : α} {l : List α} : ∀ p ∈ d :: a :: b :: c :: l, p ∈ a :: b :: c :: d :: l := fun p hp => by
  simp only [List.mem_cons] at hp ⊢
  rcases hp with hp | hp | hp | hp | hp
  · exact .inr (.inr (.inr (.inl hp)))
  · exact .inl hp
  · exact .inr (.inl hp)
  · exact .inr (.inr (.inl hp))
  · exact .inr (.inr (.inr (.inr hp)))
theorem sp_offS {I C D S : Addr} {oI oC oD oS : Obj} {l : List (Addr × Obj)} (off : LCg.Off3 I C D ((S, oS) :: l)) (h : ∀ p ∈ l, p.1 ≠ S) : ∀ p ∈ (I, oI) :: (C, oC) :: (D, oD) :: l, p.1 ≠ S := by
  have o := off.mem (S, oS) (.head _)
  intro p hp
  simp only [List.mem_cons] at hp
  rcases hp with rfl | rfl | rfl | hp
  · exact fun e => o.1 e.symm
  · exact fun e => o.2.1 e.symm
  · exact fun e => o.2.2 e.symm
  · exact h p hp
theorem sp_turn {h₀ h : Heap} {L I C D T S : Addr} {m : Str → Option Value} {s₁ : Shared} {tk n0 nn nn' i : Nat} {oI oC : Obj} {ys : List Value} {cs tl2 : List (Addr × Obj)} {ps : List (Int × Int)} {x y i0 i1 j0 j1 : Int} {t1 t2 u0 u1 u2 u3 : Tok} {Z : Prop}
    (F : Fr h₀ L h m) (N : News h₀ L h ((T, tupO [.int x t1, .int y t2] n0) :: (S, listOf #[.int i0 u0, .int i1 u1] nn) :: (I, oI) :: (C, oC) :: (D, LCg.lst ys) :: (cs ++ tl2)))
    (la : S < T ∧ I < T ∧ C < T ∧ D < T ∧ Z) (off : LCg.Off3 I C D ((S, listOf #[.int j0 u2, .int j1 u3] nn') :: (cs ++ tl2))) (hT : ∀ p ∈ cs, p.1 ≠ S) (h0 : 0 ≤ i0) (h1 : 0 ≤ i1) (h2 : i1 < 2147483647) (hi : ps.length = i) (hys : Are SpotIn tl2 ys ps) (hS : ∀ p ∈ tl2, S < p.1) :
    LCg.CompEnd h₀ L m s₁ I oI C oC D (LCg.lst ys) (fun _ => True) (fun y nl => SpJ S cs (i + 1) (ys ++ [y]) nl) (.ref T) { s₁ with heap := h, toks := tk } := by
  obtain ⟨la0, la1, la2, la3, _⟩ := la
  have offm := off.mem
  have offS := offm (S, listOf #[.int j0 u2, .int j1 u3] nn') (.head _)
  refine LCg.CompEnd.intro F N ((S, listOf #[.int i0 u0, .int i1 u1] nn) :: (cs ++ ((T, tupO [.int x t1, .int y t2] n0) :: tl2))) ?_ (off3_of ?_ ?_ ?_) trivial
    ⟨i0, i1, u0, u1, nn, (T, tupO [.int x t1, .int y t2] n0) :: tl2, ps ++ [(x, y)], rfl, h0, h1, h2, by rw [List.length_append, hi]; rfl, (hys.mono fun h => h.mono fun p hp => .tail _ hp).append (.one (.mk (.head _))), ?_⟩
  · intro p hp
    simp only [List.mem_cons, List.mem_append] at hp ⊢
    rcases hp with hp | hp | hp | hp | hp | hp | hp
    · exact .inr (.inr (.inl hp))
    · exact .inr (.inr (.inr (.inl hp)))
    · exact .inr (.inr (.inr (.inr (.inl hp))))
    · exact .inr (.inl hp)
    · exact .inr (.inr (.inr (.inr (.inr (.inl hp)))))
    · exact .inl hp
    · exact .inr (.inr (.inr (.inr (.inr (.inr hp)))))
  · intro p hp
    simp only [List.mem_cons, List.mem_append] at hp
    rcases hp with rfl | hp | rfl | hp
    · exact offS.1
    · exact (offm p (.tail _ (List.mem_append_left _ hp))).1
    · exact Nat.ne_of_gt la1
    · exact (offm p (.tail _ (List.mem_append_right _ hp))).1
  · intro p hp
    simp only [List.mem_cons, List.mem_append] at hp
    rcases hp with rfl | hp | rfl | hp
    · exact offS.2.1
    · exact (offm p (.tail _ (List.mem_append_left _ hp))).2.1
    · exact Nat.ne_of_gt la2
    · exact (offm p (.tail _ (List.mem_append_right _ hp))).2.1
  · intro p hp
    simp only [List.mem_cons, List.mem_append] at hp
    rcases hp with rfl | hp | rfl | hp
    · exact offS.2.2
    · exact (offm p (.tail _ (List.mem_append_left _ hp))).2.2
    · exact Nat.ne_of_gt la3
    · exact (offm p (.tail _ (List.mem_append_right _ hp))).2.2
  · intro p hp
    rcases List.mem_cons.mp hp with rfl | hp
    · exact la0
    · exact hS p hp
theorem sp_drop {h₀ h : Heap} {L : Addr} {D S c2 c1 : Addr × Obj} {tl2 : List (Addr × Obj)} (N : News h₀ L h (D :: S :: c2 :: c1 :: tl2)) : News h₀ L h (D :: c2 :: tl2) := fun p hp => N p (by
  simp only [List.mem_cons] at hp ⊢
  rcases hp with hp | hp | hp
  · exact .inl hp
  · exact .inr (.inr (.inl hp))
  · exact .inr (.inr (.inr (.inr hp))))
theorem sp_own {tl2 : List (Addr × Obj)} {S c : Addr} (h : ∀ p ∈ tl2, S < p.1) (hc : c < S) : OwnOff tl2 [c] := fun p hp b hb => by
  rw [List.mem_singleton.mp hb]
  exact Nat.ne_of_gt (Nat.lt_trans hc (h p hp))
/-- the pairs so far -/
def PrJ (a b : Addr × Obj) (tl2 : List (Addr × Obj)) (ps : List (Int × Int)) (i : Nat) (zs : List Value) (nl : List (Addr × Obj)) : Prop :=
  ∃ tl3 : List (Addr × Obj), nl = a :: b :: (tl3 ++ tl2) ∧ Are PairIn (tl3 ++ tl2) zs ((pairsOf ps).take i)
theorem PrJ.start {a b : Addr × Obj} {tl2 : List (Addr × Obj)} {ps : List (Int × Int)} : PrJ a b tl2 ps 0 [] (a :: b :: tl2) := ⟨[], rfl, by simpa using .nil⟩
theorem pairs_at {ps : List (Int × Int)} {i : Nat} {p q : Int × Int} (h1 : ps[i]? = some p) (h2 : ps[i + 1]? = some q) : (pairsOf ps)[i]? = some (p, q) := by
  have h3 : (ps.drop 1)[i]? = some q := by rw [List.getElem?_drop, Nat.add_comm]; exact h2
  exact List.getElem?_zip_eq_some.mpr ⟨h1, h3⟩
theorem pr_turn {h₀ h : Heap} {L I C D T : Addr} {m : Str → Option Value} {s₁ : Shared} {tk n0 i : Nat} {oI oC : Obj} {zs : List Value} {a b : Addr × Obj} {tl2 tl3 : List (Addr × Obj)} {ps : List (Int × Int)} {v u : Value} {p q : Int × Int} {Z : Prop}
    (F : Fr h₀ L h m) (N : News h₀ L h ((T, tupO [v, u] n0) :: (I, oI) :: (C, oC) :: (D, LCg.lst zs) :: a :: b :: (tl3 ++ tl2)))
    (la : I < T ∧ C < T ∧ D < T ∧ Z) (off : LCg.Off3 I C D (a :: b :: (tl3 ++ tl2))) (hzs : Are PairIn (tl3 ++ tl2) zs ((pairsOf ps).take i)) (hv : SpotIn tl2 v p) (hu : SpotIn tl2 u q) (h1 : ps[i]? = some p) (h2 : ps[i + 1]? = some q) :
    LCg.CompEnd h₀ L m s₁ I oI C oC D (LCg.lst zs) (fun _ => True) (fun y nl => PrJ a b tl2 ps (i + 1) (zs ++ [y]) nl) (.ref T) { s₁ with heap := h, toks := tk } := by
  obtain ⟨la1, la2, la3, _⟩ := la
  have offm := off.mem
  have up : ∀ r ∈ tl2, r ∈ (T, tupO [v, u] n0) :: (tl3 ++ tl2) := fun r hr => .tail _ (List.mem_append_right _ hr)
  refine LCg.CompEnd.intro F N (a :: b :: (((T, tupO [v, u] n0) :: tl3) ++ tl2)) ?_ (off3_of ?_ ?_ ?_) trivial ⟨(T, tupO [v, u] n0) :: tl3, rfl, ?_⟩
  · intro r hr
    simp only [List.cons_append, List.mem_cons] at hr ⊢
    rcases hr with hr | hr | hr | hr | hr | hr | hr
    · exact .inr (.inl hr)
    · exact .inr (.inr (.inl hr))
    · exact .inr (.inr (.inr (.inl hr)))
    · exact .inr (.inr (.inr (.inr (.inl hr))))
    · exact .inr (.inr (.inr (.inr (.inr (.inl hr)))))
    · exact .inl hr
    · exact .inr (.inr (.inr (.inr (.inr (.inr hr)))))
  · intro r hr
    simp only [List.cons_append, List.mem_cons] at hr
    rcases hr with rfl | rfl | rfl | hr
    · exact (offm _ (.head _)).1
    · exact (offm _ (.tail _ (.head _))).1
    · exact Nat.ne_of_gt la1
    · exact (offm r (.tail _ (.tail _ hr))).1
  · intro r hr
    simp only [List.cons_append, List.mem_cons] at hr
    rcases hr with rfl | rfl | rfl | hr
    · exact (offm _ (.head _)).2.1
    · exact (offm _ (.tail _ (.head _))).2.1
    · exact Nat.ne_of_gt la2
    · exact (offm r (.tail _ (.tail _ hr))).2.1
  · intro r hr
    simp only [List.cons_append, List.mem_cons] at hr
    rcases hr with rfl | rfl | rfl | hr
    · exact (offm _ (.head _)).2.2
    · exact (offm _ (.tail _ (.head _))).2.2
    · exact Nat.ne_of_gt la3
    · exact (offm r (.tail _ (.tail _ hr))).2.2
  · rw [List.take_add_one, pairs_at h1 h2]
    exact (hzs.mono fun h => h.mono fun r hr => .tail _ hr).append (.one (.mk (.head _) (hv.mono up) (hu.mono up)))
theorem item_list {prog : Program} {w : World} {A : Around} {E : Value → Shared → Prop} {s : Shared} {value slice : PySem.Expr} {l : Addr} {vs : List Value} {k : Int} {u : Tok} {v : Value} {Q : Value → Shared → Prop}
    (hl : s.heap.IsList l vs.toArray) (h0 : 0 ≤ k) (hhi : k < 2 ^ 63) (hx : vs[k.toNat]? = some v) (h : Q v s)
    (hs : subscripted slice false (.ref l) (.int k u) = operate [.ref l, .int k u] (getItem (.ref l) (.int k u)) := by with_unfolding_all rfl) :
    wpAny (model prog w) A (subscriptTail value slice (.ref l) (.int k u)) Q E s :=
  tail_any hl.typeIs slot_list_getitem.lookup (wpAny_getItem_list hl h0 hhi (by simpa using hx) h) hs
theorem nf_step {h₀ h : Heap} {L : Addr} {X P D c : Addr × Obj} {tl G : List (Addr × Obj)} (N : News h₀ L h (tl ++ (X :: P :: D :: c :: G))) : News h₀ L h (P :: D :: c :: (tl ++ G)) := fun p hp => N p (by
  simp only [List.mem_cons, List.mem_append] at hp ⊢
  rcases hp with hp | hp | hp | hp | hp
  · exact .inr (.inr (.inl hp))
  · exact .inr (.inr (.inr (.inl hp)))
  · exact .inr (.inr (.inr (.inr (.inl hp))))
  · exact .inl hp
  · exact .inr (.inr (.inr (.inr (.inr hp)))))
theorem nf_drop {h₀ h : Heap} {L : Addr} {P D c : Addr × Obj} {tl tl2 G : List (Addr × Obj)} (N : News h₀ L h (tl ++ (P :: D :: c :: (tl2 ++ G)))) : News h₀ L h (P :: D :: c :: G) := fun p hp => N p (by
  simp only [List.mem_cons, List.mem_append] at hp ⊢
  rcases hp with hp | hp | hp | hp
  · exact .inr (.inl hp)
  · exact .inr (.inr (.inl hp))
  · exact .inr (.inr (.inr (.inl hp)))
  · exact .inr (.inr (.inr (.inr (.inr hp)))))
theorem pairs_len (ps : List (Int × Int)) : (pairsOf ps).length = ps.length - 1 := by simp only [pairsOf, List.length_zip, List.length_drop]; omega
/-- the heights so far -/
def HtJ (base : List (Addr × Obj)) (sd : List Sd) (i : Nat) (zs : List Value) (nl : List (Addr × Obj)) : Prop := nl = base ∧ IntsAre zs ((sd.take i).map ht)
theorem ht_turn {h₀ h : Heap} {L I C D : Addr} {m : Str → Option Value} {s₁ : Shared} {tk i : Nat} {t : Tok} {x : Int} {oI oC : Obj} {zs : List Value} {base : List (Addr × Obj)} {S : List (Addr × Obj) → Prop} {sd : List Sd} {e : Sd}
    (F : Fr h₀ L h m) (N : News h₀ L h ((I, oI) :: (C, oC) :: (D, LCg.lst zs) :: base)) (off : LCg.Off3 I C D base) (hS : S base) (hzs : IntsAre zs ((sd.take i).map ht)) (he : sd[i]? = some e) (hx : x = ht e) :
    LCg.CompEnd h₀ L m s₁ I oI C oC D (LCg.lst zs) S (fun y nl => HtJ base sd (i + 1) (zs ++ [y]) nl) (.int x t) { s₁ with heap := h, toks := tk } := by
  refine LCg.CompEnd.intro F N base (fun _ h => h) off hS ⟨rfl, ?_⟩
  subst hx
  rw [List.take_add_one, he, List.map_append]
  exact hzs.append (.cons _ _ .nil)
theorem item_list_neg {prog : Program} {w : World} {A : Around} {E : Value → Shared → Prop} {s : Shared} {value slice : PySem.Expr} {l : Addr} {vs : List Value} {u : Tok} {v : Value} {Q : Value → Shared → Prop}
    (hl : s.heap.IsList l vs.toArray) (h1 : 1 ≤ vs.length) (hx : vs[vs.length - 1]? = some v) (h : Q v s)
    (hs : subscripted slice false (.ref l) (.int (-1) u) = operate [.ref l, .int (-1) u] (getItem (.ref l) (.int (-1) u)) := by with_unfolding_all rfl) :
    wpAny (model prog w) A (subscriptTail value slice (.ref l) (.int (-1) u)) Q E s :=
  tail_any hl.typeIs slot_list_getitem.lookup (wpAny_getItem_list_neg hl (by decide) (by rw [List.size_toArray]; omega) (by decide) (by
    rw [List.size_toArray, show ((-1 : Int) + (vs.length : Int)).toNat = vs.length - 1 by omega]; simpa using hx) h) hs
theorem up6 {α : Type} {a b c d e f : α} {tl G : List α} : ∀ p ∈ G, p ∈ a :: b :: c :: d :: e :: f :: (tl ++ G) := fun _ hp => .tail _ (.tail _ (.tail _ (.tail _ (.tail _ (.tail _ (List.mem_append_right _ hp))))))
theorem up5 {α : Type} {a b c d e : α} {tl G : List α} : ∀ p ∈ G, p ∈ a :: b :: c :: d :: e :: (tl ++ G) := fun _ hp => .tail _ (.tail _ (.tail _ (.tail _ (.tail _ (List.mem_append_right _ hp)))))
theorem news_sub {h₀ h : Heap} {L : Addr} {l l' : List (Addr × Obj)} (N : News h₀ L h l) (hs : ∀ p ∈ l', p ∈ l) : News h₀ L h l' := fun p hp => N p (hs p hp)
section
variable {prog : Program} {w : World} {A : Around} {E : Value → Shared → Prop} {s : Shared} {h₀ : Heap} {L a b : Addr} {news : List (Addr × Obj)} {xs ys : List Value} {ka kb : Nat} {es fs : List Sd} {Q : Value → Shared → Prop}
theorem rows_ne (N : News h₀ L s.heap news) (ma : (a, listOf xs.toArray ka) ∈ news) (Ra : Are RowIn news xs es) (mb : (b, listOf ys.toArray kb) ∈ news) (Rb : Are RowIn news ys fs) (e : es = fs) (hu : A.units + 64 < cLine) (h : Q (.bool false) s) :
    wpAny (model prog w) A (compareOp .NotEq (.ref a) (.ref b)) Q E s :=
  kqd_ne N ma rfl rfl (row_dat Ra) (fun _ h => h) mb rfl rfl (row_dat Rb) (fun _ h => h) row_ok row_ok hu (by subst e; simpa only [eq_self, decide_true, Bool.not_true] using h)
theorem rows_eq (N : News h₀ L s.heap news) (ma : (a, listOf xs.toArray ka) ∈ news) (Ra : Are RowIn news xs es) (mb : (b, listOf ys.toArray kb) ∈ news) (Rb : Are RowIn news ys fs) (e : es = fs) (hu : A.units + 64 < cLine) (h : Q (.bool true) s) :
    wpAny (model prog w) A (compareOp .Eq (.ref a) (.ref b)) Q E s :=
  kqd_eq N ma rfl rfl (row_dat Ra) (fun _ h => h) mb rfl rfl (row_dat Rb) (fun _ h => h) row_ok row_ok hu (by subst e; simpa only [eq_self, decide_true, Bool.not_true] using h)
end
set_option maxRecDepth 100000 in
set_option maxHeartbeats 8000000 in
theorem lw : PySem.Challenge.rw_xm0712_01.Holds := hd (by
  k_go0
  all_goals try k_fold
  have hKd9 := kdMark
  k_steps
  rename Fr _ _ _ _ => F1
  rename News _ _ _ _ => N1
  refine Stop.out (td_spec (ps := [(0, 0), (1, 5)]) (c := true) (by k_asm) F1 (by k_asm) N1 (by k_asm) (by exact rfl) (by k_mem) (.cons (.mk (by k_mem)) (.cons (.mk (by k_mem)) .nil)) (by decide) (by first | decide | ktr_room) (by first | decide | ktr_units) ?_)
  intro D rs k tl h' tk' F' N' hD hrs hoff
  k_steps
  rename News _ _ _ _ => N2
  refine Stop.out (rows_ne N2 (.tail _ (.tail _ (.tail _ (List.mem_append_left _ hD)))) (hrs.mono fun h => h.mono fun p hp => .tail _ (.tail _ (.tail _ (List.mem_append_left _ hp)))) (List.mem_cons_self ..)
    (.cons (d := ⟨0, 0, 1, 5, 1⟩) (.mk (.tail _ (.tail _ (.head _)))) (.cons (d := ⟨0, 0, 1, 5, -1⟩) (.mk (.tail _ (.head _))) .nil)) first_told (by first | decide | ke_room) ?_)
  clear hrs hD hoff
  have N3 := news_sub N2 (fun p hp => .tail _ (.tail _ (.tail _ (List.mem_append_right _ (.tail _ (.tail _ (.tail _ hp)))))))
  clear N2
  k_steps
  rename Fr _ _ _ _ => F4
  rename News _ _ _ _ => N4
  rename IntsAre _ _ => hi4
  have hlen63 := hi4.length
  refine Stop.out (pl_spec (by k_asm) F4 (by k_asm) N4 (by k_asm) (by exact rfl) (by assumption) hi4 (by omega) (by first | decide | ktr_room) (by first | decide | ktr_units) ?_)
  intro S i0 i1 u0 u1 n5 h5 tk5 g0 g1 g2 F' N' hSlt
  k_steps
  rename Fr _ _ _ _ => F6
  rename News _ _ _ _ => N6
  refine Stop.out ?_
  k_dflt (refine LCg.ListComp_U (F₀ := F6) (by with_unfolding_all rfl) (by decide) (by rfl) (by decide) (by rfl) ?_)
  k_steps
  rename Fr _ _ _ _ => F7
  rename News _ _ _ _ => N7
  refine Stop.out (tk_spec (by k_asm) F7 (by k_asm) N7 (by k_asm) (by exact rfl) (cells_off hSlt _ _) g0 g1 g2 (by decide) (by decide) (by first | decide | ktr_room) (by first | decide | ktr_units) ?_)
  intro r j0 j1 u2 u3 u4 n8 h8 tk8 k0 k1 k2 k3 k4 k5 F' N'
  k_steps
  rename Fr _ _ _ _ => F8
  rename News _ _ _ _ => N8
  refine Stop.out ?_
  k_dflt (refine LCg.CompSrc.range (by rfl) F8 N8 (by assumption) (small_one (by omega) (by omega) (by omega) (by omega)) (rangeSize_nat _ _) (by rw [sizeLine_eq]; omega) ?_)
  intro g9
  have hS9 := cells_off hSlt
  have hSa := hSlt _ (.head _)
  have hSb := hSlt _ (.tail _ (.head _))
  refine comp_ind (J := SpJ S _) ?_ ?_ _ 0 _ _ (Nat.zero_add _) (SpJ.start k2 k4 k5)
  · intro i ys nl v I oI C oC D m₂ h9 tk9 E' hi hv hJ hC hx F9 N9 off ne
    obtain ⟨a0, a1, v0, v1, nn, tl2, ps, rfl, b0, b1, b2, hps, hys, htl⟩ := hJ
    simp only [List.cons_append, List.nil_append, List.append_eq] at N9 off
    k_steps
    rename Fr _ _ _ _ => Fa
    rename News _ _ _ _ => Na
    have hSr := sp_offS (oI := oI) (oC := oC) (oD := LCg.lst ys) off (fun p hp => by
      rcases List.mem_cons.mp hp with rfl | hp
      · exact Nat.ne_of_lt hSa
      · rcases List.mem_cons.mp hp with rfl | hp
        · exact Nat.ne_of_lt hSb
        · exact Nat.ne_of_gt (htl p hp))
    refine Stop.out (nu_spec (by k_asm) Fa (by k_asm) (news_sub Na sp_perm) (by k_asm) (by exact rfl) hSr b0 b1 b2 (by first | decide | ktr_room) (by first | decide | ktr_units) ?_)
    intro x c0 c1 w0 w1 w2 n9 hb9 tkb x1 x2 d0 d1 d2 F' N'
    k_steps
    rename Fr _ _ _ _ => Fb
    rename News _ _ _ _ => Nb
    refine Stop.out (nu_spec (by k_asm) Fb (by k_asm) Nb (by k_asm) (by exact rfl) hSr d0 d1 d2 (by first | decide | ktr_room) (by first | decide | ktr_units) ?_)
    intro y e0 e1 w3 w4 w5 n10 hc9 tkc y1 y2 f0 f1 f2 F' N'
    k_steps
    rename Fr _ _ _ _ => Fc
    rename News _ _ _ _ => Nc
    rename _ ∧ _ ∧ _ ∧ _ ∧ _ ∧ _ ∧ AllLt _ _ => la
    exact sp_turn Fc Nc la off (hS9 _ _) f0 f1 f2 hps hys htl
  · intro ys nl hJ
    obtain ⟨a0, a1, v0, v1, nn, tl2, ps, rfl, b0, b1, b2, hps, hys, htl⟩ := hJ
    unfold LCg.FinE
    intro D h9 tk9 F9 N9 o1
    simp only [List.cons_append, List.nil_append, List.append_eq] at N9
    have og := sp_own htl hSa
    have od := o1.2.1
    dsimp only at od og hSa hSb
    have Nd := sp_drop N9
    have hpl : ps.length ≤ 7 := by omega
    clear N9 o1
    k_steps
    rename Fr _ _ _ _ => F10
    rename News _ _ _ _ => N10
    refine Stop.out ?_
    k_dflt (refine LCg.Assign_ListComp_U (F₀ := F10) (by rfl) (by with_unfolding_all rfl) (by with_unfolding_all rfl) (by decide) (by rfl) (by decide) (by rfl) (by rfl) (by rfl) ?_)
    k_steps
    rename Fr _ _ _ _ => F11
    rename News _ _ _ _ => N11
    have hyl : ys.length = ps.length := hys.length
    refine len_list (items := ys.toArray) ⟨_, (N11 _ (.head _)).1, rfl, _, rfl⟩ (by rw [List.size_toArray]; omega) ?_
    rw [show (ys.toArray.size : Int) = (ps.length : Int) by rw [List.size_toArray, hyl]]
    k_steps
    rename Fr _ _ _ _ => F12
    rename News _ _ _ _ => N12
    refine Stop.out ?_
    k_dflt (refine LCg.CompSrc.range (by rfl) F12 N12 (by assumption) (small_one (by omega) (by omega) (by omega) (by omega)) (rangeSize_nat _ _) (by rw [sizeLine_eq]; omega) ?_)
    intro g12
    refine comp_ind (J := PrJ _ _ tl2 ps) ?_ ?_ _ 0 _ _ (Nat.zero_add _) PrJ.start
    · intro i zs nl v I oI C oC D9 m₂ h9 tk9 E' hi hv hJ hC hx F9 N9 off ne
      obtain ⟨tl3, rfl, hzs⟩ := hJ
      obtain ⟨t9, rfl⟩ := hv
      have hi1 : i < ps.length := by omega
      have hi2 : i + 1 < ps.length := by omega
      obtain ⟨v1, ev1, s1⟩ := hys.get (List.getElem?_eq_getElem hi1)
      obtain ⟨v2, ev2, s2⟩ := hys.get (List.getElem?_eq_getElem hi2)
      have hh1 : handedIn v1 = true := s1.handed
      have hh2 : handedIn v2 = true := s2.handed
      k_steps
      rename News _ _ _ _ => Na
      refine Stop.out (item_list ⟨_, (Na _ (.tail _ (.tail _ (.tail _ (.head _))))).1, rfl, _, rfl⟩ (by omega) (by omega) (by rw [show ((0 : Int) + (i : Int)).toNat = i by omega]; exact ev1) ?_)
      k_steps
      rename News _ _ _ _ => Nb
      refine Stop.out (item_list ⟨_, (Nb _ (.tail _ (.tail _ (.tail _ (.head _))))).1, rfl, _, rfl⟩ (by omega) (by omega) (by rw [show ((0 : Int) + (i : Int) + 1).toNat = i + 1 by omega]; exact ev2) ?_)
      k_steps
      rename Fr _ _ _ _ => Fc
      rename News _ _ _ _ => Nc
      rename _ ∧ _ ∧ _ ∧ _ ∧ _ ∧ AllLt _ _ => la
      exact pr_turn Fc Nc la off hzs s1 s2 (List.getElem?_eq_getElem hi1) (List.getElem?_eq_getElem hi2)
    · intro zs nl hJ
      obtain ⟨tl3, rfl, hzs⟩ := hJ
      unfold LCg.FinA
      intro PL h9 tk9 F9 N9 o1
      rw [List.take_of_length_le (by rw [pairs_len]; omega)] at hzs
      obtain ⟨G, hG⟩ : ∃ G, G = tl3 ++ tl2 := ⟨_, rfl⟩
      have hysG : Are SpotIn G ys ps := hys.mono fun h => h.mono fun p hp => hG ▸ List.mem_append_right _ hp
      rw [← hG] at N9 hzs o1
      clear hG hys htl og
      k_steps
      rename Fr _ _ _ _ => Fd
      rename News _ _ _ _ => Nd2
      refine Stop.out (td_spec (ps := ps) (c := false) (by k_asm) Fd (by k_asm) Nd2 (by k_asm) (by exact rfl) (.head _) (hysG.mono fun h => h.mono fun p hp => .tail _ (.tail _ (.tail _ (.tail _ hp)))) (by omega) (by first | decide | ktr_room) (by first | decide | ktr_units) ?_)
      intro T1 rs1 kk1 tla h1' tk1' F' N' hT1 hr1 hof1
      have Nn := nf_step N'
      clear N' hof1
      k_steps
      rename Fr _ _ _ _ => Fe
      rename News _ _ _ _ => Ne
      refine Stop.out (du_spec (prs := pairsOf ps) (by k_asm) Fe (by k_asm) Ne (by k_asm) (by exact rfl) (.head _) (hzs.mono fun h => h.mono fun p hp => .tail _ (.tail _ (.tail _ (List.mem_append_right _ hp)))) (by rw [pairs_len]; omega) (by first | decide | ktr_room) (by first | decide | ktr_units) ?_)
      intro T2 rs2 kk2 tlb h2' tk2' F' N' hT2 hr2 hlt2
      k_steps
      rename News _ _ _ _ => Nf
      refine Stop.out (rows_ne Nf (List.mem_append_right _ (.tail _ (.tail _ (.tail _ (List.mem_append_left _ hT1))))) (hr1.mono fun h => h.mono fun p hp => List.mem_append_right _ (.tail _ (.tail _ (.tail _ (List.mem_append_left _ hp))))) (List.mem_append_left _ hT2) (hr2.mono fun h => h.mono fun p hp => List.mem_append_left _ hp) (open_due ps) (by first | decide | ke_room) ?_)
      have Ng := nf_drop Nf
      clear Nf hT1 hr1 hT2 hr2 hlt2
      k_steps
      rename Fr _ _ _ _ => Fg
      rename News _ _ _ _ => Nh
      refine Stop.out (td_spec (ps := ps) (c := true) (by k_asm) Fg (by k_asm) Nh (by k_asm) (by exact rfl) (.head _) (hysG.mono fun h => h.mono fun p hp => .tail _ (.tail _ (.tail _ (.tail _ hp)))) (by omega) (by first | decide | ktr_room) (by first | decide | ktr_units) ?_)
      intro T3 rs3 kk3 tlc h3' tk3' F' N' hT3 hr3 hof3
      have Ni := nf_step N'
      clear N' hof3
      obtain ⟨sd, hsd⟩ : ∃ sd, sd = sidesOf (pairsOf ps ++ closing true ps) := ⟨_, rfl⟩
      rw [← hsd] at hr3
      have hsl3 : sd.length ≤ 101 := by
        have e2 := closing_len true ps
        have e4 : (sidesOf (pairsOf ps ++ closing true ps)).length ≤ (pairsOf ps ++ closing true ps).length := List.length_filterMap_le ..
        rw [List.length_append, pairs_len] at e4
        rw [hsd]
        omega
      k_steps
      rename Fr _ _ _ _ => Fk
      rename News _ _ _ _ => Nk
      refine Stop.out ?_
      k_dflt (refine LCg.ListComp_U (F₀ := Fk) (by with_unfolding_all rfl) (by decide) (by rfl) (by decide) (by rfl) ?_)
      k_steps
      rename Fr _ _ _ _ => Fl
      rename News _ _ _ _ => Nl
      have hT3m := List.mem_append_left G hT3
      refine Stop.out ?_
      k_dflt (refine LCg.CompSrc.ledger (by rfl) Fl Nl (.tail _ (.tail _ (.tail _ hT3m))) (by rw [List.size_toArray, hr3.length, sizeLine_eq]; omega) ?_)
      intro g13
      refine comp_ind (J := HtJ _ sd) ?_ ?_ _ 0 _ _ (Nat.zero_add _) ⟨rfl, by simpa using .nil⟩
      · intro i hts nl v I oI C oC D9 m₂ h9 tk9 E' hi hv hJ hC hx F9 N9 off ne
        obtain ⟨rfl, hzi⟩ := hJ
        have hi1 : i < sd.length := by rw [← hr3.length]; simpa using hi
        obtain ⟨v1, ev1, s1⟩ := hr3.get (List.getElem?_eq_getElem hi1)
        have ev : v1 = v := by
          have hv'' : rs3[i]? = some v := by simpa using hv
          rw [ev1] at hv''
          exact Option.some.inj hv''
        subst ev
        obtain ⟨e, he⟩ : ∃ e, e = sd[i] := ⟨_, rfl⟩
        have hee : sd[i]? = some e := by rw [he]; exact List.getElem?_eq_getElem hi1
        rw [← he] at s1
        have hway : e.way = 1 ∨ e.way = -1 := ways e (hsd ▸ List.mem_of_getElem? hee)
        cases s1 with
        | mk hm1 =>
          have hm2 := List.mem_append_left G hm1
          k_steps
          rename Fr _ _ _ _ => Fm
          rename News _ _ _ _ => Nm
          exact ht_turn Fm Nm off (.inr ⟨_, .tail _ (.tail _ (.tail _ hT3m)), rfl, _, rfl⟩) hzi hee rfl
      · intro hts nl hJ
        obtain ⟨rfl, hzi⟩ := hJ
        rw [List.take_of_length_le (by rw [← hr3.length]; simp)] at hzi
        unfold LCg.FinE
        intro HL h9 tk9 F9 N9 o2
        k_steps
        rename Fr _ _ _ _ => Fn
        rename News _ _ _ _ => Nn9
        refine Stop.out (sumK (by rfl) Fn Nn9 ⟨_, (Nn9 _ (.head _)).1, rfl, _, rfl⟩ hzi ?_)
        intro h14 tk14 t14 F' N'
        have hz0 : (sd.map ht).sum = 0 := by rw [hsd]; exact closed_zero ps
        rw [hz0]
        have Nq := news_sub N' (fun p hp => .tail _ hp)
        clear N' Nn9
        k_steps
        rename Fr _ _ _ _ => Fo
        rename News _ _ _ _ => No
        refine len_list (items := ys.toArray) ⟨_, (No _ (.tail _ (.head _))).1, rfl, _, rfl⟩ (by rw [List.size_toArray]; omega) ?_
        rw [show (ys.toArray.size : Int) = (ps.length : Int) by rw [List.size_toArray, hyl]]
        k_steps
        · rename 1 < (ps.length : Int) => hgt
          have hgt' : 1 < ps.length := by omega
          obtain ⟨v9, e9, s9⟩ := hysG.get (last_at hgt')
          obtain ⟨v8, e8, s8⟩ := hysG.get (first_at hgt')
          have hh9 : handedIn v9 = true := s9.handed
          have hh8 : handedIn v8 = true := s8.handed
          rename News _ _ _ _ => Np
          refine Stop.out (item_list_neg ⟨_, (Np _ (.tail _ (.head _))).1, rfl, _, rfl⟩ (by omega) (by rw [hyl]; exact e9) ?_)
          k_steps
          rename News _ _ _ _ => Nr
          refine Stop.out (item_list ⟨_, (Nr _ (.tail _ (.head _))).1, rfl, _, rfl⟩ (by decide) (by decide) (by exact e8) ?_)
          k_steps
          rename Fr _ _ _ _ => Fs
          rename News _ _ _ _ => Ns
          have hzl : zs.length ≤ 7 := by rw [hzs.length, pairs_len]; omega
          refine Stop.out (add_lists Fs Ns (vs := zs) (ws := [_]) ⟨_, (Ns _ (.tail _ (.tail _ (.head _)))).1, rfl, _, rfl⟩ ⟨_, (Ns _ (.head _)).1, rfl, _, rfl⟩ ?_ (by rw [List.length_cons, List.length_nil, sizeLine_eq]; omega))
          intro h15 F15 N15
          k_steps
          rename Fr _ _ _ _ => Ft
          rename News _ _ _ _ => Nt
          refine Stop.out (du_spec (prs := pairsOf ps ++ closing true ps) (by k_asm) Ft (by k_asm) Nt (by k_asm) (by exact rfl) (.head _) ?_ ?_ (by first | decide | ktr_room) (by first | decide | ktr_units) ?_)
          · rw [show closing true ps = [(ps.getLastD (0, 0), ps.headD (0, 0))] by simp [closing, hgt']]
            exact (hzs.mono fun h => h.mono up6).append (.one (.mk (.tail _ (.tail _ (.head _))) (s9.mono up6) (s8.mono up6)))
          · rw [List.length_append, pairs_len]; have := closing_len true ps; omega
          intro T5 rs5 kk5 tld h16 tk16 F' N' hT5 hr5 hlt5
          k_steps
          rename News _ _ _ _ => Nu
          refine Stop.out (rows_eq Nu (List.mem_append_right _ (.tail _ (.tail _ (.tail _ (.tail _ (.tail _ (.tail _ hT3m))))))) (hr3.mono fun h => h.mono fun p hp => List.mem_append_right _ (.tail _ (.tail _ (.tail _ (.tail _ (.tail _ (.tail _ (List.mem_append_left _ hp)))))))) (List.mem_append_left _ hT5) (hr5.mono fun h => h.mono fun p hp => List.mem_append_left _ hp) hsd (by first | decide | ke_room) ?_)
          k_steps

        · rename ¬ 1 < (ps.length : Int) => hgt
          rename Fr _ _ _ _ => Fs
          rename News _ _ _ _ => Ns
          have hzl : zs.length ≤ 7 := by rw [hzs.length, pairs_len]; omega
          refine Stop.out (add_lists Fs Ns (vs := zs) (ws := []) ⟨_, (Ns _ (.tail _ (.head _))).1, rfl, _, rfl⟩ ⟨_, (Ns _ (.head _)).1, rfl, _, rfl⟩ ?_ (by rw [List.length_nil, sizeLine_eq]; omega))
          intro h15 F15 N15
          k_steps
          rename Fr _ _ _ _ => Ft
          rename News _ _ _ _ => Nt
          refine Stop.out (du_spec (prs := pairsOf ps ++ closing true ps) (by k_asm) Ft (by k_asm) Nt (by k_asm) (by exact rfl) (.head _) ?_ ?_ (by first | decide | ktr_room) (by first | decide | ktr_units) ?_)
          · rw [show closing true ps = [] by simp only [closing]; rw [if_neg]; omega]
            rw [List.append_nil, List.append_nil]
            exact hzs.mono fun h => h.mono up5
          · rw [List.length_append, pairs_len]; have := closing_len true ps; omega
          intro T5 rs5 kk5 tld h16 tk16 F' N' hT5 hr5 hlt5
          k_steps
          rename News _ _ _ _ => Nu
          refine Stop.out (rows_eq Nu (List.mem_append_right _ (.tail _ (.tail _ (.tail _ (.tail _ (.tail _ hT3m)))))) (hr3.mono fun h => h.mono fun p hp => List.mem_append_right _ (.tail _ (.tail _ (.tail _ (.tail _ (.tail _ (List.mem_append_left _ hp))))))) (List.mem_append_left _ hT5) (hr5.mono fun h => h.mono fun p hp => List.mem_append_left _ hp) hsd (by first | decide | ke_room) ?_)
          k_steps
)
end PartLW
end Mine

theorem PySem.Challenge.cw_xm0712_01_holds : PySem.Challenge.rw_xm0712_01.Holds := by
  exact Mine.lw
