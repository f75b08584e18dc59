import PyProof.Rows.All
import Wide.All
import OpenK.AllK
import Wide.FinOn
import Lean
import PySem.Challenge.RW_xm0679_01
open PySem PySem.W PyProof.Rows PyProof.Rows.LCg
set_option Elab.async false
set_option linter.unusedVariables false
namespace Mine.hp
theorem tw8686215663030790720 : True := True.intro
theorem tw12156531093918259843 : True := True.intro
theorem tw10782953670199906526 : True := True.intro
theorem tw14167762827766982853 : True := True.intro
theorem tw2960152065997172875 : True := True.intro
theorem tw6835759847451471817 : True := True.intro
theorem tw3826664264981644756 : True := True.intro
theorem tw15756237730849480445 : True := True.intro
theorem tw9985696690275113730 : True := True.intro
theorem tw2118683354091696674 : True := True.intro
theorem tw13572666472453584417 : True := True.intro
theorem tw10746552577844558556 : True := True.intro
theorem tw5616166176404818047 : True := True.intro
theorem tw13287554976497117262 : True := True.intro
end Mine.hp
set_option Elab.async true in
set_option maxRecDepth 100000 in
set_option maxHeartbeats 8000000 in
theorem Mine.hp : True := by
  first
  | exact (with_decl_name% Mine.hp.hd (let x : (fun _ : PySem.Challenge.rw_xm0679_01.Holds => True) (by set_option Elab.async false in (w_on; o_law; k_head; (case hw => w_witness2)); fail) := True.intro
                                       True.intro))
  | exact True.intro
#print axioms Mine.hp
namespace Mine.hp
set_option maxRecDepth 100000 in
set_option maxHeartbeats 8000000 in
open_top hd for PySem.Challenge.rw_xm0679_01
end Mine.hp
set_option maxRecDepth 100000
set_option maxHeartbeats 2000000
set_option compiler.extract_closed false
namespace Mine
theorem kfill (w : World) (h : Heap) : (Mine.hp.hd.heap_39 w.params).In h → PySem.Challenge.rw_xm0679_01 = PySem.Challenge.rw_xm0679_01 := by w_top off; k_fill; intro _; rfl
end Mine
open Mine
namespace Mine
section
variable {prog : Program} {w : World} {A : Around} {E : Value → Shared → Prop} {s : Shared}

/-- the next item of a tuple's iterator, as zip and enumerate draw it -/
theorem nextOf_tuple_item {it t : Addr} {i : Nat} {items : Array Value} {x : Value} {Q : Value → Shared → Prop} (hit : s.heap.IsTupleIter it t i)
    (ht : s.heap.IsTuple t items) (hx : items[i]? = some x)
    (hQ : ∀ h', h'.IsTupleIter it t (i + 1) → Heap.SameBut it s.heap h' → Q x { s with heap := h' }) :
    wpAny (model prog w) A (Builtin.SmallTypes.nextOf (.ref it)) Q E s := by
  obtain ⟨o, ho, hc, hd⟩ := id hit
  obtain ⟨ol, hol, _, nl, hdl⟩ := ht
  unfold Builtin.SmallTypes.nextOf
  refine wpAny_bind (wpAny_callSpecial?_slot (name := Str.ofString "__next__") hit.typeIs F.slot_tuple_iterator_next
    (wpAny_call_entry F.slot_tuple_iterator_next hit.typeIs F.entry_tuple_iterator_next ?_ (F.args_tuple_iterator_next_1 _)))
  show wpAny _ _ (field (.ref it) 0 >>= _) _ _ s
  refine wpAny_bind (wpAny_field ho hd (x := .ref t) rfl ?_)
  show wpAny _ _ (if (Value.ref t == Value.none) = true then _ else _) _ _ s
  rw [if_neg (show ¬ ((Value.ref t == Value.none) = true) from Bool.false_ne_true)]
  show wpAny _ _ (field (.ref it) 1 >>= _) _ _ s
  refine wpAny_bind (wpAny_field ho hd (x := .int i 0) rfl ?_)
  show wpAny _ _ (seqItems? (.ref t) >>= _) _ _ s
  refine wpAny_bind (wpAny_seqItems hol hdl ?_)
  simp only [Int.toNat_natCast, hx]
  refine wpAny_bind (wpAny_setField ho hd (by simp) (wpAny_pure ⟨x, rfl, wpAny_pure (hQ _ ?_ (Heap.SameBut.update ..))⟩))
  exact ⟨_, Heap.get?_update_self _ ho (Obj.isFreed_of_fields (Obj.data_mapFields hd _)), (Obj.cls_mapFields ..).trans hc, by
    rw [Obj.data_mapFields hd]; simp [rawInt]⟩

theorem nextOf_tuple_end {it t : Addr} {i : Nat} {items : Array Value} {Q : Value → Shared → Prop} (hh : A.handled = none)
    (hit : s.heap.IsTupleIter it t i) (ht : s.heap.IsTuple t items) (hx : items[i]? = none)
    (hE : ∀ h' e, Heap.ExtBut it s.heap h' → (∃ o, h'.get? e = some o ∧ o.cls = .type "StopIteration") → E (.ref e) { s with heap := h' }) :
    wpAny (model prog w) A (Builtin.SmallTypes.nextOf (.ref it)) Q E s := by
  obtain ⟨o, ho, hc, hd⟩ := id hit
  obtain ⟨ol, hol, _, nl, hdl⟩ := ht
  unfold Builtin.SmallTypes.nextOf
  refine wpAny_bind (wpAny_callSpecial?_slot (name := Str.ofString "__next__") hit.typeIs F.slot_tuple_iterator_next
    (wpAny_call_entry F.slot_tuple_iterator_next hit.typeIs F.entry_tuple_iterator_next ?_ (F.args_tuple_iterator_next_1 _)))
  show wpAny _ _ (field (.ref it) 0 >>= _) _ _ s
  refine wpAny_bind (wpAny_field ho hd (x := .ref t) rfl ?_)
  show wpAny _ _ (if (Value.ref t == Value.none) = true then _ else _) _ _ s
  rw [if_neg (show ¬ ((Value.ref t == Value.none) = true) from Bool.false_ne_true)]
  show wpAny _ _ (field (.ref it) 1 >>= _) _ _ s
  refine wpAny_bind (wpAny_field ho hd (x := .int i 0) rfl ?_)
  show wpAny _ _ (seqItems? (.ref t) >>= _) _ _ s
  refine wpAny_bind (wpAny_seqItems hol hdl ?_)
  simp only [Int.toNat_natCast, hx]
  refine wpAny_bind (wpAny_rule (wpAny_bind (wpAny_setField ho hd (by simp) ?_)))
  show wpAny _ _ (newExc (.type "StopIteration") [] >>= _) _ _ _
  refine wpAny_bind ?_
  simp only [newExc, newTuple]
  refine wpAny_bind (wpAny_newObj_type ?_ (by size_fits))
  refine wpAny_bind (m := firstArgMember _ _) (wpAny_of_eq (a := Value.none) (by first | rfl | (simp only [firstArgMember]; rfl)) ?_)
  refine wpAny_newObj_type ?_ (by size_fits)
  simp only [raiseNew]
  refine wpAny_bind (wpAny_handled ?_)
  first | rw [show A.in1.handled = none from hh] | rw [hh]
  refine wpAny_bind (wpAny_pure (wpAny_throw ?_))
  exact hE _ _ (((Heap.SameBut.update ..).extBut.push _).push _) ⟨_, Heap.get?_push_size _ rfl, rfl⟩
end

theorem draws_tuple {prog : Program} {w : World} {A : Around} (hh : A.handled = none) (it l : Addr) (hne : l ≠ it) (items : Array Value) :
    Draws prog w A it [it, l] items.size (fun i v => items[i]? = some v) (fun i h => h.IsTupleIter it l i ∧ h.IsTuple l items) where
  live := fun _ _ st => let ⟨o, ho, _⟩ := st.1; ⟨o, ho⟩
  frame := fun _ _ _ st hk => ⟨st.1.at fun o e => hk it (by simp) o e, st.2.at fun o e => hk l (by simp) o e⟩
  item := fun i s Q E hi st hQ => by
    refine nextOf_tuple_item st.1 st.2 (x := items[i]) (by simp [hi]) fun h' hit' hs' => ?_
    exact hQ _ h' s.toks (by simp [hi]) ⟨hit', st.2.extBut hs'.extBut hne⟩ hs'
  done := fun s Q E st hE => nextOf_tuple_end hh st.1 st.2 (by simp) hE

/-- what zip holds lies apart -/
structure ZApart (z TI TO i1 i2 : Addr) (fp1 fp2 : List Addr) : Prop where
  TIz : TI ≠ z
  TOz : TO ≠ z
  TITO : TI ≠ TO
  i1z : i1 ≠ z
  i2z : i2 ≠ z
  TIi1 : TI ≠ i1
  TIi2 : TI ≠ i2
  TOi1 : TO ≠ i1
  TOi2 : TO ≠ i2
  z1 : z ∉ fp1
  z2 : z ∉ fp2
  TO1 : TO ∉ fp1
  TO2 : TO ∉ fp2
  a12 : i1 ∉ fp2
  a21 : i2 ∉ fp1
  o1 : i1 ∈ fp1
  o2 : i2 ∈ fp2

section
variable {prog : Program} {w : World} {A : Around} {E : Value → Shared → Prop} {s : Shared}

theorem zipD_next_item {z TI TO i1 i2 : Addr} {fp1 fp2 : List Addr} {n1 n2 k1 k2 : Nat} {P1 P2 : Nat → Value → Prop} {S1 S2 : Nat → Heap → Prop} {a b : Value} {Q : Value → Shared → Prop} (D : ZApart z TI TO i1 i2 fp1 fp2)
    (D1 : Draws prog w A i1 fp1 n1 P1 S1) (D2 : Draws prog w A i2 fp2 n2 P2 S2)
    (hz : IsZip s.heap z TI TO .none) (hTI : IsPair s.heap TI (.ref i1) (.ref i2)) (hTO : IsPair s.heap TO a b)
    (h1 : S1 k1 s.heap) (h2 : S2 k2 s.heap) (hx : k1 < n1) (hy : k2 < n2)
    (hQ : ∀ x y h' tk, P1 k1 x → P2 k2 y → IsZip h' z TI TO (rawInt s.heap.objs.size) → IsPair h' TO x y → S1 (k1 + 1) h' → S2 (k2 + 1) h' → IsPair h' s.heap.objs.size x y → h'.objs.size = s.heap.objs.size + 1 →
      (∀ c o, c ≠ z → c ≠ TO → c ≠ i1 → c ≠ i2 → s.heap.get? c = some o → h'.get? c = some o) → Q (.ref s.heap.objs.size) { s with heap := h', toks := tk }) :
    wpAny (model prog w) A (Builtin.«zip.__next__» ⟨[.ref z], []⟩) (fun fin s' => ∃ v, fin = .done (.ret v) ∧ Q v s') E s := by
  show wpAny _ _ (field (.ref z) 2 >>= _) _ _ _
  refine wpAny_bind (wpAny_field hz rfl (x := .bool false) rfl ?_)
  show wpAny _ _ (field (.ref z) 3 >>= _) _ _ _
  refine wpAny_bind (wpAny_field hz rfl (x := .ref TI) rfl ?_)
  refine wpAny_bind (wpAny_seqItems hTI rfl ?_)
  show wpAny _ _ (Builtin.SmallTypes.ownedTupleIsFree (.ref z) >>= _) _ _ _
  refine wpAny_bind ?_
  unfold Builtin.SmallTypes.ownedTupleIsFree
  refine wpAny_bind (wpAny_field hz rfl (x := .none) rfl (wpAny_pure ?_))
  simp only [if_true]
  refine wpAny_bind (wpAny_rule ?_)
  refine wpAny_bind (wpAny_field hz rfl (x := .ref TO) rfl ?_)
  refine wpAny_bind (wpAny_setField_rec hz (by simp) fun h₁ hz₁ hs₁ => ?_)
  replace hz₁ : IsZip h₁ z TI TO .ellipsis := hz₁
  refine wpAny_bind ?_
  simp only [List.zipIdx_cons, List.zipIdx_nil, List.forIn_cons, List.forIn_nil]
  refine wpAny_bind (wpAny_bind (wpAny_onRaise ?_))
  show wpAny _ _ (Builtin.SmallTypes.nextOf (.ref i1) >>= _) _ _ _
  refine wpAny_bind (D1.item k1 _ _ _ hx (D1.frame _ _ _ h1 fun c hc o e => hs₁.extBut c o (fun q => D.z1 (q ▸ hc)) e) fun x h₂ tk₂ px h1₂ hs₂ => wpAny_pure ?_)
  have hTO₂ : IsPair h₂ TO a b := hs₂.extBut _ _ D.TOi1 (hs₁.extBut _ _ D.TOz hTO)
  refine wpAny_bind (wpAny_seqItems hTO₂ rfl ?_)
  refine wpAny_bind (wpAny_updateSeq_pair hTO₂ fun h₃ hTO₃ hs₃ => ?_)
  replace hTO₃ : IsPair h₃ TO x b := hTO₃
  refine wpAny_bind (wpAny_letGo (wpAny_pure ?_))
  refine wpAny_bind (wpAny_bind (wpAny_onRaise ?_))
  show wpAny _ _ (Builtin.SmallTypes.nextOf (.ref i2) >>= _) _ _ _
  have h2₃ : S2 k2 h₃ := D2.frame _ _ _ h2 fun c hc o e => hs₃.extBut c o (fun q => D.TO2 (q ▸ hc)) (hs₂.extBut c o (fun q => D.a12 (q ▸ hc)) (hs₁.extBut c o (fun q => D.z2 (q ▸ hc)) e))
  refine wpAny_bind (D2.item k2 _ _ _ hy h2₃ fun y h₄ tk₄ py h2₄ hs₄ => wpAny_pure ?_)
  have hTO₄ : IsPair h₄ TO x b := hs₄.extBut _ _ D.TOi2 hTO₃
  refine wpAny_bind (wpAny_seqItems hTO₄ rfl ?_)
  refine wpAny_bind (wpAny_updateSeq_pair hTO₄ fun h₅ hTO₅ hs₅ => ?_)
  replace hTO₅ : IsPair h₅ TO x y := hTO₅
  refine wpAny_bind (wpAny_letGo (wpAny_pure (wpAny_pure ?_)))
  refine wpAny_bind (wpAny_seqItems hTO₅ rfl ?_)
  refine wpAny_bind (wpAny_newTuple ?_)
  have hsz : h₅.objs.size = s.heap.objs.size := by rw [hs₅.1, hs₄.1, hs₃.1, hs₂.1, hs₁.1]
  have hz₅ : IsZip h₅ z TI TO .ellipsis := hs₅.extBut _ _ D.TOz.symm (hs₄.extBut _ _ D.i2z.symm (hs₃.extBut _ _ D.TOz.symm (hs₂.extBut _ _ D.i1z.symm hz₁)))
  have hk₅ : ∀ c o, c ≠ z → c ≠ TO → c ≠ i1 → c ≠ i2 → s.heap.get? c = some o → h₅.get? c = some o := fun c o c1 c2 c3 c4 e =>
    hs₅.extBut _ _ c2 (hs₄.extBut _ _ c4 (hs₃.extBut _ _ c2 (hs₂.extBut _ _ c3 (hs₁.extBut _ _ c1 e))))
  have h1₅ : S1 (k1 + 1) h₅ := D1.frame _ _ _ h1₂ fun c hc o e => hs₅.extBut c o (fun q => D.TO1 (q ▸ hc)) (hs₄.extBut c o (fun q => D.a21 (q ▸ hc)) (hs₃.extBut c o (fun q => D.TO1 (q ▸ hc)) e))
  have h2₅ : S2 (k2 + 1) h₅ := D2.frame _ _ _ h2₄ fun c hc o e => hs₅.extBut c o (fun q => D.TO2 (q ▸ hc)) e
  have hzlt : z < h₅.objs.size := Heap.lt_size hz₅
  show wpAny _ _ (Builtin.SmallTypes.ownedTupleHandOut (.ref z) (.ref h₅.objs.size) >>= _) _ _ _
  refine wpAny_bind ?_
  unfold Builtin.SmallTypes.ownedTupleHandOut
  have hz₆ : IsZip (h₅.push { cls := .type "tuple", data := .seq #[x, y] }) z TI TO .ellipsis := Heap.get?_push_of_some _ hz₅
  refine wpAny_bind (wpAny_setField_rec hz₆ (by simp) fun h₇ hz₇ hs₇ => ?_)
  replace hz₇ : IsZip h₇ z TI TO (rawInt h₅.objs.size) := hz₇
  refine wpAny_setField_rec hz₇ (by simp) fun h₈ hz₈ hs₈ => ?_
  replace hz₈ : IsZip h₈ z TI TO (rawInt h₅.objs.size) := hz₈
  have up : ∀ c o, c ≠ z → h₅.get? c = some o → h₈.get? c = some o := fun c o c1 e => hs₈.extBut _ _ c1 (hs₇.extBut _ _ c1 (Heap.get?_push_of_some _ e))
  have hT₈ : IsPair h₈ h₅.objs.size x y := hs₈.extBut _ _ (Nat.ne_of_gt hzlt) (hs₇.extBut _ _ (Nat.ne_of_gt hzlt) (Heap.get?_push_size _ rfl))
  have hz8 : h₈.objs.size = h₅.objs.size + 1 := by rw [hs₈.1, hs₇.1, Heap.size_push]
  rw [hsz] at hz₈ hT₈ hz8
  refine wpAny_pure ⟨_, rfl, ?_⟩
  show Q (.ref h₅.objs.size) _
  rw [hsz]
  exact hQ x y h₈ tk₄ px py hz₈ (up _ _ D.TOz hTO₅) (D1.frame _ _ _ h1₅ fun c hc o e => up c o (fun q => D.z1 (q ▸ hc)) e) (D2.frame _ _ _ h2₅ fun c hc o e => up c o (fun q => D.z2 (q ▸ hc)) e) hT₈ hz8 fun c o c1 c2 c3 c4 e => up c o c1 (hk₅ c o c1 c2 c3 c4 e)

/-- the end, where both come to theirs at once -/
theorem zipD_next_end {z TI TO i1 i2 : Addr} {fp1 fp2 : List Addr} {n1 : Nat} {P1 : Nat → Value → Prop} {S1 : Nat → Heap → Prop} {Q : Fin → Shared → Prop} (D : ZApart z TI TO i1 i2 fp1 fp2)
    (D1 : Draws prog w A i1 fp1 n1 P1 S1)
    (hz : IsZip s.heap z TI TO .none) (hTI : IsPair s.heap TI (.ref i1) (.ref i2))
    (h1 : S1 n1 s.heap)
    (hE : ∀ h' e, (∀ c o, c ≠ z → c ≠ TO → c ≠ i1 → c ≠ i2 → s.heap.get? c = some o → h'.get? c = some o) → (∃ o, h'.get? e = some o ∧ o.cls = .type "StopIteration") → E (.ref e) { s with heap := h' }) :
    wpAny (model prog w) A (Builtin.«zip.__next__» ⟨[.ref z], []⟩) Q E s := by
  show wpAny _ _ (field (.ref z) 2 >>= _) _ _ _
  refine wpAny_bind (wpAny_field hz rfl (x := .bool false) rfl ?_)
  show wpAny _ _ (field (.ref z) 3 >>= _) _ _ _
  refine wpAny_bind (wpAny_field hz rfl (x := .ref TI) rfl ?_)
  refine wpAny_bind (wpAny_seqItems hTI rfl ?_)
  show wpAny _ _ (Builtin.SmallTypes.ownedTupleIsFree (.ref z) >>= _) _ _ _
  refine wpAny_bind ?_
  unfold Builtin.SmallTypes.ownedTupleIsFree
  refine wpAny_bind (wpAny_field hz rfl (x := .none) rfl (wpAny_pure ?_))
  simp only [if_true]
  refine wpAny_bind (wpAny_rule ?_)
  refine wpAny_bind (wpAny_field hz rfl (x := .ref TO) rfl ?_)
  refine wpAny_bind (wpAny_setField_rec hz (by simp) fun h₁ hz₁ hs₁ => ?_)
  replace hz₁ : IsZip h₁ z TI TO .ellipsis := hz₁
  refine wpAny_bind ?_
  simp only [List.zipIdx_cons, List.zipIdx_nil, List.forIn_cons, List.forIn_nil]
  refine wpAny_bind (wpAny_bind (wpAny_onRaise ?_))
  show wpAny _ _ (Builtin.SmallTypes.nextOf (.ref i1) >>= _) _ _ _
  refine wpAny_bind (D1.done _ _ _ (D1.frame _ _ _ h1 fun c hc o e => hs₁.extBut c o (fun q => D.z1 (q ▸ hc)) e) fun h₂ e hs₂ he => ?_)
  obtain ⟨oe, hoe, hce⟩ := he
  have hz₂ : IsZip h₂ z TI TO .ellipsis := hs₂ _ _ D.i1z.symm hz₁
  have hez : e ≠ z := fun x => by subst x; rw [hz₂] at hoe; cases hoe; simp at hce
  refine wpAny_setField_rec hz₂ (by simp) fun h₃ _ hs₃ => hE h₃ e (fun c o c1 _ c3 _ x => hs₃.extBut _ _ c1 (hs₂ _ _ c3 (hs₁.extBut _ _ c1 x))) ⟨oe, hs₃.extBut _ _ hez hoe, hce⟩

theorem walksZipD (z TI TO i1 i2 : Addr) {fp1 fp2 : List Addr} {n : Nat} {P1 P2 : Nat → Value → Prop} {S1 S2 : Nat → Heap → Prop} (D : ZApart z TI TO i1 i2 fp1 fp2)
    (D1 : Draws prog w A.in1 i1 fp1 n P1 S1) (D2 : Draws prog w A.in1 i2 fp2 n P2 S2) :
    WalksT prog w A z (z :: TI :: TO :: (fp1 ++ fp2)) [z, TO, i1, i2] n
      (fun i vals => ∃ x y, P1 i x ∧ P2 i y ∧ vals = #[x, y])
      (fun i h => IsZip h z TI TO .none ∧ IsPair h TI (.ref i1) (.ref i2) ∧ (∃ a b, IsPair h TO a b) ∧ S1 i h ∧ S2 i h)
      (fun i T h => IsZip h z TI TO (rawInt T) ∧ IsPair h TI (.ref i1) (.ref i2) ∧ (∃ a b, IsPair h TO a b) ∧ S1 (i + 1) h ∧ S2 (i + 1) h ∧
        T ≠ z ∧ T ≠ TO ∧ T ≠ i1 ∧ T ≠ i2) where
  sub := fun c hc => by
    have o1 := D.o1
    have o2 := D.o2
    simp at hc ⊢; rcases hc with rfl | rfl | rfl | rfl <;> simp [o1, o2]
  frame := fun i h h' hst hk => by
    obtain ⟨hz, hTI, ⟨a, b, hTO⟩, h1, h2⟩ := hst
    exact ⟨hk z (by simp) _ hz, hk TI (by simp) _ hTI, ⟨a, b, hk TO (by simp) _ hTO⟩, D1.frame _ _ _ h1 fun c hc o e => hk c (by simp [hc]) o e, D2.frame _ _ _ h2 fun c hc o e => hk c (by simp [hc]) o e⟩
  item := fun i s Q E hi hst hQ => by
    obtain ⟨hz, hTI, ⟨a, b, hTO⟩, h1, h2⟩ := hst
    have hT : s.TypeIs (.ref z) "zip" := ⟨_, hz, rfl⟩
    unfold pyNext
    refine wpAny_bind (wpAny_attempt (wpAny_callSpecial?_slot (name := Str.ofString "__next__") hT F.slot_zip_next
      (wpAny_call_entry F.slot_zip_next hT F.entry_zip_next
        (zipD_next_item D D1 D2 hz hTI hTO h1 h2 hi hi fun x y h' tk px py a1 a2 a3 a4 a5 a6 hk => wpAny_pure ?_) (F.args_zip_next_1 _))))
    have lt : ∀ {c o}, s.heap.get? c = some o → s.heap.objs.size ≠ c := fun e => Nat.ne_of_gt (Heap.lt_size e)
    exact hQ s.heap.objs.size #[x, y] h' tk ⟨_, _, px, py, rfl⟩ (Nat.le_refl _) ⟨_, a5, rfl, _, rfl⟩
      ⟨a1, hk _ _ D.TIz D.TITO D.TIi1 D.TIi2 hTI, ⟨_, _, a2⟩, a3, a4, lt hz, lt hTO, (by obtain ⟨_, e⟩ := D1.live _ _ h1; exact lt e), (by obtain ⟨_, e⟩ := D2.live _ _ h2; exact lt e)⟩
      fun c o hc e => hk c o (fun x => hc (by simp [x])) (fun x => hc (by simp [x])) (fun x => hc (by simp [x])) (fun x => hc (by simp [x])) e
  go := fun elts k pos i T s Q E hm hQ => by
    obtain ⟨hz, hTI, ⟨a, b, hTO⟩, h1, h2, _⟩ := hm
    refine wpAny_letOwnedTupleGo_zip hz fun h' hz' hs' => hQ h' ⟨hz', hs'.extBut _ _ D.TIz hTI, ⟨a, b, hs'.extBut _ _ D.TOz hTO⟩, D1.frame _ _ _ h1 fun c hc o e => hs'.extBut c o (fun q => D.z1 (q ▸ hc)) e,
      D2.frame _ _ _ h2 fun c hc o e => hs'.extBut c o (fun q => D.z2 (q ▸ hc)) e⟩ fun c o hc e => hs'.extBut _ _ (fun x => hc (by simp [x])) e
  apart := fun i T h hm hT => by
    obtain ⟨_, _, _, _, _, t1, t2, t3, t4⟩ := hm
    simp at hT
    rcases hT with rfl | rfl | rfl | rfl
    · exact t1 rfl
    · exact t2 rfl
    · exact t3 rfl
    · exact t4 rfl
  done := fun s Q E hst hQ => by
    obtain ⟨hz, hTI, ⟨a, b, hTO⟩, h1, h2⟩ := hst
    have hT : s.TypeIs (.ref z) "zip" := ⟨_, hz, rfl⟩
    unfold pyNext
    refine wpAny_bind (wpAny_attempt (wpAny_callSpecial?_slot (name := Str.ofString "__next__") hT F.slot_zip_next
      (wpAny_call_entry F.slot_zip_next hT F.entry_zip_next (zipD_next_end D D1 hz hTI h1 fun h' e hk he => ?_) (F.args_zip_next_1 _))))
    obtain ⟨o, ho, hc⟩ := he
    refine wpAny_bind (wpAny_isInstance (T := "StopIteration") (b := true) ⟨o, ho, hc⟩ isSubtype_stop ?_)
    exact wpAny_pure (hQ _ s.toks fun c o hc e =>
      hk c o (fun x => hc (by simp [x])) (fun x => hc (by simp [x])) (fun x => hc (by simp [x])) (fun x => hc (by simp [x])) e)
  self := fun i s Q E hst hQ => wpAny_pyIter_zip hst.1 hQ
end

noncomputable abbrev zsH1 (h : Heap) (x : Str) (t : Tok) : Heap := h.push { cls := .type "str_ascii_iterator", data := .fields #[.str x t, .int 0 0] }
noncomputable abbrev zsH2 (h : Heap) (x : Str) (t : Tok) (l2 : Addr) : Heap := (zsH1 h x t).push { cls := .type "tuple_iterator", data := .fields #[.ref l2, .int 0 0] }
noncomputable abbrev zsH3 (h : Heap) (x : Str) (t : Tok) (l2 : Addr) : Heap := (zsH2 h x t l2).push { cls := .type "tuple", data := .seq #[.ref h.objs.size, .ref (zsH1 h x t).objs.size] }
noncomputable abbrev zsH4 (h : Heap) (x : Str) (t : Tok) (l2 : Addr) : Heap := (zsH3 h x t l2).push { cls := .type "tuple", data := .seq #[.none, .none] }
noncomputable abbrev zsH5 (h : Heap) (x : Str) (t : Tok) (l2 : Addr) : Heap := (zsH4 h x t l2).push { cls := .type "zip", data := .fields #[.none, .bool false, .bool false, .ref (zsH2 h x t l2).objs.size, .ref (zsH3 h x t l2).objs.size] }

theorem meets_zipST_new (x : Str) (t : Tok) (l2 : Addr) (ys : Array Value) :
    Meets (Builtin.«zip.__new__» ⟨[.type "zip", .str x t, .ref l2], []⟩) (fun _ R s => x.cps.all (· < 128) = true ∧ s.heap.IsTuple l2 ys ∧
      R (.ok (.ret (.ref (zsH4 s.heap x t l2).objs.size))) { s with heap := zsH5 s.heap x t l2 }) :=
  .of_wp fun prog w A R s h => by
    obtain ⟨hp, g, d, tk, os⟩ := s; obtain ⟨ha, hl2, h⟩ := h
    have hsub := sub_zip
    have hL2 : Heap.IsTuple (Shared.heap ⟨hp.push { cls := .type "str_ascii_iterator", data := .fields #[.str x t, .int 0 0] }, g, d, tk, os⟩) l2 ys := Heap.IsTuple.push hl2 _
    wp_walk using wpAny_pyIter_ascii ha, wpAny_pyIter_tuple hL2
    exact ⟨_, rfl, h⟩

section
variable {prog : Program} {w : World} {A : Around} {E : Value → Shared → Prop} {s : Shared}
theorem call_zipST {x : Str} {t : Tok} {l2 : Addr} {ys : Array Value} {Q : Value → Shared → Prop} (ha : x.cps.all (· < 128) = true) (hl2 : s.heap.IsTuple l2 ys)
    (h : ∀ h', IsZip h' (s.heap.objs.size + 4) (s.heap.objs.size + 2) (s.heap.objs.size + 3) .none → IsPair h' (s.heap.objs.size + 2) (.ref s.heap.objs.size) (.ref (s.heap.objs.size + 1)) →
      IsPair h' (s.heap.objs.size + 3) .none .none → h'.IsStrIter s.heap.objs.size "str_ascii_iterator" x t 0 → h'.IsTupleIter (s.heap.objs.size + 1) l2 0 → h'.objs.size = s.heap.objs.size + 5 →
      (∀ c o, s.heap.get? c = some o → h'.get? c = some o) → Q (.ref (s.heap.objs.size + 4)) { s with heap := h' }) :
    wpAny (model prog w) A (call (.type "zip") [.str x t, .ref l2]) Q E s := by
  refine callType_new F.called_zip (by decide) (F.typeCall_zip_2 _ _) (F.newCall_zip_2 _ _) (fun obj => F.args_object_init_3 obj _ _) F.entry_zip_new
    (meets_zipST_new x t l2 ys) ⟨ha, hl2, ?_⟩
  have z1 : (zsH1 s.heap x t).objs.size = s.heap.objs.size + 1 := Heap.size_push ..
  have z2 : (zsH2 s.heap x t l2).objs.size = s.heap.objs.size + 2 := by rw [Heap.size_push, z1]
  have z3 : (zsH3 s.heap x t l2).objs.size = s.heap.objs.size + 3 := by rw [Heap.size_push, z2]
  have z4 : (zsH4 s.heap x t l2).objs.size = s.heap.objs.size + 4 := by rw [Heap.size_push, z3]
  have z5 : (zsH5 s.heap x t l2).objs.size = s.heap.objs.size + 5 := by rw [Heap.size_push, z4]
  have g5 : (zsH5 s.heap x t l2).get? (zsH4 s.heap x t l2).objs.size = some _ := Heap.get?_push_size _ rfl
  have g4 : (zsH5 s.heap x t l2).get? (zsH3 s.heap x t l2).objs.size = some _ := Heap.get?_push_of_some _ (Heap.get?_push_size _ rfl)
  have g3 : (zsH5 s.heap x t l2).get? (zsH2 s.heap x t l2).objs.size = some _ := Heap.get?_push_of_some _ (Heap.get?_push_of_some _ (Heap.get?_push_size _ rfl))
  have g2 : (zsH5 s.heap x t l2).get? (zsH1 s.heap x t).objs.size = some _ := Heap.get?_push_of_some _ (Heap.get?_push_of_some _ (Heap.get?_push_of_some _ (Heap.get?_push_size _ rfl)))
  have g1 : (zsH5 s.heap x t l2).get? s.heap.objs.size = some _ := Heap.get?_push_of_some _ (Heap.get?_push_of_some _ (Heap.get?_push_of_some _ (Heap.get?_push_of_some _ (Heap.get?_push_size _ rfl))))
  show _ ∧ _
  rw [z2, z3, z4] at g5
  rw [z1, z2] at g3
  rw [z3] at g4
  rw [z1] at g2
  rw [z4]
  exact ⟨⟨_, g5, rfl⟩, h _ g5 g3 g4 ⟨_, g1, rfl, rfl⟩ ⟨_, g2, rfl, rfl⟩ z5 fun c o x =>
    Heap.get?_push_of_some _ (Heap.get?_push_of_some _ (Heap.get?_push_of_some _ (Heap.get?_push_of_some _ (Heap.get?_push_of_some _ x))))⟩

variable {env : Env} {h₀ : Heap} {body : List Stmt}

noncomputable def zsItems : List Nat → List Value → List Itm
  | c :: cs, y :: ys => .pair (fun t => .str ⟨#[c]⟩ t) y :: zsItems cs ys
  | _, _ => []
theorem zsItems_length : ∀ (cs : List Nat) (ys : List Value), cs.length = ys.length → (zsItems cs ys).length = ys.length
  | [], [], _ => rfl
  | _ :: cs, _ :: ys, h => by simp only [zsItems, List.length_cons]; rw [zsItems_length cs ys (by simpa using h)]
theorem zsItems_get : ∀ (cs : List Nat) (ys : List Value) (i : Nat) {c : Nat} {y : Value}, cs[i]? = some c → ys[i]? = some y → (zsItems cs ys)[i]? = some (.pair (fun t => .str ⟨#[c]⟩ t) y)
  | [], _, _, _, _, h, _ => by simp at h
  | _ :: _, [], _, _, _, _, h => by simp at h
  | c' :: cs, y' :: ys, 0, c, y, h, h' => by
    have e : c' = c := by simpa using h
    have e' : y' = y := by simpa using h'
    subst e e'
    rfl
  | c' :: cs, y' :: ys, i + 1, c, y, h, h' => by
    have g := zsItems_get cs ys i (c := c) (y := y) (by simpa using h) (by simpa using h')
    simpa [zsItems] using g

theorem zs_apart (I l : Nat) (h : l < I) : ZApart (I + 4) (I + 2) (I + 3) I (I + 1) [I] [I + 1, l] := by
  constructor <;> first
    | (simp; done)
    | (intro e; simp only [List.mem_cons, List.not_mem_nil, or_false] at e; change (_ : Nat) = _ ∨ (_ : Nat) = _ at e; omega)
    | (intro e; simp only [List.mem_cons, List.not_mem_nil, or_false] at e; change (_ : Nat) = _ at e; omega)
    | (refine neN ?_; omega)

/-- zip of a text of ASCII signs and a tuple of as many items, walked by a for -/
theorem turns_zipST {Q : Flow → Shared → Prop} {elts : List Expr} {k : Nat} {pos : Pos} {x : Str} {t : Tok} {l : Addr} {lo : Obj} {ys : List Value} {n2 : Nat} {m₀ : Str → Option Value} {news : List (Addr × Obj)}
    (hh : A.handled = none) (ha : x.cps.all (· < 128) = true) (F : Fr h₀ env.locals s.heap m₀) (N : News h₀ env.locals s.heap news) (hm : (l, lo) ∈ news) (hc : lo.cls = .type "tuple") (hd : lo.data = .seq ys.toArray n2) (hlen : x.cps.size = ys.length)
    (rest₀ : ∀ I : Addr, (∀ p ∈ news, p.1 < I) → ItemsRest prog w A E h₀ env (.Tuple elts k pos) body Q s [(I + 4, "zip"), (I + 2, "tuple"), (I + 3, "tuple"), (I, "str_ascii_iterator"), (I + 1, "tuple_iterator")] [(l, lo)] (zsItems x.cps.toList ys) m₀ news) :
    wpAny (model prog w) A (call (.type "zip") [.str x t, .ref l]) (fun xv s₁ => wpAny (model prog w) A (pyIter xv) (fun it s₂ => TurnsAt prog w A h₀ env (.Tuple elts k pos) body Q E it s₂) E s₁) E s := by
  have hax := N _ hm
  have hl : s.heap.IsTuple l ys.toArray := ⟨lo, hax.1, hc, n2, hd⟩
  have hlt : l < s.heap.objs.size := Heap.lt_size hax.1
  have hLs : env.locals < s.heap.objs.size := F.ns.lt
  have D := zs_apart s.heap.objs.size l hlt
  refine call_zipST ha hl fun h' hz hTI hTO hi1 hi2 hsz hk => ?_
  refine wpAny_pyIter_zip hz ?_
  have D1 := Draws.strAscii (prog := prog) (w := w) (A := A.in1) hh s.heap.objs.size x t
  have D2 := draws_tuple (prog := prog) (w := w) (A := A.in1) hh (s.heap.objs.size + 1) l (ktu_ne 1 hlt) ys.toArray
  have hsz2 : ys.toArray.size = x.cps.size := by rw [hlen]; simp
  rw [hsz2] at D2
  refine ktu_core (tk0 := s.toks) (keep := [(l, lo)]) (KTurns.ofWalksU (walksZipD _ _ _ _ _ D D1 D2).toU) (by rw [zsItems_length _ _ (by simpa using hlen)]; exact hlen) ?_ ?_ ?_ ?_ ?_ ?_ ?_ ?_ (F.keeps hk) (N.grown hk) (And.intro hm trivial) (rest₀ _ fun p hp => Heap.lt_size (N p hp).1)
  · rintro i v h ⟨T, vals, rfl, ⟨a, b, ⟨c, u, hc', rfl⟩, hy, rfl⟩, hT⟩
    exact ⟨_, zsItems_get _ ys i (c := c) (y := b) (by simpa using hc') (by simpa using hy), T, u, rfl, hT⟩
  · rintro i h ⟨hz, hTI, ⟨a, b, hTO⟩, ⟨o1, ho1, hc1, _⟩, ⟨o2, ho2, hc2, _⟩, _⟩
    have e1 : ∃ o : Obj, h.get? (s.heap.objs.size + 4) = some o ∧ o.cls = .type "zip" := ⟨_, hz, rfl⟩
    have e2 : ∃ o : Obj, h.get? (s.heap.objs.size + 2) = some o ∧ o.cls = .type "tuple" := ⟨_, hTI, rfl⟩
    have e3 : ∃ o : Obj, h.get? (s.heap.objs.size + 3) = some o ∧ o.cls = .type "tuple" := ⟨_, hTO, rfl⟩
    obtain ⟨q1, g1, k1⟩ := e1
    obtain ⟨q2, g2, k2⟩ := e2
    obtain ⟨q3, g3, k3⟩ := e3
    refine ⟨[(s.heap.objs.size + 4, q1), (s.heap.objs.size + 2, q2), (s.heap.objs.size + 3, q3), (s.heap.objs.size, o1), (s.heap.objs.size + 1, o2)], ⟨⟨rfl, k1⟩, ⟨rfl, k2⟩, ⟨rfl, k3⟩, ⟨rfl, hc1⟩, ⟨rfl, hc2⟩, trivial⟩, fun p hp => ?_⟩
    rcases List.mem_cons.mp hp with rfl | hp
    · exact g1
    rcases List.mem_cons.mp hp with rfl | hp
    · exact g2
    rcases List.mem_cons.mp hp with rfl | hp
    · exact g3
    rcases List.mem_cons.mp hp with rfl | hp
    · exact ho1
    rw [List.mem_singleton.mp hp]
    exact ho2
  · intro b hb
    have hb' : b = s.heap.objs.size + 4 ∨ b = s.heap.objs.size + 2 ∨ b = s.heap.objs.size + 3 ∨ b = s.heap.objs.size ∨ b = s.heap.objs.size + 1 := by simpa using hb
    rcases hb' with rfl | rfl | rfl | rfl | rfl
    · exact ⟨by simp, ktu_new F (Nat.le_add_right _ _)⟩
    · exact ⟨by simp, ktu_new F (Nat.le_add_right _ _)⟩
    · exact ⟨by simp, ktu_new F (Nat.le_add_right _ _)⟩
    · exact ⟨by simp, ktu_new F (Nat.le_refl _)⟩
    · exact ⟨by simp, ktu_new F (Nat.le_add_right _ _)⟩
  · intro b hb
    have hb' : b = s.heap.objs.size + 4 ∨ b = s.heap.objs.size + 3 ∨ b = s.heap.objs.size ∨ b = s.heap.objs.size + 1 := by simpa using hb
    rcases hb' with rfl | rfl | rfl | rfl <;> simp
  · intro b hb
    have hb' : b = s.heap.objs.size + 4 ∨ b = s.heap.objs.size + 2 ∨ b = s.heap.objs.size + 3 ∨ b = s.heap.objs.size ∨ b = s.heap.objs.size + 1 ∨ b = l := by simpa using hb
    rcases hb' with rfl | rfl | rfl | rfl | rfl | rfl
    · exact .inl (by simp)
    · exact .inl (by simp)
    · exact .inl (by simp)
    · exact .inl (by simp)
    · exact .inl (by simp)
    · exact .inr ⟨lo, by simp⟩
  · intro hI'
    have hb' : env.locals = s.heap.objs.size + 4 ∨ env.locals = s.heap.objs.size + 2 ∨ env.locals = s.heap.objs.size + 3 ∨ env.locals = s.heap.objs.size ∨ env.locals = s.heap.objs.size + 1 ∨ env.locals = l := by simpa using hI'
    have n1 := hax.2.1
    rcases hb' with e | e | e | e | e | e
    · exact ktu_ne 4 hLs e
    · exact ktu_ne 2 hLs e
    · exact ktu_ne 3 hLs e
    · exact Nat.ne_of_lt hLs e
    · exact ktu_ne 1 hLs e
    · exact n1 e.symm
  · intro p hp hI'
    have hb' : p.1 = s.heap.objs.size + 4 ∨ p.1 = s.heap.objs.size + 3 ∨ p.1 = s.heap.objs.size ∨ p.1 = s.heap.objs.size + 1 := by simpa using hI'
    have hlp := Heap.lt_size (N p hp).1
    rcases hb' with e | e | e | e
    · exact ktu_ne 4 hlp e
    · exact ktu_ne 3 hlp e
    · exact Nat.ne_of_lt hlp e
    · exact ktu_ne 1 hlp e
  · exact ⟨hz, hTI, ⟨_, _, hTO⟩, hi1, hi2, hl.at fun o e => hk l o e⟩
end
end Mine

namespace Mine
section
variable {prog : Program} {w : World} {A : Around} {E : Value → Shared → Prop} {s : Shared} {R : Result → Shared → Prop}

theorem comp_loop {elt target iter ct : Expr} {scope : Scope} {pos : Pos} {it acc : Value} {env : Env} (I : Nat → Shared → Prop)
    (turn : ∀ n s, I n s → wpAny (model prog w) A (pyNext it) (fun r s₁ => match r with
      | none => R (.ok .next) s₁
      | some v => wpAny (model prog w) A (letOwnedTupleGo target it v) (fun _ s₀ => wpAny (model prog w) A (assign target env v) (fun _ s₂ =>
          wpAny (model prog w) A (isTrue ct env (eval ct env)) (fun ok s₃ =>
            if ok = true then wpAny (model prog w) A (eval elt env) (fun x s₄ =>
              wpAny (model prog w) A (call (.builtin "list.append") [acc, x]) (fun _ s₅ => ∃ m, m < n ∧ I m s₅) (notedBy (model prog w) A env fun e s' => R (.error e) s') s₄) (notedBy (model prog w) A env fun e s' => R (.error e) s') s₃
            else ∃ m, m < n ∧ I m s₃) (notedBy (model prog w) A env fun e s' => R (.error e) s') s₂) (notedBy (model prog w) A env fun e s' => R (.error e) s') s₀) (notedBy (model prog w) A env fun e s' => R (.error e) s') s₁) (notedBy (model prog w) A env fun e s' => R (.error e) s') s)
    (n : Nat) (h : I n s) :
    codeAny (model prog w) A (.compLoop (.ListComp elt [⟨target, iter, [ct], 0⟩] scope pos) 0 it acc env) R s := by
  refine codeAny_loop rfl I (fun n s hI => ?_) n h
  show wpAny _ A ((compTurn (.ListComp elt [⟨target, iter, [ct], 0⟩] scope pos) 0 it acc env).onRaise (fun x => do noteFrame x env; theTreesLotGoes x)) _ _ s
  refine wpAny_noted ?_
  rw [compTurn_list]
  refine wpAny_bind (wpAny_standAt (wpAny_bind (wpAny_mono (turn n s hI) (fun r s₁ h₁ => ?_) fun _ _ h' => h')))
  cases r with
  | none => exact wpAny_pure h₁
  | some v =>
    refine wpAny_bind (wpAny_mono h₁ (fun _ s₀ h₀' => ?_) fun _ _ h' => h')
    refine wpAny_bind (wpAny_mono h₀' (fun _ s₂ h₂ => wpAny_bind (wpAny_tests_one (wpAny_mono h₂ (fun ok s₃ h₃ => ?_) fun _ _ h' => h'))) fun _ _ h' => h')
    cases ok with
    | false => exact wpAny_pure ⟨rfl, h₃⟩
    | true =>
      exact wpAny_bind (wpAny_bind (wpAny_mono h₃ (fun x s₄ h₄ => wpAny_bind (wpAny_mono h₄ (fun _ s₅ h₅ => wpAny_pure (wpAny_pure ⟨rfl, h₅⟩)) fun _ _ h' => h')) fun _ _ h' => h'))
end

section
variable {prog : Program} {w : World} {A : Around} {E : Value → Shared → Prop} {s : Shared} {h₀ : Heap} {L : Addr} {m : Str → Option Value} {env : Env}

noncomputable def Kp (h h' : Heap) : Prop := ∀ b o, h.get? b = some o → h'.get? b = some o
theorem Kp.refl (h : Heap) : Kp h h := fun _ _ e => e
theorem Kp.trans {a b c : Heap} (x : Kp a b) (y : Kp b c) : Kp a c := fun q o e => y q o (x q o e)

/-- what a turn of a block with one test does -/
noncomputable def CompTurn (prog : Program) (w : World) (A : Around) (h₀ : Heap) (L : Addr) (m : Str → Option Value) (env : Env) (ct elt : Expr) (scope : Scope) (cl : List (Str × Addr)) (s : Shared) (news : List (Addr × Obj)) (B : Nat → (Str → Option Value) → Prop) (G : Nat → List Value → Prop) (n : Nat) : Prop :=
  ∀ i ys C oC m₂ h tk (E' : Value → Shared → Prop), i < n → B i m₂ → G i ys → NsObj oC m₂ → Fr h₀ L h m → News h₀ L h ((C, oC) :: news) →
    wpAny (model prog w) A (isTrue ct (compEnvC scope cl C env) (eval ct (compEnvC scope cl C env))) (fun ok s' => ∃ h' tk', s' = { s with heap := h', toks := tk' } ∧ Kp h h' ∧ (ok = false → G (i + 1) ys) ∧
      (ok = true → wpAny (model prog w) A (eval elt (compEnvC scope cl C env)) (fun y s'' => ∃ h'' tk'', s'' = { s with heap := h'', toks := tk'' } ∧ Kp h' h'' ∧ G (i + 1) (ys ++ [y])) E' s')) E' { s with heap := h, toks := tk }

/-- how the target is bound in the block's own names -/
noncomputable def CompBinds (prog : Program) (w : World) (A : Around) (target : Expr) (env : Env) (scope : Scope) (cl : List (Str × Addr)) (P : Nat → Value → Heap → Prop) (B : Nat → (Str → Option Value) → Prop) : Prop :=
  ∀ i v C m₁ (s : Shared) (Q : Unit → Shared → Prop) (E : Value → Shared → Prop), P i v s.heap → s.heap.Ns C m₁ →
    (∀ h' tk m', h'.Ns C m' → B i m' → (∀ b o, b ≠ C → s.heap.get? b = some o → h'.get? b = some o) → Q () { s with heap := h', toks := tk }) →
    wpAny (model prog w) A (assign target (compEnvC scope cl C env) v) Q E s

theorem comp_block {ct elt iter target : Expr} {scope : Scope} {cl : List (Str × Addr)} {pos : Pos} {s₂ : Shared} {I : Addr} {fp wr : List Addr} {n : Nat} {P Md : Nat → Value → Heap → Prop} {St : Nat → Heap → Prop} {news : List (Addr × Obj)}
    {B : Nat → (Str → Option Value) → Prop} {G : Nat → List Value → Prop} {RR : Value → Addr → Result → Shared → Prop}
    (W : KTurns prog w A target I fp wr n P Md St) (hself : ∀ (s : Shared) (Q : Value → Shared → Prop) (E : Value → Shared → Prop), St 0 s.heap → Q (.ref I) s → wpAny (model prog w) A (pyIter (.ref I)) Q E s)
    (hsz : n ≤ sizeLine) (hcell : ∀ y ∈ scope.names, y.2 ≠ .cell) (hkind : scope.kind = .function) (hst : St 0 s₂.heap) (hfp : ∀ b ∈ fp, b < s₂.heap.objs.size)
    (F : Fr h₀ L s₂.heap m) (N : News h₀ L s₂.heap news) (hIL : L ∉ wr) (hI₀ : ∀ b ∈ wr, h₀.get? b = none) (off : ∀ p ∈ news, p.1 ∉ wr)
    (hb : CompBinds prog w A target env scope cl P B) (h0 : G 0 []) (turn : CompTurn prog w A h₀ L m env ct elt scope cl s₂ news B G n)
    (hRR : ∀ D C h tk m' ys, Fr h₀ L h m → News h₀ L h ((D, lst ys) :: news) → (∀ p ∈ news, p.1 < D) → h.Ns C m' → h₀.get? C = none → h₀.get? D = none → C ≠ L → D ≠ L → C ≠ D → (∀ p ∈ news, p.1 ≠ C) → G n ys → RR (.ref D) C (.ok .next) { s₂ with heap := h, toks := tk }) :
    wpAny (model prog w) A (newList []) (fun acc s₃ => wpAny (model prog w) A (newFunctionEnv scope env.globals cl [] env.qual none .none (some env)) (fun cenv s₄ =>
      codeAny (model prog w) A (.compStart (.ListComp elt [⟨target, iter, [ct], 0⟩] scope pos) 0 (.ref I) acc { cenv with scope := relabel scope env }) (RR acc cenv.locals) s₄) E s₃) E s₂ := by
  refine wpAny_newObj_type (wpAny_newFunctionEnv hcell (by intro y hy; simp at hy) (fun h₁ hns₁ hsb₁ => ?_) hkind)
  dsimp only at hns₁ hsb₁ ⊢
  generalize hH2 : s₂.heap.push { cls := .type "list", dict := none, data := .seq ([] : List Value).toArray } = H2 at hns₁ hsb₁ ⊢
  have hC : H2.objs.size = s₂.heap.objs.size + 1 := by rw [← hH2, Heap.size_push]
  have hDC : s₂.heap.objs.size ≠ H2.objs.size := by rw [hC]; exact Nat.ne_of_lt (Nat.lt_succ_self _)
  have below : ∀ b, b < s₂.heap.objs.size → b ≠ H2.objs.size ∧ b ≠ s₂.heap.objs.size := fun b hb => ⟨by rw [hC]; exact Nat.ne_of_lt (Nat.lt_succ_of_lt hb), Nat.ne_of_lt hb⟩
  have hDf : s₂.heap.objs.size ∉ fp := fun hm => Nat.lt_irrefl _ (hfp _ hm)
  have hCf : H2.objs.size ∉ fp := fun hm => by have := hfp _ hm; rw [hC] at this; exact Nat.lt_irrefl _ (Nat.lt_of_succ_lt this)
  have hDw : s₂.heap.objs.size ∉ wr := fun hm => hDf (W.sub _ hm)
  have hCw : H2.objs.size ∉ wr := fun hm => hCf (W.sub _ hm)
  have old : ∀ b o, s₂.heap.get? b = some o → h₁.get? b = some o := fun b o e => hsb₁.extBut b o (below b (Heap.lt_size e)).1 (Heap.get?_push_of_some _ (hH2 ▸ Heap.get?_push_of_some _ e))
  have hacc : h₁.get? s₂.heap.objs.size = some (lst []) := hsb₁.extBut _ _ hDC (Heap.get?_push_of_some _ (hH2 ▸ Heap.get?_push_size _ rfl))
  have hst₁ : St 0 h₁ := W.frame _ _ _ hst fun b _ o e => old b o e
  have fresh : ∀ a, s₂.heap.objs.size ≤ a → s₂.heap.get? a = none := fun a ha => by
    cases e : s₂.heap.get? a with
    | none => rfl
    | some o' => exact absurd (Heap.lt_size e) (Nat.not_lt.mpr ha)
  have fresh₀ : ∀ a, s₂.heap.objs.size ≤ a → h₀.get? a = none := fun a ha => by
    cases e : h₀.get? a with
    | none => rfl
    | some o' => have := F.keep a o' e; rw [fresh a ha] at this; cases this
  have hD₀ : h₀.get? s₂.heap.objs.size = none := fresh₀ _ (Nat.le_refl _)
  have hC₀ : h₀.get? H2.objs.size = none := fresh₀ _ (by rw [hC]; exact Nat.le_succ _)
  have hLlt : L < s₂.heap.objs.size := F.ns.lt
  have hDL : s₂.heap.objs.size ≠ L := Ne.symm (below L hLlt).2
  have hCL : H2.objs.size ≠ L := Ne.symm (below L hLlt).1
  have offC : ∀ p ∈ news, p.1 ≠ H2.objs.size := fun p hp => (below _ (Heap.lt_size (N p hp).1)).1
  have offD : ∀ p ∈ news, p.1 ≠ s₂.heap.objs.size := fun p hp => (below _ (Heap.lt_size (N p hp).1)).2
  have old₀ : ∀ b o, h₀.get? b = some o → b ∉ wr := fun b o e hb => by rw [hI₀ b hb] at e; cases e
  have frw : ∀ {h h' : Heap}, Fr h₀ L h m → (∀ b o, b ∉ wr → h.get? b = some o → h'.get? b = some o) → Fr h₀ L h' m := fun F' hk =>
    ⟨F'.ns.at' fun o e => hk L o hIL e, fun b o e => hk b o (old₀ b o e) (F'.keep b o e), F'.above⟩
  have frc : ∀ {h h' : Heap}, Fr h₀ L h m → (∀ b o, b ≠ H2.objs.size → h.get? b = some o → h'.get? b = some o) → Fr h₀ L h' m := fun F' hk =>
    ⟨F'.ns.at' fun o e => hk L o (Ne.symm hCL) e, fun b o e => hk b o (fun q => by rw [q, hC₀] at e; cases e) (F'.keep b o e), F'.above⟩
  have loop : ∀ s₃ : Shared, s₃ = { s₂ with heap := h₁, toks := s₂.toks + ([] : List (Str × Value)).length } →
      codeAny (model prog w) A (.compLoop (.ListComp elt [⟨target, iter, [ct], 0⟩] scope pos) 0 (.ref I) (.ref s₂.heap.objs.size) (compEnvC scope cl H2.objs.size env))
        (RR (.ref s₂.heap.objs.size) H2.objs.size) s₃ := by
    rintro s₃ rfl
    refine comp_loop
      (fun k s' => ∃ h' tk i ys m', s' = { s₂ with heap := h', toks := tk } ∧ i ≤ n ∧ k = n + 1 - i ∧ ys.length ≤ i ∧ St i h' ∧ Fr h₀ L h' m ∧ h'.Ns H2.objs.size m' ∧ News h₀ L h' ((s₂.heap.objs.size, lst ys) :: news) ∧ G i ys) ?_ (n + 1)
      ⟨h₁, _, 0, [], _, rfl, Nat.zero_le _, rfl, Nat.le_refl _, hst₁, F.keeps old, hns₁, fun p hp => ?_, h0⟩
    · rintro k s' ⟨h', tk, i, ys, m', rfl, hi, rfl, hyl, hst', F', hn', N', hG⟩
      by_cases hlt : i < n
      · refine W.item i _ _ _ hlt hst' fun v h₂ tk₂ hMd hk₂ => ?_
        refine W.go i v _ _ _ hMd fun h₃ hPv hst₃ hk₃ => ?_
        have hk : ∀ b o, b ∉ wr → h'.get? b = some o → h₃.get? b = some o := fun b o hb e => hk₃ b o hb (hk₂ b o hb e)
        have hn₃ : h₃.Ns H2.objs.size m' := hn'.at' fun o e => hk _ o hCw e
        refine hb i v H2.objs.size m' _ _ _ hPv hn₃ fun h₄ tk₄ m₄ hn₄ hB hk₄ => ?_
        have hst₄ : St (i + 1) h₄ := W.frame _ _ _ hst₃ fun b hb o e => hk₄ b o (fun q => hCf (q ▸ hb)) e
        obtain ⟨oC, heC, hoC⟩ := ns_obj hn₄
        have F₄ : Fr h₀ L h₄ m := frc (frw F' hk) hk₄
        have N₄ : News h₀ L h₄ ((s₂.heap.objs.size, lst ys) :: news) := fun p hp => by
          refine ⟨?_, (N' p hp).2⟩
          rcases List.mem_cons.mp hp with rfl | hp'
          · exact hk₄ _ _ hDC (hk _ _ hDw (N' _ hp).1)
          · exact hk₄ _ _ (offC p hp') (hk _ _ (off p hp') (N' p hp).1)
        have N₄C : News h₀ L h₄ ((H2.objs.size, oC) :: news) := fun p hp => by
          rcases List.mem_cons.mp hp with rfl | hp'
          · exact ⟨heC, hCL, hC₀⟩
          · exact N₄ p (List.mem_cons_of_mem _ hp')
        refine wpAny_mono (turn i ys H2.objs.size oC m₄ h₄ tk₄ _ hlt hB hG hoC F₄ N₄C) (fun ok s₅ h₅ => ?_) fun _ _ e => e
        obtain ⟨h₅, tk₅, rfl, k₅, hno, hyes⟩ := h₅
        cases ok with
        | true =>
          simp only [if_true]
          refine wpAny_mono (hyes rfl) (fun y s₆ h₆ => ?_) fun _ _ e => e
          obtain ⟨h₆, tk₆, rfl, k₆, hG'⟩ := h₆
          have kk : Kp h₄ h₆ := k₅.trans k₆
          have zD : h₆.get? s₂.heap.objs.size = some (lst ys) := kk _ _ (N₄ _ (.head _)).1
          refine append_at (hsz := by show ys.toArray.size ≤ sizeLine; rw [List.size_toArray]; exact Nat.le_trans (Nat.le_trans hyl hi) hsz) zD fun h₇ hs₇ hD₇ => ?_
          refine ⟨n + 1 - (i + 1), by omega, h₇, tk₆, i + 1, ys ++ [y], m₄, rfl, hlt, rfl, by rw [List.length_append, List.length_singleton]; exact Nat.succ_le_succ hyl,
            W.frame _ _ _ (W.frame _ _ _ hst₄ fun b _ o e => kk b o e) fun b hb o e => hs₇.extBut b o (fun q => hDf (q ▸ hb)) e, (F₄.keeps kk).change hs₇ hDL hD₀,
            (hn₄.at' fun o e => kk _ o e).sameBut hs₇ (Ne.symm hDC), fun p hp => ?_, hG'⟩
          rcases List.mem_cons.mp hp with rfl | hp'
          · exact ⟨hD₇.trans (congrArg some (lst_snoc ys y)), hDL, hD₀⟩
          · exact ⟨hs₇.extBut _ _ (offD p hp') (kk _ _ (N₄ p (List.mem_cons_of_mem _ hp')).1), (N₄ p (List.mem_cons_of_mem _ hp')).2⟩
        | false =>
          simp only [Bool.false_eq_true, if_false]
          refine ⟨n + 1 - (i + 1), by omega, h₅, tk₅, i + 1, ys, m₄, rfl, hlt, rfl, Nat.le_succ_of_le hyl,
            W.frame _ _ _ hst₄ fun b _ o e => k₅ b o e, F₄.keeps k₅, hn₄.at' fun o e => k₅ _ o e, fun p hp => ⟨k₅ _ _ (N₄ p hp).1, (N₄ p hp).2⟩, hno rfl⟩
      · obtain rfl : i = n := Nat.le_antisymm hi (Nat.not_lt.mp hlt)
        refine W.done _ _ _ hst' fun h₂ tk₂ hk₂ => ?_
        refine hRR _ _ h₂ tk₂ _ ys (frw F' hk₂) (fun p hp => ⟨?_, (N' p hp).2⟩) (fun p hp => Heap.lt_size (N p hp).1) (hn'.at' fun o e => hk₂ _ o hCw e) hC₀ hD₀ hCL hDL (Ne.symm hDC) offC hG
        rcases List.mem_cons.mp hp with rfl | hp'
        · exact hk₂ _ _ hDw (N' _ hp).1
        · exact hk₂ _ _ (off p hp') (N' p hp).1
    · rcases List.mem_cons.mp hp with rfl | hp
      · exact ⟨hacc, hDL, hD₀⟩
      · exact ⟨old _ _ (N p hp).1, (N p hp).2⟩
  exact codeAny_compStart_list (loop _ rfl) (hself _ _ _ hst₁ (loop _ rfl))

/-- the source of a block with one test, at the value that its first clause is walked over -/
noncomputable def CompFrom (prog : Program) (w : World) (A : Around) (h₀ : Heap) (L : Addr) (m : Str → Option Value) (env : Env) (ct elt target : Expr) (scope : Scope) (cl : List (Str × Addr)) (Q : Value → Shared → Prop) (it : Value) (s₂ : Shared) : Prop :=
  ∃ (I : Addr) (fp wr : List Addr) (n : Nat) (P Md : Nat → Value → Heap → Prop) (St : Nat → Heap → Prop) (news : List (Addr × Obj)) (B : Nat → (Str → Option Value) → Prop) (G : Nat → List Value → Prop),
    it = .ref I ∧ KTurns prog w A target I fp wr n P Md St ∧ (∀ (s : Shared) (Q : Value → Shared → Prop) (E : Value → Shared → Prop), St 0 s.heap → Q (.ref I) s → wpAny (model prog w) A (pyIter (.ref I)) Q E s) ∧
    n ≤ sizeLine ∧ St 0 s₂.heap ∧ (∀ b ∈ fp, b < s₂.heap.objs.size) ∧ Fr h₀ L s₂.heap m ∧ News h₀ L s₂.heap news ∧ L ∉ wr ∧ (∀ b ∈ wr, h₀.get? b = none) ∧ (∀ p ∈ news, p.1 ∉ wr) ∧
    CompBinds prog w A target env scope cl P B ∧ G 0 [] ∧ CompTurn prog w A h₀ L m env ct elt scope cl s₂ news B G n ∧
    ∀ D h tk ys, Fr h₀ L h m → News h₀ L h ((D, lst ys) :: news) → (∀ p ∈ news, p.1 < D) → G n ys → Q (.ref D) { s₂ with heap := h, toks := tk }

theorem ListComp_Q {ct elt iter target : Expr} {scope : Scope} {cl : List (Str × Addr)} {pos : Pos} {Q : Value → Shared → Prop} (F₀ : Fr h₀ L s.heap m)
    (hclos : closureFor scope env = pure cl) (hcell : ∀ y ∈ scope.names, y.2 ≠ .cell) (hkind : scope.kind = .function)
    (hnames : ∀ y ∈ scope.names, y.2 = .local → scope.names.lookup y.1 = some .local)
    (h : wpAny (model prog w) A (eval iter env) (fun xv s₁ => wpAny (model prog w) A (pyIter xv) (CompFrom prog w A h₀ L m env ct elt target scope cl Q) E s₁) E s)
    (hs : ∀ x, foldedSetIterable iter env x = pure x := by intro _; rfl) :
    wpAny (model prog w) A (eval (.ListComp elt [⟨target, iter, [ct], 0⟩] scope pos) env) Q E s := by
  rw [eval_ListComp]
  refine wpAny_comprehension_free (use := none) rfl hs hclos hkind hnames (wpAny_mono h (fun xv s₁ h₁ => wpAny_mono h₁ (fun it s₂ h₂ => ?_) fun _ _ e => e) fun _ _ e => e)
  obtain ⟨I, fp, wr, n, P, Md, St, news, B, G, rfl, W, hself, hsz, hst, hfp, F, N, hL, hI₀, off, hb, h0, turn, fin⟩ := h₂
  refine comp_block W hself hsz hcell hkind hst hfp F N hL hI₀ off hb h0 turn ?_
  intro D C h tk m' ys F' N' lt hn hC₀ hD₀ hCL hDL hCD offC hG
  refine ⟨m', hn, fun h'' hs'' => fin D h'' tk ys (F'.change hs'' hCL hC₀) (fun p hp => ?_) lt hG⟩
  refine ⟨hs''.extBut _ _ ?_ (N' p hp).1, (N' p hp).2⟩
  rcases List.mem_cons.mp hp with rfl | hp
  · exact Ne.symm hCD
  · exact offC p hp
end
end Mine

namespace Mine
section
variable {prog : Program} {w : World} {A : Around} {E : Value → Shared → Prop} {s : Shared} {h₀ : Heap} {L : Addr} {m : Str → Option Value} {env : Env}

theorem binds_pair {xa xb : Str} {pa pb tp : Pos} {kk : Nat} {scope : Scope} {cl : List (Str × Addr)} {PP : Nat → Value → Value → Prop} (hh : A.handled = none)
    (ha : scope.names.lookup xa = some .local) (hb : scope.names.lookup xb = some .local) (hk : scope.kind = .function) (hne : xa ≠ xb) :
    CompBinds prog w A (.Tuple [.Name xa pa, .Name xb pb] kk tp) env scope cl (fun i v h => ∃ T a b, v = .ref T ∧ h.IsTuple T #[a, b] ∧ PP i a b) (fun i m' => ∃ a b, PP i a b ∧ m' xa = some a ∧ m' xb = some b) := by
  rintro i v C m₁ s Q E ⟨T, a, b, rfl, hT, hP⟩ hn h
  refine kcp_assign hh hT (lookup_relabel_local ha) (lookup_relabel_local hb) (by simp [compEnvC, relabel, hk]) hn fun h' tk hn' hk' => ?_
  exact h h' tk _ hn' ⟨a, b, hP, by simp [hne], by simp⟩ hk'

theorem binds_name {x : Str} {px : Pos} {scope : Scope} {cl : List (Str × Addr)} {PP : Nat → Value → Prop}
    (hx : scope.names.lookup x = some .local) (hk : scope.kind = .function) :
    CompBinds prog w A (.Name x px) env scope cl (fun i v _ => PP i v) (fun i m' => ∃ a, PP i a ∧ m' x = some a) := by
  rintro i v C m₁ s Q E hP hn h
  refine wpAny_assign_Name (wpAny_storeName_local (lookup_relabel_local hx) hn (fun h₂ hn₂ hs₂ => ?_) (by simp [compEnvC, relabel, hk]))
  exact h h₂ _ _ hn₂ ⟨v, hP, by simp⟩ fun b o hb e => hs₂.extBut b o hb e

theorem from_zipST {ct elt : Expr} {scope : Scope} {cl : List (Str × Addr)} {Q : Value → Shared → Prop} {xa xb : Str} {pa pb tp : Pos} {kk : Nat} {x : Str} {t : Tok} {l : Addr} {lo : Obj} {ys : List Value} {n2 : Nat} {news : List (Addr × Obj)} (G : Nat → List Value → Prop)
    (hh : A.handled = none) (ha : x.cps.all (· < 128) = true) (F : Fr h₀ L s.heap m) (N : News h₀ L s.heap news) (hm : (l, lo) ∈ news) (hc : lo.cls = .type "tuple") (hd : lo.data = .seq ys.toArray n2) (hlen : x.cps.size = ys.length) (hsz : ys.length ≤ sizeLine)
    (la : scope.names.lookup xa = some .local) (lb : scope.names.lookup xb = some .local) (hk : scope.kind = .function) (hne : xa ≠ xb) (h0 : G 0 [])
    (turn : ∀ g, CompTurn prog w A h₀ L m env ct elt scope cl { s with heap := g } news (fun i m' => ∃ c u y, x.cps[i]? = some c ∧ ys[i]? = some y ∧ m' xa = some (.str ⟨#[c]⟩ u) ∧ m' xb = some y) G ys.length)
    (fin : ∀ D h tk zs, Fr h₀ L h m → News h₀ L h ((D, lst zs) :: news) → (∀ p ∈ news, p.1 < D) → G ys.length zs → Q (.ref D) { s with heap := h, toks := tk }) :
    wpAny (model prog w) A (call (.type "zip") [.str x t, .ref l]) (fun xv s₁ => wpAny (model prog w) A (pyIter xv) (CompFrom prog w A h₀ L m env ct elt (.Tuple [.Name xa pa, .Name xb pb] kk tp) scope cl Q) E s₁) E s := by
  have hax := N _ hm
  have hl : s.heap.IsTuple l ys.toArray := ⟨lo, hax.1, hc, n2, hd⟩
  have hlt : l < s.heap.objs.size := Heap.lt_size hax.1
  have hLs : L < s.heap.objs.size := F.ns.lt
  have D := zs_apart s.heap.objs.size l hlt
  refine call_zipST ha hl fun h' hz hTI hTO hi1 hi2 hsz' hk' => ?_
  refine wpAny_pyIter_zip hz ?_
  have D1 := Draws.strAscii (prog := prog) (w := w) (A := A.in1) hh s.heap.objs.size x t
  have D2 := draws_tuple (prog := prog) (w := w) (A := A.in1) hh (s.heap.objs.size + 1) l (ktu_ne 1 hlt) ys.toArray
  have hsz2 : ys.toArray.size = x.cps.size := by rw [hlen]; simp
  rw [hsz2] at D2
  have W := KTurns.ofWalksU (elts := [.Name xa pa, .Name xb pb]) (k := kk) (pos := tp) (walksZipD _ _ _ _ _ D D1 D2).toU
  refine ⟨_, _, _, _, _, _, _, news, fun i m' => ∃ c u y, x.cps[i]? = some c ∧ ys[i]? = some y ∧ m' xa = some (.str ⟨#[c]⟩ u) ∧ m' xb = some y, G, rfl, W, fun s Q E st q => wpAny_pyIter_zip st.1 q, by rw [hlen]; exact hsz,
    ⟨hz, hTI, ⟨_, _, hTO⟩, hi1, hi2, hl.at fun o e => hk' l o e⟩, ?_, F.keeps hk', N.grown hk', ?_, ?_, ?_, ?_, h0, by rw [hlen]; exact turn h', ?_⟩
  · intro b hb
    have hb' : b = s.heap.objs.size + 4 ∨ b = s.heap.objs.size + 2 ∨ b = s.heap.objs.size + 3 ∨ b = s.heap.objs.size ∨ b = s.heap.objs.size + 1 ∨ b = l := by simpa using hb
    rw [hsz']
    rcases hb' with rfl | rfl | rfl | rfl | rfl | rfl
    · exact Nat.add_lt_add_left (by decide) _
    · exact Nat.add_lt_add_left (by decide) _
    · exact Nat.add_lt_add_left (by decide) _
    · exact Nat.lt_add_of_pos_right (by decide)
    · exact Nat.add_lt_add_left (by decide) _
    · exact Nat.lt_of_lt_of_le hlt (Nat.le_add_right _ _)
  · intro hI'
    have hb' : L = s.heap.objs.size + 4 ∨ L = s.heap.objs.size + 3 ∨ L = s.heap.objs.size ∨ L = s.heap.objs.size + 1 := by simpa using hI'
    rcases hb' with e | e | e | e
    · exact ktu_ne 4 hLs e
    · exact ktu_ne 3 hLs e
    · exact Nat.ne_of_lt hLs e
    · exact ktu_ne 1 hLs e
  · intro b hb
    have hb' : b = s.heap.objs.size + 4 ∨ b = s.heap.objs.size + 3 ∨ b = s.heap.objs.size ∨ b = s.heap.objs.size + 1 := by simpa using hb
    rcases hb' with rfl | rfl | rfl | rfl
    · exact ktu_new F (Nat.le_add_right _ _)
    · exact ktu_new F (Nat.le_add_right _ _)
    · exact ktu_new F (Nat.le_refl _)
    · exact ktu_new F (Nat.le_add_right _ _)
  · intro p hp hI'
    have hb' : p.1 = s.heap.objs.size + 4 ∨ p.1 = s.heap.objs.size + 3 ∨ p.1 = s.heap.objs.size ∨ p.1 = s.heap.objs.size + 1 := by simpa using hI'
    have hlp := Heap.lt_size (N p hp).1
    rcases hb' with e | e | e | e
    · exact ktu_ne 4 hlp e
    · exact ktu_ne 3 hlp e
    · exact Nat.ne_of_lt hlp e
    · exact ktu_ne 1 hlp e
  · intro i v C m₁ s' Q' E' hP hn h
    obtain ⟨T, vals, rfl, ⟨a, b, ⟨c, u, hc', rfl⟩, hy, rfl⟩, hT⟩ := hP
    refine binds_pair (cl := cl) (PP := fun i a b => ∃ c u, a = .str ⟨#[c]⟩ u ∧ x.cps[i]? = some c ∧ ys[i]? = some b) hh la lb hk hne i _ C m₁ s' Q' E' ⟨T, _, b, rfl, hT, c, u, rfl, hc', by simpa using hy⟩ hn ?_
    rintro h'' tk m' hn' ⟨a', b', ⟨c', u', rfl, hc'', hy'⟩, e1, e2⟩ hk''
    exact h h'' tk m' hn' ⟨c', u', b', hc'', hy', e1, e2⟩ hk''
  · intro D' h'' tk zs F' N' lt hG
    exact fin D' h'' tk zs F' N' lt (by rw [hlen] at hG; exact hG)

/-- a block over a list or a tuple of the ledger, by one name -/
theorem from_list {ct elt : Expr} {scope : Scope} {cl : List (Str × Addr)} {Q : Value → Shared → Prop} {x : Str} {px : Pos} {l : Addr} {lo : Obj} {ys : List Value} {n2 : Nat} {news : List (Addr × Obj)} (G : Nat → List Value → Prop)
    (hh : A.handled = none) (F : Fr h₀ L s.heap m) (N : News h₀ L s.heap news) (hm : (l, lo) ∈ news) (hc : lo.cls = .type "list") (hd : lo.data = .seq ys.toArray n2) (hsz : ys.length ≤ sizeLine)
    (lx : scope.names.lookup x = some .local) (hk : scope.kind = .function) (h0 : G 0 [])
    (turn : ∀ g, CompTurn prog w A h₀ L m env ct elt scope cl { s with heap := g } news (fun i m' => ∃ y, ys[i]? = some y ∧ m' x = some y) G ys.length)
    (fin : ∀ D h tk zs, Fr h₀ L h m → News h₀ L h ((D, lst zs) :: news) → (∀ p ∈ news, p.1 < D) → G ys.length zs → Q (.ref D) { s with heap := h, toks := tk }) :
    wpAny (model prog w) A (pyIter (.ref l)) (CompFrom prog w A h₀ L m env ct elt (.Name x px) scope cl Q) E s := by
  have hax := N _ hm
  have hl : s.heap.IsList l ys.toArray := ⟨lo, hax.1, hc, n2, hd⟩
  have hlt : l < s.heap.objs.size := Heap.lt_size hax.1
  have hne : l ≠ s.heap.objs.size := Nat.ne_of_lt hlt
  refine wpAny_pyIter_list hl ?_
  have W := KTurns.ofWalks (target := .Name x px) (Walks.list (prog := prog) (w := w) (A := A) hh s.heap.objs.size l hne ys.toArray) fun i v s Q E st q => letGo_listiter st.1 q
  refine ⟨_, _, _, _, _, _, _, news, fun i m' => ∃ y, ys[i]? = some y ∧ m' x = some y, G, rfl, W, fun s Q E st q => wpAny_pyIter_listiter st.1 q, by simpa using hsz,
    ⟨⟨_, Heap.get?_push_size _ rfl, rfl, rfl⟩, hl.at fun o e => Heap.get?_push_of_some _ e⟩, ?_, F.push _, (fun p hp => ⟨Heap.get?_push_of_some _ (N p hp).1, (N p hp).2⟩), ?_, ?_, ?_, ?_, h0, by simpa using turn _, ?_⟩
  · intro b hb
    show b < (s.heap.push _).objs.size
    rw [Heap.size_push]
    rcases List.mem_cons.mp hb with rfl | hb
    · exact Nat.lt_succ_self _
    · rw [List.mem_singleton.mp hb]; exact Nat.lt_succ_of_lt hlt
  · intro hI; exact absurd F.ns.lt ((List.mem_singleton.mp hI) ▸ Nat.lt_irrefl _)
  · intro b hb; rw [List.mem_singleton.mp hb]; exact next_is_new F
  · intro p hp hI; exact absurd (Heap.lt_size (N p hp).1) ((List.mem_singleton.mp hI) ▸ Nat.lt_irrefl _)
  · intro i v C m₁ s' Q' E' hP hn h
    refine binds_name (cl := cl) (PP := fun i v => ys[i]? = some v) lx hk i v C m₁ s' Q' E' (by simpa using hP) hn ?_
    rintro h'' tk m' hn' ⟨a, ha, e⟩ hk''
    exact h h'' tk m' hn' ⟨a, ha, e⟩ hk''
  · intro D' h'' tk zs F' N' lt hG
    exact fin D' h'' tk zs F' N' lt (by simpa using hG)

theorem from_tup {ct elt : Expr} {scope : Scope} {cl : List (Str × Addr)} {Q : Value → Shared → Prop} {x : Str} {px : Pos} {l : Addr} {lo : Obj} {ys : List Value} {n2 : Nat} {news : List (Addr × Obj)} (G : Nat → List Value → Prop)
    (hh : A.handled = none) (F : Fr h₀ L s.heap m) (N : News h₀ L s.heap news) (hm : (l, lo) ∈ news) (hc : lo.cls = .type "tuple") (hd : lo.data = .seq ys.toArray n2) (hsz : ys.length ≤ sizeLine)
    (lx : scope.names.lookup x = some .local) (hk : scope.kind = .function) (h0 : G 0 [])
    (turn : ∀ g, CompTurn prog w A h₀ L m env ct elt scope cl { s with heap := g } news (fun i m' => ∃ y, ys[i]? = some y ∧ m' x = some y) G ys.length)
    (fin : ∀ D h tk zs, Fr h₀ L h m → News h₀ L h ((D, lst zs) :: news) → (∀ p ∈ news, p.1 < D) → G ys.length zs → Q (.ref D) { s with heap := h, toks := tk }) :
    wpAny (model prog w) A (pyIter (.ref l)) (CompFrom prog w A h₀ L m env ct elt (.Name x px) scope cl Q) E s := by
  have hax := N _ hm
  have hl : s.heap.IsTuple l ys.toArray := ⟨lo, hax.1, hc, n2, hd⟩
  have hlt : l < s.heap.objs.size := Heap.lt_size hax.1
  have hne : l ≠ s.heap.objs.size := Nat.ne_of_lt hlt
  refine wpAny_pyIter_tuple hl ?_
  have W := KTurns.ofWalks (target := .Name x px) (Walks.tuple (prog := prog) (w := w) (A := A) hh s.heap.objs.size l hne ys.toArray) fun i v s Q E st q => letGo_tupleiter st.1 q
  refine ⟨_, _, _, _, _, _, _, news, fun i m' => ∃ y, ys[i]? = some y ∧ m' x = some y, G, rfl, W, fun s Q E st q => (Walks.tuple (prog := prog) (w := w) (A := A) hh _ l hne ys.toArray).self 0 s Q E st q, by simpa using hsz,
    ⟨⟨_, Heap.get?_push_size _ rfl, rfl, rfl⟩, hl.at fun o e => Heap.get?_push_of_some _ e⟩, ?_, F.push _, (fun p hp => ⟨Heap.get?_push_of_some _ (N p hp).1, (N p hp).2⟩), ?_, ?_, ?_, ?_, h0, by simpa using turn _, ?_⟩
  · intro b hb
    show b < (s.heap.push _).objs.size
    rw [Heap.size_push]
    rcases List.mem_cons.mp hb with rfl | hb
    · exact Nat.lt_succ_self _
    · rw [List.mem_singleton.mp hb]; exact Nat.lt_succ_of_lt hlt
  · intro hI; exact absurd F.ns.lt ((List.mem_singleton.mp hI) ▸ Nat.lt_irrefl _)
  · intro b hb; rw [List.mem_singleton.mp hb]; exact next_is_new F
  · intro p hp hI; exact absurd (Heap.lt_size (N p hp).1) ((List.mem_singleton.mp hI) ▸ Nat.lt_irrefl _)
  · intro i v C m₁ s' Q' E' hP hn h
    refine binds_name (cl := cl) (PP := fun i v => ys[i]? = some v) lx hk i v C m₁ s' Q' E' (by simpa using hP) hn ?_
    rintro h'' tk m' hn' ⟨a, ha, e⟩ hk''
    exact h h'' tk m' hn' ⟨a, ha, e⟩ hk''
  · intro D' h'' tk zs F' N' lt hG
    exact fin D' h'' tk zs F' N' lt (by simpa using hG)
end
end Mine

namespace Mine
noncomputable abbrev Led := List (Addr × Obj)
noncomputable abbrev tupN (vs : List Value) (n : Nat) : Obj := { cls := .type "tuple", data := .seq vs.toArray n }
noncomputable def Ord (news tl : Led) : Prop := ∀ q ∈ news, ∀ p ∈ tl, q.1 < p.1
noncomputable def Off (d : Addr) (l : Led) : Prop := ∀ p ∈ l, p.1 ≠ d
theorem Ord.nil {n : Led} : Ord n [] := fun _ _ _ hp => nomatch hp
theorem Ord.cons {n tl : Led} {d : Addr} {o : Obj} (h : AllLt d n) (k : Ord n tl) : Ord n ((d, o) :: tl) := fun q hq p hp => by
  rcases List.mem_cons.mp hp with rfl | hp
  · exact tb_ltOf h q hq
  · exact k q hq p hp
theorem Ord.append {n a b : Led} (x : Ord n a) (y : Ord n b) : Ord n (a ++ b) := fun q hq p hp => by
  rcases List.mem_append.mp hp with hp | hp
  · exact x q hq p hp
  · exact y q hq p hp
theorem Ord.sub {n n' a : Led} (x : Ord n a) (h : ∀ q ∈ n', q ∈ n) : Ord n' a := fun q hq p hp => x q (h q hq) p hp
theorem Ord.off {n a : Led} {d : Addr} {o : Obj} (x : Ord n a) (h : (d, o) ∈ n) : Off d a := fun p hp e => by
  have := x _ h p hp
  rw [e] at this; exact Nat.lt_irrefl _ this
theorem Off.append {d : Addr} {a b : Led} (x : Off d a) (y : Off d b) : Off d (a ++ b) := fun p hp => by
  rcases List.mem_append.mp hp with hp | hp
  · exact x p hp
  · exact y p hp
theorem off_lt {d : Addr} {l : Led} (h : AllLt d l) : Off d l := fun p hp e => by
  have := tb_ltOf h p hp
  rw [e] at this; exact Nat.lt_irrefl _ this

inductive Row where
  | goto (g : Nat)
  | jif (r g : Nat)
  | const (d : Nat) (b : Bool)
  | move (d s : Nat)
  | ret (s : Nat)
deriving DecidableEq

inductive RowIn (N : Led) : Value → Row → Prop
  | goto {a : Addr} {g n : Nat} {t1 t2 : Tok} : (a, tupN [.str (Str.ofString "goto") t1, .int (g : Int) t2] n) ∈ N → RowIn N (.ref a) (.goto g)
  | jif {a : Addr} {r g n : Nat} {t1 t2 t3 : Tok} : (a, tupN [.str (Str.ofString "unless") t1, .int (r : Int) t2, .int (g : Int) t3] n) ∈ N → RowIn N (.ref a) (.jif r g)
  | const {a c : Addr} {d n n' : Nat} {b : Bool} {t1 t2 t3 : Tok} : (a, tupN [.str (Str.ofString "const") t1, .int (d : Int) t2, .ref c] n) ∈ N → (c, tupN [.str (Str.ofString "bool") t3, .bool b] n') ∈ N → RowIn N (.ref a) (.const d b)
  | move {a : Addr} {d s n : Nat} {t1 t2 t3 : Tok} : (a, tupN [.str (Str.ofString "move") t1, .int (d : Int) t2, .int (s : Int) t3] n) ∈ N → RowIn N (.ref a) (.move d s)
  | ret {a : Addr} {s n : Nat} {t1 t2 : Tok} : (a, tupN [.str (Str.ofString "return") t1, .int (s : Int) t2] n) ∈ N → RowIn N (.ref a) (.ret s)
theorem RowIn.mono {N N' : Led} {v : Value} {r : Row} (h : RowIn N v r) (s : ∀ p ∈ N, p ∈ N') : RowIn N' v r := by
  cases h with
  | goto h => exact .goto (s _ h)
  | jif h => exact .jif (s _ h)
  | const h k => exact .const (s _ h) (s _ k)
  | move h => exact .move (s _ h)
  | ret h => exact .ret (s _ h)
theorem RowIn.isRef {N : Led} {v : Value} {r : Row} (h : RowIn N v r) : ∃ a, v = .ref a := by cases h <;> exact ⟨_, rfl⟩
inductive RowsIn (N : Led) : List Value → List Row → Prop
  | nil : RowsIn N [] []
  | cons {v : Value} {vs : List Value} {r : Row} {rs : List Row} : RowIn N v r → RowsIn N vs rs → RowsIn N (v :: vs) (r :: rs)
theorem RowsIn.mono {N N' : Led} {vs : List Value} {rs : List Row} (h : RowsIn N vs rs) (s : ∀ p ∈ N, p ∈ N') : RowsIn N' vs rs := by
  induction h with
  | nil => exact .nil
  | cons a _ ih => exact .cons (a.mono s) ih
theorem RowsIn.length {N : Led} {vs : List Value} {rs : List Row} (h : RowsIn N vs rs) : vs.length = rs.length := by
  induction h with
  | nil => rfl
  | cons _ _ ih => simp [ih]
theorem RowsIn.get {N : Led} {vs : List Value} {rs : List Row} (h : RowsIn N vs rs) : ∀ {i : Nat} {r : Row}, rs[i]? = some r → ∃ v, vs[i]? = some v ∧ RowIn N v r := by
  induction h with
  | nil => intro i r e; simp at e
  | @cons v vs r₀ rs a b ih =>
    intro i r e
    cases i with
    | zero => exact ⟨v, by simp, by have : r₀ = r := by simpa using e
                                    exact this ▸ a⟩
    | succ i => obtain ⟨v', h1, h2⟩ := ih (i := i) (r := r) (by simpa using e); exact ⟨v', by simpa using h1, h2⟩
theorem RowsIn.snoc {N : Led} {vs : List Value} {rs : List Row} (h : RowsIn N vs rs) {v : Value} {r : Row} (k : RowIn N v r) : RowsIn N (vs ++ [v]) (rs ++ [r]) := by
  induction h with
  | nil => exact .cons k .nil
  | cons a _ ih => exact .cons a ih

/-- what is known of a call of a def of the text, from whatever frame it is made -/
noncomputable def Ct (w : World) (f : Addr) (args : List Value) (fz : Led) (dn un : Nat) (Post : Led → Value → Prop) : Prop :=
  ∀ (dp u : Nat) (gd : Option (List Code)) (cn : Str) (cs : Scope) (ca : Addr) (ccd : Value) (cl : List (Str × Addr)) (outer : List Env) (A₀ : Around) (base h₀ : Heap) (L : Addr) (m : Str → Option Value) (news : Led) (s : Shared)
    (p : Program) (loose : List Str) (mean : ExcName → Option Value) (mg mb : Str → Option Value) (Q E : Value → Shared → Prop),
    Below A₀ base outer h₀ → Fr h₀ L s.heap m → (Mine.hp.hd.heap_39 w.params).In h₀ → News h₀ L s.heap news → Top p loose mean mg mb h₀ → cs.kind = .function → (∀ q ∈ fz, q ∈ news) → dp + dn < recursionLimit → u + un < cLine →
    (∀ r tl h' tk', Fr h₀ L h' m → News h₀ L h' (tl ++ news) → Ord news tl → Post tl r → Q r { s with heap := h', toks := tk' }) →
    wpAny (model PySem.Challenge.rw_xm0679_01.prog w) (ktrTop dp u gd cn cs L ca ccd cl outer) (call (.ref f) args) Q E s

section
variable {w : World} {f : Addr} {args : List Value} {fz : Led} {dn un : Nat} {Post : Led → Value → Prop}
  {dp u : Nat} {gd : Option (List Code)} {cn : Str} {cs : Scope} {ca : Addr} {ccd : Value} {cl : List (Str × Addr)} {outer : List Env} {A₀ : Around} {base h₀ : Heap} {L : Addr} {m : Str → Option Value} {news : Led} {s : Shared}
  {p : Program} {loose : List Str} {mean : ExcName → Option Value} {mg mb : Str → Option Value} {Q E : Value → Shared → Prop}
theorem ct_use0 (C : Ct w f args fz dn un Post) (B : Below A₀ base outer h₀) (F : Fr h₀ L s.heap m) (X : (Mine.hp.hd.heap_39 w.params).In h₀) (N : News h₀ L s.heap news) (T : Top p loose mean mg mb h₀) (hk : cs.kind = .function) (hs : ∀ q ∈ fz, q ∈ news)
    (hd : dp + dn < recursionLimit) (hu : u + un < cLine)
    (ret : ∀ r tl h' tk', Fr h₀ L h' m → News h₀ L h' (tl ++ news) → Ord news tl → Post tl r → Q r { s with heap := h', toks := tk' }) :
    wpAny (model PySem.Challenge.rw_xm0679_01.prog w) (ktrTop dp u gd cn cs L ca ccd cl outer) (call (.ref f) args) Q E s :=
  C _ _ _ _ _ _ _ _ _ _ _ _ _ _ _ _ _ _ _ _ _ _ _ B F X N T hk hs hd hu ret
theorem ct_use1 {x : Addr × Obj} (C : Ct w f args fz dn un Post) (B : Below A₀ base outer h₀) (F : Fr h₀ L s.heap m) (X : (Mine.hp.hd.heap_39 w.params).In h₀) (N : News h₀ L s.heap (x :: news)) (T : Top p loose mean mg mb h₀) (hk : cs.kind = .function) (hs : ∀ q ∈ fz, q ∈ news)
    (hd : dp + dn < recursionLimit) (hu : u + un < cLine)
    (ret : ∀ r tl h' tk', Fr h₀ L h' m → News h₀ L h' (x :: (tl ++ news)) → Ord (x :: news) tl → Post tl r → Q r { s with heap := h', toks := tk' }) :
    wpAny (model PySem.Challenge.rw_xm0679_01.prog w) (ktrTop dp u gd cn cs L ca ccd cl outer) (call (.ref f) args) Q E s :=
  ct_use0 C B F X N T hk (fun q hq => .tail _ (hs q hq)) hd hu fun r tl h' tk' F' N' o P => ret r tl h' tk' F' (fun q hq => N' q (by simp only [List.mem_cons, List.mem_append] at hq ⊢; rcases hq with h | h | h <;> simp [h])) o P
theorem ct_use2 {x y : Addr × Obj} (C : Ct w f args fz dn un Post) (B : Below A₀ base outer h₀) (F : Fr h₀ L s.heap m) (X : (Mine.hp.hd.heap_39 w.params).In h₀) (N : News h₀ L s.heap (x :: y :: news)) (T : Top p loose mean mg mb h₀) (hk : cs.kind = .function) (hs : ∀ q ∈ fz, q ∈ news)
    (hd : dp + dn < recursionLimit) (hu : u + un < cLine)
    (ret : ∀ r tl h' tk', Fr h₀ L h' m → News h₀ L h' (x :: y :: (tl ++ news)) → Ord (x :: y :: news) tl → Post tl r → Q r { s with heap := h', toks := tk' }) :
    wpAny (model PySem.Challenge.rw_xm0679_01.prog w) (ktrTop dp u gd cn cs L ca ccd cl outer) (call (.ref f) args) Q E s :=
  ct_use0 C B F X N T hk (fun q hq => .tail _ (.tail _ (hs q hq))) hd hu fun r tl h' tk' F' N' o P => ret r tl h' tk' F' (fun q hq => N' q (by simp only [List.mem_cons, List.mem_append] at hq ⊢; rcases hq with h | h | h | h <;> simp [h])) o P
end
end Mine
namespace Mine
section
variable {prog : Program} {w : World} {A : Around} {E : Value → Shared → Prop} {s : Shared} {h₀ : Heap} {L : Addr} {m : Str → Option Value} {news : List (Addr × Obj)}
/-- a tuple of the ledger, from its a-th item on -/
theorem tup_from {value slice : PySem.Expr} {t : Addr} {vs zs : List Value} {n : Nat} {a : Nat} {u : Tok} {Q : Value → Shared → Prop}
    (F : Fr h₀ L s.heap m) (N : News h₀ L s.heap news) (hm : (t, tupN vs n) ∈ news) (h1 : 1 ≤ a) (ha : a ≤ vs.length) (e : vs.drop a = zs)
    (h : ∀ D h', Fr h₀ L h' m → News h₀ L h' ((D, tupN zs 0) :: news) → (∀ p ∈ news, p.1 < D) → Q (.ref D) { s with heap := h' })
    (hs : subscripted slice false (.ref t) (.ref s.heap.objs.size) = operate [.ref s.heap.objs.size, .ref t] (getItem (.ref t) (.ref s.heap.objs.size)))
    (ht : ∀ r, letTemporaryGo value (.ref t) r = pure ()) (hsz : vs.length ≤ sizeLine) :
    wpAny (model prog w) A (subscriptTail value slice (.ref t) (.ref s.heap.objs.size)) Q E { s with heap := s.heap.push { cls := .type "slice", data := .fields #[.int (a : Int) u, .none, .none] } } := by
  subst e
  refine slice_tuple_from F N ⟨_, (N _ hm).1, rfl, n, rfl⟩ h1 (by simpa using ha) (fun h' F' N' => h _ h' F' (by simpa using N') fun p hp => Nat.lt_succ_of_lt (Heap.lt_size (N p hp).1)) hs ht (by simpa using hsz)
end
end Mine
namespace Mine
theorem news_sub {h₀ h : Heap} {L : Addr} {a b : Led} (N : News h₀ L h a) (s : ∀ q ∈ b, q ∈ a) : News h₀ L h b := fun q hq => N q (s q hq)
theorem ord_one {D : Addr} {o : Obj} {led news : Led} (l1 : ∀ p ∈ led, p.1 < D) (s : ∀ q ∈ news, q ∈ led) : Ord news [(D, o)] := fun q hq p hp => by
  rw [List.mem_singleton.mp hp]
  exact l1 q (s q hq)
theorem ret_head {h₀ h : Heap} {L D : Addr} {o : Obj} {led news : Led} (N : News h₀ L h ((D, o) :: led)) (l1 : ∀ p ∈ led, p.1 < D) (s : ∀ q ∈ news, q ∈ led) : News h₀ L h ([(D, o)] ++ news) ∧ Ord news [(D, o)] :=
  ⟨news_sub N fun q hq => by
    rcases List.mem_cons.mp hq with rfl | hq
    · exact .head _
    · exact .tail _ (s q hq), ord_one l1 s⟩
theorem allLt_succ {d : Nat} : ∀ {l : Led}, AllLt d l → AllLt (d + 1) l
  | [], _ => trivial
  | _ :: _, h => ⟨Nat.lt_succ_of_lt h.1, allLt_succ h.2⟩
noncomputable def AllGe (d : Addr) : Led → Prop
  | [] => True
  | p :: r => @LE.le Nat _ d p.1 ∧ AllGe d r
theorem allGe_at {d : Addr} : ∀ {l : Led}, AllGe d l → ∀ p ∈ l, @LE.le Nat _ d p.1
  | [], _, _, hp => nomatch hp
  | q :: r, h, p, hp => by
    rcases List.mem_cons.mp hp with rfl | hp
    · exact h.1
    · exact allGe_at h.2 p hp
theorem unrEnd_intro {h₀ : Heap} {L I : Addr} {its : Led} {rest : (Str → Option Value) → Led → Prop} {s₁ : Shared} {h' : Heap} {tk : Nat} {m' : Str → Option Value} {news' : Led} (F : Fr h₀ L h' m') (N : News h₀ L h' (its ++ news'))
    (lt : AllLt I news') (ge : AllGe I its) (r : rest m' news') : UnrEndW h₀ L s₁ its rest { s₁ with heap := h', toks := tk } :=
  ⟨h', tk, m', news', rfl, F, N, fun p hp q hq e => by
    have h1 : (p.1 : Nat) < I := tb_ltOf lt p hp
    have h2 : (I : Nat) ≤ q.1 := allGe_at ge q hq
    rw [← e] at h2
    exact absurd h1 (Nat.not_lt.mpr h2), r⟩
end Mine

namespace Mine
noncomputable def Stop (P : Prop) : Prop := P
theorem stop_out {P : Prop} (h : P) : Stop P := h
theorem stop_in {P : Prop} (h : Stop P) : P := h
theorem room0 {d D R : Nat} (h : d + D < R) : d < R := Nat.lt_of_le_of_lt (Nat.le_add_right d D) h
theorem room1 {d a D R : Nat} (h : d + D < R) (k : Nat.ble a D = true) : d + a < R := Nat.lt_of_le_of_lt (Nat.add_le_add_left (Nat.le_of_ble_eq_true k) d) h
theorem room2 {d a b D R : Nat} (h : d + D < R) (k : Nat.ble (a + b) D = true) : d + a + b < R := by rw [Nat.add_assoc]; exact room1 h k
theorem gen_tk {α : Type} {M : Model} {A : Around} {t : Sem α} {Q : α → Shared → Prop} {E : Value → Shared → Prop} {h : Heap} {g : Array GenState} {d : _} {k : Tok} {o : OsState} (x : ∀ k', wpAny M A t Q E ⟨h, g, d, k', o⟩) : wpAny M A t Q E ⟨h, g, d, k, o⟩ := x k
theorem lst_app {a b c : Led} (h : ∀ q ∈ a, q ∈ c) (k : ∀ q ∈ b, q ∈ c) : ∀ q ∈ a ++ b, q ∈ c := List.forall_mem_append.mpr ⟨h, k⟩
theorem lst_cons {x : Addr × Obj} {b c : Led} (h : x ∈ c) (k : ∀ q ∈ b, q ∈ c) : ∀ q ∈ x :: b, q ∈ c := List.forall_mem_cons.mpr ⟨h, k⟩
theorem lst_nil {c : Led} : ∀ q ∈ ([] : Led), q ∈ c := List.forall_mem_nil _
theorem sub_at {a b : Led} {q : Addr × Obj} (hq : q ∈ a) (s : ∀ q ∈ a, q ∈ b) : q ∈ b := s q hq
end Mine
-- MACROS
local macro_rules | `(tactic| walk_at "sideC") => `(tactic| ((case k1 | k2 | k3 | k4 | k5 => k_asm); (case k6 => first | exact rfl | assumption); (case k7 => first | assumption | (intro q hq; k_mem)); (case k8 => ktr_room); (case k9 => ktr_units)))
local macro_rules | `(tactic| walk_at "t3") => `(tactic| (intro h' F' N'; (try dsimp only at N'); (try k_sweep)))
local macro_rules | `(tactic| walk_at "t5") => `(tactic| (intro D' h' F' N' l1; (try k_lt l1)))
local macro_rules | `(tactic| walk_at "call ref") => `(tactic| (k_here; refine stop_in ?_))
local macro_rules | `(tactic| k_mem) => `(tactic| first | assumption | exact kd_use (by assumption) (by assumption) | (refine' List.mem_append_left _ ?_; assumption) | (refine' List.mem_append_right _ ?_; k_mem))
local macro_rules | `(tactic| walk_at "lt") => `(tactic| with_reducible (first | assumption | exact allLt_of (by assumption) | exact And.right (by assumption) | exact And.right (And.right (by assumption)) | exact And.right (And.right (And.right (by assumption))) | exact And.right (And.right (And.right (And.right (by assumption)))) | exact And.right (And.right (And.right (And.right (And.right (by assumption))))) | exact And.right (And.right (And.right (And.right (And.right (And.right (by assumption)))))) | exact And.right (And.right (And.right (And.right (And.right (And.right (And.right (by assumption))))))) | (refine allLt_succ ?_; walk_at "lt")))
local macro_rules | `(tactic| walk_at "ord") => `(tactic| first | exact Ord.nil | (refine Ord.cons ?_ ?_; (walk_at "lt"); walk_at "ord"))
local macro_rules | `(tactic| walk_at "ge") => `(tactic| first | exact trivial | (refine ⟨by first | exact Nat.le_refl _ | exact Nat.le_add_right _ _, ?_⟩; walk_at "ge"))
local macro_rules | `(tactic| walk_at "UnrEndW") => `(tactic| (refine unrEnd_intro (by k_asm) (by k_asm) (by first | assumption | exact allLt_of (by assumption)) (by walk_at "ge") ⟨⟨by k_mem, trivial⟩, ?_⟩))
local macro_rules | `(tactic| walk_at "subscriptTail Name Slice ref ref") => `(tactic| (k_here; (with_reducible show wpAny _ _ (subscriptTail _ (PySem.Expr.Slice _ none none _) (Value.ref _) (Value.ref _)) _ _ _); k_dflt (refine' tup_from (a := 1) ?F ?N ?l ?p ?q ?e ?_ ?s ?t ?z; (case F | N => k_asm); (case l => k_mem); (case p => decide); (case q => exact Nat.le_of_ble_eq_true rfl); (case e => exact rfl); (case s => with_unfolding_all rfl); (case t => intro _; with_unfolding_all rfl); (case z => exact Nat.le_of_ble_eq_true rfl)); walk_at "t5"))
local macro_rules | `(tactic| walk_at "execs cons") => `(tactic| (k_fold; walk_at "execs cons"))
local macro_rules | `(tactic| walk_at "memS") => `(tactic| first | with_reducible assumption | with_reducible exact List.mem_cons_self | (refine' kd_use ?a ?b; (case a | b => with_reducible assumption)) | ((with_reducible refine List.mem_append_left _ ?_); walk_at "memS") | ((with_reducible refine List.mem_append_right _ ?_); walk_at "memS") | ((with_reducible refine List.mem_cons_of_mem _ ?_); walk_at "memS"))
local macro_rules | `(tactic| walk_at "sub") => `(tactic| first | exact fun q hq => hq | with_reducible assumption | ((with_reducible refine lst_app ?_ ?_) <;> walk_at "sub") | ((with_reducible refine lst_cons ?_ ?_); (walk_at "memS"); walk_at "sub") | exact lst_nil | (intro q9 hq9; walk_at "memS"))
set_option hygiene false in
local macro_rules | `(tactic| ktr_room) => `(tactic| first | exact room0 hd | exact room2 hd rfl | exact room1 hd rfl)
set_option hygiene false in
local macro_rules | `(tactic| ktr_units) => `(tactic| first | exact room2 hu rfl | exact room1 hu rfl | exact room0 hu)
-- END
namespace Mine
end Mine

namespace Mine
noncomputable def shapeS : Row → Str
  | .goto _ => Str.ofString "g"
  | .jif _ _ => Str.ofString "sg"
  | .const _ _ => Str.ofString "dx"
  | .move _ _ => Str.ofString "ds"
  | .ret _ => Str.ofString "s"


theorem shape_ct (w : World) (fz : Led) (v : Value) (r : Row) (hr : RowIn fz v r) : Ct w 89 [v] fz 1 16 (fun tl x => tl = [] ∧ ∃ t, x = .str (shapeS r) t) := by
  intro dp un gd cn cs ca ccd cl outer A₀ base h₀ L m news s p loose mean mg mb Q E B F X N T hk hsub hd hu ret
  obtain ⟨av, rfl⟩ := hr.isRef
  refine wpAny_call ?_
  k_dflt ktr_enter
  (try (refine gen_tk ?_; intro tk0))
  (try (rename Fr _ _ _ _ => F0; have F1 : Fr _ _ _ (fun y => List.lookup y [(Str.ofString "row", .ref av)]) := F0; clear F0))
  k_steps
  cases hr
  all_goals (
    k_steps
    exact ret _ [] _ _ (by k_asm) (by k_asm) Ord.nil ⟨rfl, _, rfl⟩)
end Mine
-- MACROS
-- END
namespace Mine
end Mine

namespace Mine

noncomputable def collG : List Nat → List Value → List Value
  | c :: cs, y :: ys => if c = 103 then y :: collG cs ys else collG cs ys
  | _, _ => []
theorem collG_succ : ∀ (cs : List Nat) (ys : List Value) (i : Nat) {c : Nat} {y : Value}, cs[i]? = some c → ys[i]? = some y →
    collG (cs.take (i + 1)) (ys.take (i + 1)) = collG (cs.take i) (ys.take i) ++ (if c = 103 then [y] else [])
  | [], _, _, _, _, h, _ => by simp at h
  | _ :: _, [], _, _, _, _, h => by simp at h
  | c' :: cs, y' :: ys, 0, c, y, h, h' => by
    have e : c' = c := by simpa using h
    have e' : y' = y := by simpa using h'
    subst e e'
    simp [collG]
  | c' :: cs, y' :: ys, i + 1, c, y, h, h' => by
    have ih := collG_succ cs ys i (c := c) (y := y) (by simpa using h) (by simpa using h')
    simp only [List.take_succ_cons, collG]
    rw [ih]
    by_cases q : c' = 103 <;> simp [q]




section
variable {prog : Program} {w : World} {A : Around} {E : Value → Shared → Prop} {s : Shared} {h₀ : Heap} {L : Addr} {m : Str → Option Value} {env : Env}
theorem g_turn {scope : Scope} {cl : List (Str × Addr)} {xa xb : Str} {p1 p2 p3 p4 : Pos} {k : Nat} {x : Str} {ys : List Value} {news : Led} {s₀ : Shared}
    (hk : scope.kind = .function) (la : scope.names.lookup xa = some .local) (lb : scope.names.lookup xb = some .local) (da : (xa == ("__debug__" : Str)) = false) (db : (xb == ("__debug__" : Str)) = false) :
    CompTurn prog w A h₀ L m env (.Compare (.Name xa p1) [.Eq] [.Constant (.str (Str.ofString "g")) k p2] p3) (.Name xb p4) scope cl s₀ news
      (fun i m' => ∃ c u y, x.cps[i]? = some c ∧ ys[i]? = some y ∧ m' xa = some (.str ⟨#[c]⟩ u) ∧ m' xb = some y) (fun i zs => zs = collG (x.cps.toList.take i) (ys.take i)) ys.length := by
  rintro i zs C oC m₂ h tk E' hi ⟨c, u, y, hc, hy, e1, e2⟩ rfl hC F N
  have hn : h.Ns C m₂ := hC.ns (N _ (.head _)).1
  refine wpAny_isTrue_Compare1 (ldVarK (by exact hn) e1 (wpAny_Constant_str (eq_str (wpAny_truthy_bool ⟨h, _, rfl, Kp.refl _, ?_, ?_⟩))) (by exact hk) (lookup_relabel_local la) da)
  · intro hb
    show _ = collG _ _
    rw [collG_succ _ _ i (c := c) (y := y) (by simpa using hc) hy]
    have : c ≠ 103 := fun q => by subst q; revert hb; decide +kernel
    simp [this]
  · intro hb
    refine ldVarK (by exact hn) e2 ⟨h, _, rfl, Kp.refl _, ?_⟩ (by exact hk) (lookup_relabel_local lb) db
    show _ = collG _ _
    rw [collG_succ _ _ i (c := c) (y := y) (by simpa using hc) hy]
    have : c = 103 := by
      have q : (⟨#[c]⟩ : Str) = Str.ofString "g" := by simpa using hb
      have q2 : (#[c] : Array Nat) = (Str.ofString "g").cps := congrArg Str.cps q
      have q3 : (Str.ofString "g").cps = #[103] := by decide +kernel
      rw [q3] at q2
      simpa using q2
    simp [this]

theorem from_zipST_goals {cs : List Nat} {scope : Scope} {cl : List (Str × Addr)} {Q : Value → Shared → Prop} {xa xb : Str} {pa pb tp p1 p2 p3 p4 : Pos} {kk k : Nat} {x : Str} {t : Tok} {l : Addr} {lo : Obj} {ys : List Value} {n2 : Nat} {news : Led}
    (hh : A.handled = none) (ha : x.cps.all (· < 128) = true) (F : Fr h₀ L s.heap m) (N : News h₀ L s.heap news) (hm : (l, lo) ∈ news) (hc : lo.cls = .type "tuple") (hd : lo.data = .seq ys.toArray n2) (hlen : x.cps.size = ys.length) (hsz : ys.length ≤ sizeLine)
    (la : scope.names.lookup xa = some .local) (lb : scope.names.lookup xb = some .local) (hk : scope.kind = .function) (hne : xa ≠ xb) (da : (xa == ("__debug__" : Str)) = false) (db : (xb == ("__debug__" : Str)) = false)
    (hcs : x.cps.toList = cs) (fin : ∀ D h tk, Fr h₀ L h m → News h₀ L h ((D, listOf (collG cs ys).toArray (collG cs ys).length) :: news) → (∀ p ∈ news, p.1 < D) → Q (.ref D) { s with heap := h, toks := tk }) :
    wpAny (model prog w) A (call (.type "zip") [.str x t, .ref l]) (fun xv s₁ => wpAny (model prog w) A (pyIter xv) (CompFrom prog w A h₀ L m env (.Compare (.Name xa p1) [.Eq] [.Constant (.str (Str.ofString "g")) k p2] p3) (.Name xb p4) (.Tuple [.Name xa pa, .Name xb pb] kk tp) scope cl Q) E s₁) E s := by
  subst hcs
  refine from_zipST (fun i zs => zs = collG (x.cps.toList.take i) (ys.take i)) hh ha F N hm hc hd hlen hsz la lb hk hne rfl (fun g => g_turn hk la lb da db) ?_
  intro D h tk zs F' N' lt e
  have e' : zs = collG x.cps.toList ys := by
    rw [e, List.take_length, List.take_of_length_le]
    simpa using Nat.le_of_eq hlen
  subst e'
  exact fin D h tk F' N' lt
end

noncomputable def goals : Row → List Nat
  | .goto g => [g]
  | .jif _ g => [g]
  | _ => []
end Mine
-- MACROS
local macro_rules | `(tactic| walk_at "eval ListComp") => `(tactic| (k_here; k_dflt (refine' ListComp_Q ?c0 ?c1 ?c2 ?c3 ?c4 ?_; (case c0 => k_asm); (case c1 => exact rfl); (case c2 => decide); (case c3 => exact rfl); (case c4 => decide))))
local macro_rules | `(tactic| walk_at "call type:zip") => `(tactic| (k_here; k_dflt (refine' from_zipST_goals ?a1 ?a2 ?a3 ?a4 ?a5 ?a6 ?a7 ?a8 ?a9 ?b1 ?b2 ?b3 ?b4 ?b5 ?b6 ?b7 ?_; (case b7 => with_unfolding_all exact rfl); (case a1 => exact rfl); (case a2 => decide +kernel); (case a3 | a4 => k_asm); (case a5 => exact List.Mem.head _); (case a6 | a7 | a8 => exact rfl); (case a9 => exact Nat.le_of_ble_eq_true rfl); (case b1 | b2 | b3 => exact rfl); (case b4 | b5 | b6 => decide)); intro D' h' tk' F' N' l1; (try k_lt l1)))
-- END
namespace Mine
/-- a list of ints, written out as values -/
inductive IntsV : List Value → List Nat → Prop
  | nil : IntsV [] []
  | cons {n : Nat} {t : Tok} {vs : List Value} {ns : List Nat} : IntsV vs ns → IntsV (.int (n : Int) t :: vs) (n :: ns)


theorem goals_ct (w : World) (fz : Led) (v : Value) (r : Row) (hr : RowIn fz v r) : Ct w 101 [v] fz 2 64 (fun tl x => ∃ l vs n tl', x = .ref l ∧ tl = (l, listOf vs.toArray n) :: tl' ∧ IntsV vs (goals r)) := by
  intro dp un gd cn cs ca ccd cl outer A₀ base h₀ L m news s p loose mean mg mb Q E B F X N T hk hsub hd hu ret
  have hr' := hr
  obtain ⟨av, rfl⟩ := hr.isRef
  refine wpAny_call ?_
  k_dflt ktr_enter
  (try (refine gen_tk ?_; intro tk0))
  (try (rename Fr _ _ _ _ => F0; have F1 : Fr _ _ _ (fun y => List.lookup y [(Str.ofString "row", .ref av)]) := F0; clear F0))
  k_steps
  repeat' ((refine stop_out ?_; (with_reducible show wpAny _ _ (call (Value.ref 89) [_]) _ _ _); k_dflt (refine' ct_use0 (shape_ct _ _ _ _ ?c0) ?k1 ?k2 ?k3 ?k4 ?k5 ?k6 ?k7 ?k8 ?k9 ?_; (case c0 => assumption); walk_at "sideC"); intro r' tl' h' tk' F' N' o' P'; obtain ⟨e9, t9, e8⟩ := P'; subst e9; subst e8; clear o'; (try dsimp only [List.nil_append] at N'); (try dsimp only [shapeS])); k_steps)
  cases hr
  all_goals (k_steps; repeat' ((refine stop_out ?_; (with_reducible show wpAny _ _ (call (Value.ref 89) [_]) _ _ _); k_dflt (refine' ct_use0 (shape_ct _ _ _ _ ?c0) ?k1 ?k2 ?k3 ?k4 ?k5 ?k6 ?k7 ?k8 ?k9 ?_; (case c0 => assumption); walk_at "sideC"); intro r' tl' h' tk' F' N' o' P'; obtain ⟨e9, t9, e8⟩ := P'; subst e9; subst e8; clear o'; (try dsimp only [List.nil_append] at N'); (try dsimp only [shapeS])); k_steps))
  all_goals (refine ret _ [_, _] _ _ (by k_asm) (by k_asm) (by walk_at "ord") ⟨_, _, _, _, rfl, rfl, ?_⟩)
  · exact .cons .nil
  · exact .cons .nil
  · exact .nil
  · exact .nil
  · exact .nil
end Mine

namespace Mine
section
variable {prog : Program} {w : World} {A : Around} {E : Value → Shared → Prop} {s : Shared} {h₀ : Heap} {env : Env} {body : List Stmt}
theorem turns_zipST' {cs : List Nat} {Q : Flow → Shared → Prop} {elts : List PySem.Expr} {k : Nat} {pos : Pos} {x : Str} {t : Tok} {l : Addr} {lo : Obj} {ys : List Value} {n2 : Nat} {m₀ : Str → Option Value} {news : List (Addr × Obj)} {its : List Itm}
    (hh : A.handled = none) (ha : x.cps.all (· < 128) = true) (F : Fr h₀ env.locals s.heap m₀) (N : News h₀ env.locals s.heap news) (hm : (l, lo) ∈ news) (hc : lo.cls = .type "tuple") (hd : lo.data = .seq ys.toArray n2) (hcs : x.cps.toList = cs) (hlen : cs.length = ys.length) (hi : zsItems cs ys = its)
    (rest₀ : ∀ I : Addr, (∀ p ∈ news, p.1 < I) → ItemsRest prog w A E h₀ env (.Tuple elts k pos) body Q s [(I + 4, "zip"), (I + 2, "tuple"), (I + 3, "tuple"), (I, "str_ascii_iterator"), (I + 1, "tuple_iterator")] [(l, lo)] its m₀ news) :
    wpAny (model prog w) A (call (.type "zip") [.str x t, .ref l]) (fun xv s₁ => wpAny (model prog w) A (pyIter xv) (fun it s₂ => TurnsAt prog w A h₀ env (.Tuple elts k pos) body Q E it s₂) E s₁) E s := by
  subst hi; subst hcs
  exact turns_zipST hh ha F N hm hc hd (by simpa using hlen) rest₀
end


end Mine
-- MACROS
local macro_rules | `(tactic| walk_at "exec For Tuple Call cons nil") => `(tactic| (k_here; (rename Fr _ _ _ _ => lF'); (with_unfolding_all refine' For_turns lF' ?_)))
local macro_rules | `(tactic| walk_at "call type:zip") => `(tactic| (k_here; k_dflt (refine' turns_zipST' ?a1 ?a2 ?a3 ?a4 ?a5 ?a6 ?a7 ?a8 ?a9 ?b1 ?_; (case a1 => exact rfl); (case a2 => decide +kernel); (case a3 | a4 => k_asm); (case a5 => exact List.Mem.head _); (case a6 | a7 => exact rfl); (case a8 => with_unfolding_all exact rfl); (case a9 | b1 => exact rfl)); intro I' l1; (try k_lt l1)))
-- END
namespace Mine
noncomputable def uses : Row → List Nat
  | .jif r _ => [r]
  | .move _ s => [s]
  | .ret s => [s]
  | _ => []
theorem uses_ct (w : World) (fz : Led) (v : Value) (r : Row) (hr : RowIn fz v r) : Ct w 96 [v] fz 2 64 (fun tl x => ∃ l vs n, x = .ref l ∧ (l, listOf vs.toArray n) ∈ tl ∧ IntsV vs (uses r)) := by
  intro dp un gd cn cs ca ccd cl outer A₀ base h₀ L m news s p loose mean mg mb Q E B F X N T hk hsub hd hu ret
  have hr' := hr
  obtain ⟨av, rfl⟩ := hr.isRef
  refine wpAny_call ?_
  k_dflt ktr_enter
  (try (refine gen_tk ?_; intro tk0))
  (try (rename Fr _ _ _ _ => F0; have F1 : Fr _ _ _ (fun y => List.lookup y [(Str.ofString "row", .ref av)]) := F0; clear F0))
  k_steps
  repeat' ((refine stop_out ?_; (with_reducible show wpAny _ _ (call (Value.ref 89) [_]) _ _ _); k_dflt (refine' ct_use0 (shape_ct _ _ _ _ ?c0) ?k1 ?k2 ?k3 ?k4 ?k5 ?k6 ?k7 ?k8 ?k9 ?_; (case c0 => assumption); walk_at "sideC"); intro r' tl' h' tk' F' N' o' P'; obtain ⟨e9, t9, e8⟩ := P'; subst e9; subst e8; clear o'; (try dsimp only [List.nil_append] at N'); (try dsimp only [shapeS])); k_steps)
  cases hr
  all_goals (k_steps; repeat' ((refine stop_out ?_; (with_reducible show wpAny _ _ (call (Value.ref 89) [_]) _ _ _); k_dflt (refine' ct_use0 (shape_ct _ _ _ _ ?c0) ?k1 ?k2 ?k3 ?k4 ?k5 ?k6 ?k7 ?k8 ?k9 ?_; (case c0 => assumption); walk_at "sideC"); intro r' tl' h' tk' F' N' o' P'; obtain ⟨e9, t9, e8⟩ := P'; subst e9; subst e8; clear o'; (try dsimp only [List.nil_append] at N'); (try dsimp only [shapeS])); k_steps))
  all_goals (refine ret _ [_, _] _ _ (by k_asm) (by k_asm) (by walk_at "ord") ⟨_, _, _, rfl, .tail _ (.head _), ?_⟩)
  · exact .nil
  · exact .cons .nil
  · exact .nil
  · exact .cons .nil
  · exact .cons .nil
end Mine

namespace Mine
noncomputable def turnR (φ : Nat → Nat) : Row → Row
  | .goto g => .goto (φ g)
  | .jif r g => .jif r (φ g)
  | r => r
end Mine
-- MACROS
local macro_rules | `(tactic| walk_at "ite") => `(tactic| (k_closed; k_dflt (first | refine ite_pos (by decide +kernel) ?_ | refine ite_neg (by decide +kernel) ?_)))
local macro_rules | `(tactic| walk_at "callWith ref") => `(tactic| (k_here; k_dflt (refine' callWith_F ?k1 ?_; (case k1 => exact FnAt.of (by k_asm) (by k_mem)); k_whole)))
local macro_rules | `(tactic| walk_at "FnAt") => `(tactic| (k_dflt (exact FnAt.of (by k_asm) (by k_mem))))
-- END
namespace Mine

theorem turned_ct (w : World) (fz : Led) (v : Value) (r : Row) (hr : RowIn fz v r) (hr0 : goals r ≠ []) (fr fg : Addr) {oc1 oc2 : Value} {od1 od2 : Option Addr} {fd1 fd2 : FuncData} {sl1 sl2 : Array (Option Value)}
    (hf1 : (fr, (⟨oc1, od1, .func fd1, sl1⟩ : Obj)) ∈ fz) (hf2 : (fg, (⟨oc2, od2, .func fd2, sl2⟩ : Obj)) ∈ fz) (φ : Nat → Nat)
    (hreg : ∀ (n : Nat) (t : Tok), Ct w fr [.int (n : Int) t] fz 1 16 (fun tl x => tl = [] ∧ x = .int (n : Int) t))
    (hgoal : ∀ g ∈ goals r, ∀ t : Tok, Ct w fg [.int (g : Int) t] fz 2 40 (fun tl x => tl = [] ∧ ∃ t', x = .int (φ g : Int) t')) :
    Ct w 106 [v, .ref fr, .ref fg] fz 4 100 (fun tl x => RowIn (tl ++ fz) x (turnR φ r)) := by
  intro dp un gd cn cs ca ccd cl outer A₀ base h₀ L m news s p loose mean mg mb Q E B F X N T hk hsub hd hu ret
  have hr' := hr
  obtain ⟨av, rfl⟩ := hr.isRef
  refine wpAny_call ?_
  k_dflt ((refine' code_defC ?k1 ?k2 ?k3 ?k4 ?k5 ?kA ?kF ?kK ?k6 ?k7 ?k8 ?k9 ?kB ?kD ?_ ?c2 ?c3 ?c4; (case kA => exact rfl); (case kF => exact rfl); (case kK => first | exact rfl | assumption); (case k1 => k_asm); (case k2 => k_asm); (case k3 => k_asm); (case k4 => k_asm); (case k5 => k_asm); (case k6 => k_is); (case k7 => k_is); (case k8 => ktr_room); (case k9 => exact BindsTo.of_eq rfl); (case kB => exact rfl); (case kD => decide +kernel); (case c2 => exact rfl); (case c3 => exact rfl); (case c4 => exact rfl); k_whole; intro g9 L9 h7 tk9 cells' FG9 F' N' Y' B9 X9 T9 l0; (try k_lt l0); k_cells Y'; (try dsimp only [List.cons_append, List.nil_append] at N'); (try dsimp only); (try k_fold)))
  (try (refine gen_tk ?_; intro tk0))
  k_steps
  cases hr
  case goto t1 t2 hm =>
    have c2 := hgoal _ (.head _) t2
    clear hreg hgoal
    k_steps
    repeat' ((first | (refine stop_out ?_; (with_reducible show wpAny _ _ (call (Value.ref 89) [_]) _ _ _); k_dflt (refine' ct_use0 (shape_ct _ _ _ _ ?c0) ?k1 ?k2 ?k3 ?k4 ?k5 ?k6 ?k7 ?k8 ?k9 ?_; (case c0 => assumption); walk_at "sideC"); intro r' tl' h' tk' F' N' o' P'; obtain ⟨e9, t9, e8⟩ := P'; subst e9; subst e8; clear o'; (try dsimp only [List.nil_append] at N'); (try dsimp only [shapeS])) | (refine stop_out ?_; (with_reducible show wpAny _ _ (call (Value.ref _) [Value.int _ _]) _ _ _); k_dflt (refine' ct_use0 ?c0 ?k1 ?k2 ?k3 ?k4 ?k5 ?k6 ?k7 ?k8 ?k9 ?_; (case c0 => assumption); walk_at "sideC"); intro r' tl' h' tk' F' N' o' P'; obtain ⟨e9, e8⟩ := P'; subst e9; (first | subst e8 | (obtain ⟨t9, e8⟩ := e8; subst e8)); clear o'; (try dsimp only [List.nil_append] at N'))); k_steps)
    refine ret _ [_, _, _, _] _ _ (by k_asm) (by k_asm) (by walk_at "ord") (.goto (.head _))
  case jif r0 g0 n0 t1 t2 t3 hm =>
    have c1 := hreg r0 t2
    have c2 := hgoal _ (.head _) t3
    clear hreg hgoal
    k_steps
    repeat' ((first | (refine stop_out ?_; (with_reducible show wpAny _ _ (call (Value.ref 89) [_]) _ _ _); k_dflt (refine' ct_use0 (shape_ct _ _ _ _ ?c0) ?k1 ?k2 ?k3 ?k4 ?k5 ?k6 ?k7 ?k8 ?k9 ?_; (case c0 => assumption); walk_at "sideC"); intro r' tl' h' tk' F' N' o' P'; obtain ⟨e9, t9, e8⟩ := P'; subst e9; subst e8; clear o'; (try dsimp only [List.nil_append] at N'); (try dsimp only [shapeS])) | (refine stop_out ?_; (with_reducible show wpAny _ _ (call (Value.ref _) [Value.int _ _]) _ _ _); k_dflt (refine' ct_use0 ?c0 ?k1 ?k2 ?k3 ?k4 ?k5 ?k6 ?k7 ?k8 ?k9 ?_; (case c0 => assumption); walk_at "sideC"); intro r' tl' h' tk' F' N' o' P'; obtain ⟨e9, e8⟩ := P'; subst e9; (first | subst e8 | (obtain ⟨t9, e8⟩ := e8; subst e8)); clear o'; (try dsimp only [List.nil_append] at N'))); k_steps)
    refine ret _ [_, _, _, _] _ _ (by k_asm) (by k_asm) (by walk_at "ord") (.jif (.head _))
  all_goals exact absurd rfl hr0
end Mine

namespace Mine
noncomputable def SeqIn (N : Led) (l : Addr) (vs : List Value) : Prop := ∃ n, (l, listOf vs.toArray n) ∈ N ∨ (l, tupN vs n) ∈ N
theorem SeqIn.mono {N N' : Led} {l : Addr} {vs : List Value} (h : SeqIn N l vs) (s : ∀ p ∈ N, p ∈ N') : SeqIn N' l vs := by
  obtain ⟨n, h | h⟩ := h
  · exact ⟨n, .inl (s _ h)⟩
  · exact ⟨n, .inr (s _ h)⟩
section
variable {prog : Program} {w : World} {A : Around} {E : Value → Shared → Prop} {s : Shared} {h₀ : Heap} {L : Addr} {m : Str → Option Value} {news fz : Led}
/-- an item of a list or tuple of the ledger at a known place -/
theorem seq_item {value slice : PySem.Expr} {l : Addr} {vs : List Value} {i : Nat} {t : Tok} {v : Value} {Q : Value → Shared → Prop} (N : News h₀ L s.heap news) (hl : SeqIn fz l vs) (hs' : ∀ q ∈ fz, q ∈ news) (hx : vs[i]? = some v) (hi : vs.length ≤ 99) (h : Q v s)
    (hs : subscripted slice false (.ref l) (.int (i : Int) t) = operate [.ref l, .int (i : Int) t] (getItem (.ref l) (.int (i : Int) t))) :
    wpAny (model prog w) A (subscriptTail value slice (.ref l) (.int (i : Int) t)) Q E s := by
  have hlt : i < vs.length := (List.getElem?_eq_some_iff.mp hx).1
  obtain ⟨n, hl | hl⟩ := hl
  · have z : s.heap.IsList l vs.toArray := ⟨_, (N _ (hs' _ hl)).1, rfl, n, rfl⟩
    exact tail_any z.typeIs slot_list_getitem.lookup (wpAny_getItem_list z (by omega) (by omega) (by simpa using hx) h) hs
  · refine item_tupleT (l := vs) (j := i) ⟨_, (N _ (hs' _ hl)).1, rfl, n, rfl⟩ (by omega) (by omega) ?_ hx h hs
    unfold seqIndex?
    have h1 : ¬ ((i : Int) < 0) := by omega
    have h2 : (0 ≤ (i : Int) ∧ (i : Int) < (vs.length : Int)) := by omega
    simp [h1, h2, hlt]
theorem add_led {l b : Addr} {xs ys : List Value} {n1 n2 : Nat} {Q : Value → Shared → Prop} (F : Fr h₀ L s.heap m) (N : News h₀ L s.heap news) (hl : (l, listOf xs.toArray n1) ∈ news) (hb : (b, listOf ys.toArray n2) ∈ news) (hsz : xs.length + ys.length ≤ sizeLine)
    (h : ∀ D h', Fr h₀ L h' m → News h₀ L h' ((D, listOf (xs ++ ys).toArray 0) :: news) → (∀ p ∈ news, p.1 < D) → Q (.ref D) { s with heap := h' }) :
    wpAny (model prog w) A (binaryOp .Add (.ref l) (.ref b)) Q E s :=
  add_lists F N ⟨_, (N _ hl).1, rfl, n1, rfl⟩ ⟨_, (N _ hb).1, rfl, n2, rfl⟩ (fun h' F' N' => h _ h' F' N' fun p hp => Heap.lt_size (N p hp).1) hsz
end
section
variable {prog : Program} {w : World} {A : Around} {E : Value → Shared → Prop} {s : Shared} {h₀ : Heap} {L : Addr} {m : Str → Option Value} {K : Frag}
theorem in_Kstrs {a : Addr} {l : List Value} {n : Nat} {dd : Option Addr} {sl : Array (Option Value)} {ys : List Str} {x : Str} {u : Tok} {b : Bool} {Q : Value → Shared → Prop} (F : Fr h₀ L s.heap m) (X₀ : K.In h₀) (hl : K.lookup a = some ⟨.type "tuple", dd, .seq l.toArray n, sl⟩)
    (hi : StrsAre l ys) (hb : ys.any (· == x) = b) (h : Q (.bool b) s) : wpAny (model prog w) A (compareOp .In (.str x u) (.ref a)) Q E s := by
  subst hb
  exact in_tuple_strs (tupK (X₀.keeps F.keep) hl) (by simpa using hi) h
end
noncomputable def ends : Row → Bool
  | .goto _ => true
  | .ret _ => true
  | _ => false
noncomputable def follows (r : Row) (i : Nat) : List Nat := (if ends r then [] else [i + 1]) ++ goals r
theorem goals_len (r : Row) : (goals r).length ≤ 1 := by cases r <;> simp [goals]
theorem IntsV.length : ∀ {vs : List Value} {ns : List Nat}, IntsV vs ns → vs.length = ns.length
  | _, _, .nil => rfl
  | _, _, .cons h => congrArg (· + 1) h.length
theorem IntsV.append : ∀ {vs ws : List Value} {ns ms : List Nat}, IntsV vs ns → IntsV ws ms → IntsV (vs ++ ws) (ns ++ ms)
  | _, _, _, _, .nil, k => k
  | _, _, _, _, .cons h, k => .cons (h.append k)
end Mine
-- MACROS
local macro_rules | `(tactic| walk_at "strs") => `(tactic| first | exact StrsAre.cons _ _ (StrsAre.cons _ _ (StrsAre.nil)) | exact StrsAre.cons _ _ (StrsAre.cons _ _ (StrsAre.cons _ _ (StrsAre.nil))) | exact StrsAre.cons _ _ (StrsAre.cons _ _ (StrsAre.cons _ _ (StrsAre.cons _ _ (StrsAre.cons _ _ (StrsAre.nil))))))
local macro_rules | `(tactic| walk_at "compareOp In str ref") => `(tactic| (k_here; k_dflt (refine' in_Kstrs ?F ?X ?l ?i ?b ?_; (case F | X => k_asm); (case l => k_is); (case i => walk_at "strs"); (case b => first | with_reducible assumption | exact rfl))))
local macro_rules | `(tactic| walk_at "subscriptTail") => `(tactic| (k_here; (with_reducible show wpAny _ _ (subscriptTail _ _ (Value.ref _) (Value.int _ _)) _ _ _); k_dflt (refine' seq_item ?F ?x1 ?x2 ?x3 ?x4 ?_ ?x5; (case F => k_asm); (case x1 => assumption); (case x2 => first | assumption | (intro q hq; k_mem)); (case x3 | x4 => assumption); (case x5 => with_unfolding_all rfl))))
local macro_rules | `(tactic| walk_at "szs") => `(tactic| first | exact Nat.le_of_ble_eq_true rfl | (simp only [List.length_append, List.length_cons, List.length_nil, sizeLine_eq]; omega))
local macro_rules | `(tactic| walk_at "binaryOp Add ref ref") => `(tactic| (k_here; k_dflt (refine' add_led ?F ?N ?x1 ?x2 ?x3 ?_; (case F | N => k_asm); (case x1 | x2 => k_mem); (case x3 => walk_at "szs")); intro D' h' F' N' l1))
-- END
namespace Mine
noncomputable def headS : Row → Str
  | .goto _ => Str.ofString "goto"
  | .jif _ _ => Str.ofString "unless"
  | .const _ _ => Str.ofString "const"
  | .move _ _ => Str.ofString "move"
  | .ret _ => Str.ofString "return"
theorem row_head {N : Led} {v : Value} {r : Row} (h : RowIn N v r) : ∃ a t ws n, v = .ref a ∧ (a, tupN (.str (headS r) t :: ws) n) ∈ N ∧ ws.length ≤ 2 := by
  cases h with
  | goto h => exact ⟨_, _, _, _, rfl, h, by simp⟩
  | jif h => exact ⟨_, _, _, _, rfl, h, by simp⟩
  | const h _ => exact ⟨_, _, _, _, rfl, h, by simp⟩
  | move h => exact ⟨_, _, _, _, rfl, h, by simp⟩
  | ret h => exact ⟨_, _, _, _, rfl, h, by simp⟩
theorem ends_head (r : Row) : ([Str.ofString "goto", Str.ofString "return", Str.ofString "rethrow"].any (· == headS r)) = ends r := by cases r <;> (simp only [headS, ends]; decide +kernel)
theorem followers_ct (w : World) (fz : Led) (l : Addr) (vs : List Value) (rs : List Row) (hl : SeqIn fz l vs) (hrs : RowsIn fz vs rs) (hlen : rs.length ≤ 99) (i : Nat) (t : Tok) (r : Row) (hi : rs[i]? = some r) :
    Ct w 113 [.ref l, .int (i : Int) t] fz 4 100 (fun tl x => ∃ lf vsf n, x = .ref lf ∧ (lf, listOf vsf.toArray n) ∈ tl ∧ IntsV vsf (follows r i)) := by
  intro dp un gd cn cs ca ccd cl outer A₀ base h₀ L m news s p loose mean mg mb Q E B F X N T hk hsub hd hu ret
  obtain ⟨v, hv, hr⟩ := hrs.get hi
  have hlv : vs.length ≤ 99 := by rw [hrs.length]; exact hlen
  have hr' := hr
  obtain ⟨av, tv, wv, nv, rfl, hm, hwv⟩ := row_head hr
  have hE := ends_head r
  refine wpAny_call ?_
  k_dflt ktr_enter
  (try (refine gen_tk ?_; intro tk0))
  (try (rename Fr _ _ _ _ => F0; have F1 : Fr _ _ _ (fun y => List.lookup y [(Str.ofString "at", .int (i : Int) t), (Str.ofString "rows", .ref l)]) := F0; clear F0))
  k_steps
  k_dflt (refine seq_item (fz := fz) (i := 0) (vs := .str (headS r) tv :: wv) (by k_asm) ⟨nv, .inr hm⟩ (fun q hq => by k_mem) rfl (Nat.le_trans (Nat.succ_le_succ hwv) (by decide)) ?_ (by with_unfolding_all rfl))
  cases he : ends r
  all_goals (rw [he] at hE; k_steps; repeat' ((refine stop_out ?_; (with_reducible show wpAny _ _ (call (Value.ref 101) [_]) _ _ _); k_dflt (refine' ct_use0 (goals_ct _ _ _ _ ?c0) ?k1 ?k2 ?k3 ?k4 ?k5 ?k6 ?k7 ?k8 ?k9 ?_; (case c0 => assumption); walk_at "sideC"); intro r' tl' h' tk' F' N' o' P'; obtain ⟨lg, vsg, ng, tg, e9, e8, hg⟩ := P'; subst e9; (have hgl := Nat.le_trans (Nat.le_of_eq hg.length) (goals_len _)); subst e8; (try dsimp only [List.cons_append] at N')); k_steps))
  all_goals (
    obtain ⟨nN, nO⟩ := ret_head (h₀ := h₀) (L := L) (news := news) (by k_asm) (by assumption) (by intro q hq; k_mem)
    refine ret _ _ _ _ (by k_asm) nN nO ⟨_, _, _, rfl, .head _, ?_⟩
    simp only [follows, he, if_true, Bool.false_eq_true, if_false])
  · exact IntsV.append (ns := [i + 1]) (.cons .nil) (by assumption)
  · exact IntsV.append .nil (by assumption)
end Mine

namespace Mine
section
variable {prog : Program} {w : World} {A : Around} {E : Value → Shared → Prop} {s : Shared} {h₀ : Heap} {env : Env} {target : PySem.Expr} {body : List Stmt} {Q : Flow → Shared → Prop}

/-- the frame between two turns -/
noncomputable abbrev fmap (ps : List (Str × Value)) (stored : List Str) (u m₀ : Str → Option Value) : Str → Option Value := kstB (fun z => if stored.contains z then u z else m₀ z) ps
theorem fmap_self {ps : List (Str × Value)} {stored : List Str} {m₀ m' : Str → Option Value} (h1 : ∀ p ∈ ps, m' p.1 = some p.2) (h2 : ∀ z, (∀ p ∈ ps, z ≠ p.1) → stored.contains z = false → m' z = m₀ z) : fmap ps stored m' m₀ = m' := by
  funext z
  refine kstB_eq h1 fun hz => ?_
  show (if stored.contains z = true then m' z else m₀ z) = m' z
  cases h3 : stored.contains z with
  | true => simp
  | false => simp only [Bool.false_eq_true, if_false]; exact (h2 z hz h3).symm

/-- how a turn may end: mu is what turns, lg what stands, t2 what was made and stands from now on -/
noncomputable def TEnd {σ : Type} (h₀ : Heap) (L : Addr) (mu : σ → Led) (ps : σ → List (Str × Value)) (stored : List Str) (m₀ : Str → Option Value) (InvN : σ → Led → Prop) (c : σ) (lg tl : Led) (s₁ : Shared) (Q : Flow → Shared → Prop) (f : Flow) (s₂ : Shared) : Prop :=
  match f with
  | .ret v => Q (.ret v) s₂
  | .brk => Q .next s₂
  | _ => ∃ h' tk' m' c' t2, s₂ = { s₁ with heap := h', toks := tk' } ∧ Fr h₀ L h' m' ∧ News h₀ L h' (mu c' ++ (t2 ++ lg)) ∧ Ord (mu c ++ lg) t2 ∧ (∀ p ∈ ps c', m' p.1 = some p.2) ∧ (∀ z, (∀ p ∈ ps c', z ≠ p.1) → stored.contains z = false → m' z = m₀ z) ∧ InvN c' (t2 ++ tl)

theorem ord_mu {σ : Type} {mu : σ → Led} {adr : List Addr} (hadr : ∀ c, (mu c).map (·.1) = adr) {c c' : σ} {lg fm t2 : Led} (o : Ord (mu c ++ lg) t2) (hs : ∀ q ∈ fm, q ∈ lg) : Ord (mu c' ++ fm) t2 := by
  intro q hq p hp
  rcases List.mem_append.mp hq with hq | hq
  · have h1 : q.1 ∈ (mu c).map (·.1) := by rw [hadr c, ← hadr c']; exact List.mem_map_of_mem hq
    obtain ⟨q', hq', e⟩ := List.mem_map.mp h1
    rw [← e]; exact o q' (List.mem_append_left _ hq') p hp
  · exact o q (List.mem_append_right _ (hs q hq)) p hp

theorem turns_inv {σ : Type} {I : Addr} {fp wr : List Addr} {n : Nat} {P Md : Nat → Value → Heap → Prop} {St : Nat → Heap → Prop} {m₀ : Str → Option Value} {fm : Led} {hp : Heap} {tk0 : Nat}
    (mu : σ → Led) (adr : List Addr) (ps : σ → List (Str × Value)) (stored : List Str) (Inv : Nat → σ → Led → Prop) (c₀ : σ)
    (W : KTurns prog w A target I fp wr n P Md St) (hlive : ∀ i h, St i h → ∀ b ∈ wr, ∃ o, h.get? b = some o) (hfix : ∀ b ∈ fp, b ∉ wr → b ∉ adr) (hL : env.locals ∉ fp) (hwr : ∀ b ∈ wr, h₀.get? b = none)
    (hadr : ∀ c, (mu c).map (·.1) = adr) (hnw : ∀ p ∈ mu c₀ ++ fm, p.1 ∉ wr) (hst : St 0 hp) (F : Fr h₀ env.locals hp m₀) (N : News h₀ env.locals hp (mu c₀ ++ fm)) (hoff : ∀ d ∈ adr, Off d fm)
    (hps : ∀ p ∈ ps c₀, m₀ p.1 = some p.2) (h0 : Inv 0 c₀ [])
    (turn : ∀ i v c tl lg u h tk, i < n → P i v h → Inv i c tl → Ord (mu c₀ ++ fm) tl → (∀ q ∈ tl ++ fm, q ∈ lg) → (∀ d ∈ adr, Off d lg) → Fr h₀ env.locals h (fmap (ps c) stored u m₀) → News h₀ env.locals h (mu c ++ lg) →
      wpAny (model prog w) A (assign target env v) (fun _ s₂ => wpAny (model prog w) A (execs body env) (TEnd h₀ env.locals mu ps stored m₀ (Inv (i + 1)) c lg tl { s with heap := h, toks := tk } Q) E s₂) E { s with heap := h, toks := tk })
    (done : ∀ c tl u h tk, Inv n c tl → Ord (mu c₀ ++ fm) tl → Fr h₀ env.locals h (fmap (ps c) stored u m₀) → News h₀ env.locals h (mu c ++ (tl ++ fm)) → Q .next { s with heap := h, toks := tk }) :
    TurnsAt prog w A h₀ env target body Q E (.ref I) { s with heap := hp, toks := tk0 } := by
  let J : Nat → (Str → Option Value) → Led → Prop := fun i m₁ news₁ => ∃ c tl, news₁ = mu c ++ (tl ++ fm) ∧ Ord (mu c₀ ++ fm) tl ∧ (∀ p ∈ ps c, m₁ p.1 = some p.2) ∧ (∀ z, (∀ p ∈ ps c, z ≠ p.1) → stored.contains z = false → m₁ z = m₀ z) ∧ Inv i c tl
  refine ⟨I, fp, wr, n, P, Md, St, m₀, mu c₀ ++ fm, J, rfl, W, hL, hwr, hnw, hst, F, N, ⟨c₀, [], rfl, Ord.nil, hps, fun _ _ _ => rfl, h0⟩, ?_, ?_⟩
  · rintro i v m₁ news₁ h₁ tk₁ own hin hPi ⟨c, tl, rfl, otl, hp1, hp2, hI⟩ hoffw hown hget hall hst₁ F₁ N₁
    have hsub : ∀ q ∈ tl ++ fm, q ∈ own ++ (tl ++ fm) := fun q hq => List.mem_append_right _ hq
    have hmuw : ∀ d ∈ adr, d ∉ wr := fun d hd => by
      rw [← hadr c] at hd
      obtain ⟨q, hq, rfl⟩ := List.mem_map.mp hd
      exact hoffw q (List.mem_append_left _ hq)
    have hoffl : ∀ d ∈ adr, Off d (own ++ (tl ++ fm)) := fun d hd => by
      refine Off.append (fun p hp e => ?_) (Off.append (fun p hp e => ?_) (hoff d hd))
      · by_cases hw : p.1 ∈ wr
        · exact hmuw d hd (e ▸ hw)
        · exact hfix _ (hown p hp) hw (e ▸ hd)
      · rw [← hadr c₀] at hd
        obtain ⟨q, hq, e'⟩ := List.mem_map.mp hd
        have := otl q (List.mem_append_left _ hq) p hp
        have e2 : q.1 = p.1 := e'.trans e.symm
        rw [e2] at this
        exact Nat.lt_irrefl _ this
    have F₂ : Fr h₀ env.locals h₁ (fmap (ps c) stored m₁ m₀) := by rw [fmap_self hp1 hp2]; exact F₁
    have N₂ : News h₀ env.locals h₁ (mu c ++ (own ++ (tl ++ fm))) := fun q hq => N₁ q (by
      exact sub_at hq (by walk_at "sub"))
    refine wpAny_mono (turn i v c tl _ m₁ h₁ tk₁ hin hPi hI otl hsub hoffl F₂ N₂) (fun _ s₂ h₂ => wpAny_mono h₂ (fun f s₃ p => ?_) fun _ _ e => e) fun _ _ e => e
    have fin : (∃ h' tk' m' c' t2, s₃ = { s with heap := h', toks := tk' } ∧ Fr h₀ env.locals h' m' ∧ News h₀ env.locals h' (mu c' ++ (t2 ++ (own ++ (tl ++ fm)))) ∧ Ord (mu c ++ (own ++ (tl ++ fm))) t2 ∧ (∀ p ∈ ps c', m' p.1 = some p.2) ∧ (∀ z, (∀ p ∈ ps c', z ≠ p.1) → stored.contains z = false → m' z = m₀ z) ∧ Inv (i + 1) c' (t2 ++ tl)) →
        LoopStepU h₀ env.locals wr own (J (i + 1)) { s with heap := h₁, toks := tk₁ } .next s₃ := by
      rintro ⟨h', tk', m', c', t2, rfl, F', N', o2, q1, q2, hI'⟩
      refine ⟨rfl, h', tk', m', mu c' ++ ((t2 ++ tl) ++ fm), rfl, F', fun q hq => N' q ?_, ?_, c', t2 ++ tl, rfl, ?_, q1, q2, hI'⟩
      · exact sub_at hq (by walk_at "sub")
      · intro q hq hw
        simp only [List.mem_append] at hq
        rcases hq with h | (h | h) | h
        · have : q.1 ∈ adr := by rw [← hadr c']; exact List.mem_map_of_mem h
          exact hmuw _ this hw
        · obtain ⟨o, ho⟩ := hlive _ _ hst₁ _ hw
          have hm : (q.1, o) ∈ own := hall _ (W.sub _ hw) (hwr _ hw) o ho
          exact Nat.lt_irrefl _ (o2 _ (List.mem_append_right _ (List.mem_append_left _ hm)) q h)
        · exact hoffw q (by simp [h]) hw
        · exact hoffw q (by simp [h]) hw
      · exact Ord.append (ord_mu hadr o2 fun q hq => List.mem_append_right _ (List.mem_append_right _ hq)) otl
    cases f with
    | ret v => exact .ret p
    | brk => exact .brk p
    | next => exact .next (fin p)
    | cont => exact .cont (fin p)
  · rintro h' tk m' news' F' N' _ ⟨c, tl, rfl, otl, hp1, hp2, hI⟩
    exact done c tl m' h' tk hI otl (by rw [fmap_self hp1 hp2]; exact F') N'

/-- over a list of the ledger that the turns leave alone -/
theorem turns_list {σ : Type} {ax : Addr} {vs : List Value} {nn : Nat} {m₀ : Str → Option Value} {fm : Led}
    (mu : σ → Led) (adr : List Addr) (ps : σ → List (Str × Value)) (stored : List Str) (Inv : Nat → σ → Led → Prop) (c₀ : σ)
    (hh : A.handled = none) (hadr : ∀ c, (mu c).map (·.1) = adr) (F : Fr h₀ env.locals s.heap m₀) (N : News h₀ env.locals s.heap (mu c₀ ++ fm)) (hoff : ∀ d ∈ adr, Off d fm) (hm : (ax, listOf vs.toArray nn) ∈ fm)
    (hps : ∀ p ∈ ps c₀, m₀ p.1 = some p.2) (h0 : Inv 0 c₀ [])
    (turn : ∀ i v c tl lg u h tk, i < vs.length → vs[i]? = some v → Inv i c tl → Ord (mu c₀ ++ fm) tl → (∀ q ∈ tl ++ fm, q ∈ lg) → (∀ d ∈ adr, Off d lg) → Fr h₀ env.locals h (fmap (ps c) stored u m₀) → News h₀ env.locals h (mu c ++ lg) →
      wpAny (model prog w) A (assign target env v) (fun _ s₂ => wpAny (model prog w) A (execs body env) (TEnd h₀ env.locals mu ps stored m₀ (Inv (i + 1)) c lg tl { s with heap := h, toks := tk } Q) E s₂) E { s with heap := h, toks := tk })
    (done : ∀ c tl u h tk, Inv vs.length c tl → Ord (mu c₀ ++ fm) tl → Fr h₀ env.locals h (fmap (ps c) stored u m₀) → News h₀ env.locals h (mu c ++ (tl ++ fm)) → Q .next { s with heap := h, toks := tk }) :
    wpAny (model prog w) A (pyIter (.ref ax)) (fun it s₂ => TurnsAt prog w A h₀ env target body Q E it s₂) E s := by
  have hax := N _ (List.mem_append_right _ hm)
  have hl : s.heap.IsList ax vs.toArray := ⟨_, hax.1, rfl, nn, rfl⟩
  have hlt : ax < s.heap.objs.size := Heap.lt_size hax.1
  have hne : ax ≠ s.heap.objs.size := Nat.ne_of_lt hlt
  have hLs : env.locals < s.heap.objs.size := F.ns.lt
  refine wpAny_pyIter_list hl ?_
  refine turns_inv (tk0 := s.toks) mu adr ps stored Inv c₀ (KTurns.ofWalks (Walks.list hh s.heap.objs.size ax hne vs.toArray) fun i v s Q E st q => letGo_listiter st.1 q) ?_ ?_ ?_ ?_ hadr ?_ ⟨⟨_, Heap.get?_push_size _ rfl, rfl, rfl⟩, hl.at fun o e => Heap.get?_push_of_some _ e⟩ (F.push _) (fun p hp => ⟨Heap.get?_push_of_some _ (N p hp).1, (N p hp).2⟩) hoff hps h0 (fun i v c tl lg u h tk hi hP => turn i v c tl lg u h tk (by simpa using hi) (by have hP' : vs.toArray[i]? = some v := hP; simpa using hP')) (fun c tl u h tk hI => done c tl u h tk (by simpa using hI))
  · intro i h st b hb
    rw [List.mem_singleton.mp hb]
    obtain ⟨o, e, _⟩ := st.1
    exact ⟨o, e⟩
  · intro b hb hw hd
    have hb' : b = s.heap.objs.size ∨ b = ax := by simpa using hb
    rcases hb' with e | e
    · exact hw (by simp [e])
    · exact hoff b hd _ hm e.symm
  · intro hI
    have hb' : env.locals = s.heap.objs.size ∨ env.locals = ax := by simpa using hI
    rcases hb' with e | e
    · exact Nat.ne_of_lt hLs e
    · exact hax.2.1 e.symm
  · intro b hb; rw [List.mem_singleton.mp hb]; exact next_is_new F
  · intro p hp hI; exact absurd (Heap.lt_size (N p hp).1) ((List.mem_singleton.mp hI) ▸ Nat.lt_irrefl _)

/-- over a range by ones -/
theorem turns_range {σ : Type} {r : Addr} {n : Nat} {b₀ : Int} {t₀ u₀ v₀ : Tok} {m₀ : Str → Option Value} {fm : Led}
    (mu : σ → Led) (adr : List Addr) (ps : σ → List (Str × Value)) (stored : List Str) (Inv : Nat → σ → Led → Prop) (c₀ : σ)
    (hh : A.handled = none) (htg : ∃ x px, target = .Name x px) (hr : IsRange s.heap r 0 b₀ 1 t₀ u₀ v₀) (hb₀ : b₀ = (n : Int)) (hn99 : n ≤ 999) (hadr : ∀ c, (mu c).map (·.1) = adr) (F : Fr h₀ env.locals s.heap m₀) (N : News h₀ env.locals s.heap (mu c₀ ++ fm)) (hoff : ∀ d ∈ adr, Off d fm)
    (hps : ∀ p ∈ ps c₀, m₀ p.1 = some p.2) (h0 : Inv 0 c₀ [])
    (turn : ∀ i t c tl lg u h tk, i < n → Inv i c tl → Ord (mu c₀ ++ fm) tl → (∀ q ∈ tl ++ fm, q ∈ lg) → (∀ d ∈ adr, Off d lg) → Fr h₀ env.locals h (fmap (ps c) stored u m₀) → News h₀ env.locals h (mu c ++ lg) →
      wpAny (model prog w) A (assign target env (.int (i : Int) t)) (fun _ s₂ => wpAny (model prog w) A (execs body env) (TEnd h₀ env.locals mu ps stored m₀ (Inv (i + 1)) c lg tl { s with heap := h, toks := tk } Q) E s₂) E { s with heap := h, toks := tk })
    (done : ∀ c tl u h tk, Inv n c tl → Ord (mu c₀ ++ fm) tl → Fr h₀ env.locals h (fmap (ps c) stored u m₀) → News h₀ env.locals h (mu c ++ (tl ++ fm)) → Q .next { s with heap := h, toks := tk }) :
    wpAny (model prog w) A (pyIter (.ref r)) (fun it s₂ => TurnsAt prog w A h₀ env target body Q E it s₂) E s := by
  subst hb₀
  obtain ⟨x, px, rfl⟩ := htg
  have hsmall : Builtin.Range.small 0 (n : Int) 1 = true := by
    have h1 : Builtin.Range.rangeSize 0 (n : Int) 1 = (n : Int) := by rw [rangeSize_nat]; omega
    have f : ∀ x : Int, 0 ≤ x → x ≤ 999 → Builtin.Range.rangeFitsLong x = true := fun x h0 h9 => by
      unfold Builtin.Range.rangeFitsLong
      simp
      omega
    unfold Builtin.Range.small
    rw [h1, f 0 (by omega) (by omega), f n (by omega) (by omega), f 1 (by omega) (by omega)]
    have e : ((n : Int) + (1 - 1)) = n := by omega
    rw [if_pos (by decide), e, f n (by omega) (by omega)]
    simp
  have hsize : Builtin.Range.rangeSize 0 (n : Int) 1 = (n : Int) := by rw [rangeSize_nat]; omega
  have hLs : env.locals < s.heap.objs.size := F.ns.lt
  refine wpAny_pyIter_range hr hsmall ?_
  have W : Walks prog w A s.heap.objs.size [s.heap.objs.size] [s.heap.objs.size] n (fun i v => i < n ∧ ∃ t, v = .int (0 + (i : Nat) * 1) t)
      (fun i h => IsRangeIter h s.heap.objs.size (0 + (i : Nat) * 1) ((n : Int) - (i : Nat)) 1) := (Walks.range hh _ 0 1 n).bound
  refine turns_inv (tk0 := s.toks) mu adr ps stored Inv c₀ (KTurns.ofWalks (target := .Name x px) W fun i v s Q E st q => wpAny_pure q) ?_ ?_ ?_ ?_ hadr ?_ (by show IsRangeIter _ _ _ _ _; rw [hsize]; simpa using Heap.get?_push_size _ rfl) (F.push _) (fun p hp => ⟨Heap.get?_push_of_some _ (N p hp).1, (N p hp).2⟩) hoff hps h0 ?_ done
  · intro i h st b hb
    rw [List.mem_singleton.mp hb]
    exact ⟨_, st⟩
  · intro b hb hw hd
    exact absurd hb hw
  · intro hI; exact absurd hLs ((List.mem_singleton.mp hI) ▸ Nat.lt_irrefl _)
  · intro b hb; rw [List.mem_singleton.mp hb]; exact next_is_new F
  · intro p hp hI; exact absurd (Heap.lt_size (N p hp).1) ((List.mem_singleton.mp hI) ▸ Nat.lt_irrefl _)
  · rintro i v c tl lg u h tk hi ⟨_, t, rfl⟩ a1 a2 a3 a4 a5 a6
    rw [Int.mul_one, Int.zero_add]
    exact turn i t c tl lg u h tk hi a1 a2 a3 a4 a5 a6
end
end Mine

namespace Mine
section
variable {prog : Program} {w : World} {A : Around} {E : Value → Shared → Prop} {s : Shared} {h₀ : Heap} {L : Addr} {news fz : Led}
theorem len_seq {l : Addr} {vs : List Value} {Q : Value → Shared → Prop} (N : News h₀ L s.heap news) (hl : SeqIn fz l vs) (hs' : ∀ q ∈ fz, q ∈ news) (hi : vs.length ≤ 99) (h : ∀ t tk, Q (.int (vs.length : Int) t) { s with toks := tk }) :
    wpAny (model prog w) A (call (.builtin "len") [.ref l]) Q E s := by
  obtain ⟨n, hl | hl⟩ := hl
  · have z : s.heap.IsList l vs.toArray := ⟨_, (N _ (hs' _ hl)).1, rfl, n, rfl⟩
    exact PyProof.Rows.len_list z (by simp; omega) (by simpa using h _ _)
  · have z : IsTup s.heap l vs.toArray := ⟨_, (N _ (hs' _ hl)).1, rfl, n, rfl⟩
    exact PyProof.Rows.len_tuple z (by simp; omega) (by simpa using h _ _)
theorem tend_ret {σ : Type} {mu : σ → Led} {ps : σ → List (Str × Value)} {stored : List Str} {m₀ : Str → Option Value} {Inv : σ → Led → Prop} {c : σ} {lg tl : Led} {s₁ s₂ : Shared} {Q : Flow → Shared → Prop} {v : Value} (h : Q (.ret v) s₂) : TEnd h₀ L mu ps stored m₀ Inv c lg tl s₁ Q (.ret v) s₂ := h
theorem tend_brk {σ : Type} {mu : σ → Led} {ps : σ → List (Str × Value)} {stored : List Str} {m₀ : Str → Option Value} {Inv : σ → Led → Prop} {c : σ} {lg tl : Led} {s₁ s₂ : Shared} {Q : Flow → Shared → Prop} (h : Q .next s₂) : TEnd h₀ L mu ps stored m₀ Inv c lg tl s₁ Q .brk s₂ := h
theorem tend_next {σ : Type} {mu : σ → Led} {ps : σ → List (Str × Value)} {stored : List Str} {m₀ : Str → Option Value} {Inv : σ → Led → Prop} {c : σ} {lg tl : Led} {s₁ : Shared} {Q : Flow → Shared → Prop} {h' : Heap} {tk' : Nat} {m' : Str → Option Value} (c' : σ) (t2 : Led)
    (F : Fr h₀ L h' m') (N : News h₀ L h' (mu c' ++ (t2 ++ lg))) (o : Ord (mu c ++ lg) t2) (hp : ∀ p ∈ ps c', m' p.1 = some p.2) (hz : ∀ z, (∀ p ∈ ps c', z ≠ p.1) → stored.contains z = false → m' z = m₀ z) (hI : Inv c' (t2 ++ tl)) :
    TEnd h₀ L mu ps stored m₀ Inv c lg tl s₁ Q .next { s₁ with heap := h', toks := tk' } := ⟨h', tk', m', c', t2, rfl, F, N, o, hp, hz, hI⟩
theorem kst_off {rest : Str → Option Value} {z : Str} : ∀ {ps : List (Str × Value)}, (∀ p ∈ ps, z ≠ p.1) → kstB rest ps z = rest z
  | [], _ => rfl
  | p :: ps, h => (if_neg (h p (.head _))).trans (kst_off fun q hq => h q (.tail _ hq))
theorem fmap_off {ps : List (Str × Value)} {stored : List Str} {u m₀ : Str → Option Value} {z : Str} (h1 : ∀ p ∈ ps, z ≠ p.1) (h2 : stored.contains z = false) : fmap ps stored u m₀ z = m₀ z := by
  show kstB _ ps z = _
  rw [kst_off h1]
  show (if stored.contains z = true then u z else m₀ z) = m₀ z
  rw [h2]; rfl
theorem ne_stored {stored : List Str} {z x : Str} (h2 : stored.contains z = false) (h : stored.contains x = true) : z ≠ x := fun e => by rw [e, h] at h2; cases h2
end
end Mine
-- MACROS
local macro_rules | `(tactic| walk_at "exec For Name Call cons nil") => `(tactic| (k_here; (rename Fr _ _ _ _ => lF'); (with_unfolding_all refine' For_turns lF' ?_)))
local macro_rules | `(tactic| walk_at "exec For Name Name cons nil") => `(tactic| (k_here; (rename Fr _ _ _ _ => lF'); (with_unfolding_all refine' For_turns lF' ?_)))
local macro_rules | `(tactic| walk_at "call builtin:len") => `(tactic| (k_here; (with_reducible show wpAny _ _ (call (Value.builtin "len") [Value.ref _]) _ _ _); k_dflt (refine' len_seq ?F ?x1 ?x2 ?x3 ?_; (case F => k_asm); (case x1 => assumption); (case x2 => first | assumption | (intro q hq; k_mem)); (case x3 => assumption)); intro t' tk'))
local macro_rules | `(tactic| walk_at "call type:range") => `(tactic| (k_here; k_dflt (refine' range1_rows ?F ?N ?_; (case F | N => k_asm)); intro h' tk' t1' u1' v1' hR' F' N' hK'))
local macro_rules | `(tactic| walk_at "TEnd") => `(tactic| first | refine tend_ret ?_ | refine tend_brk ?_)
-- END
namespace Mine
noncomputable def lastGoal (rs : List Row) : Nat → Nat → Nat
  | 0, g => g
  | k + 1, g => match rs[g]? with
    | some (.goto g') => if g' = g then g else lastGoal rs k g'
    | _ => g
theorem lastGoal_succ {rs : List Row} {k g : Nat} : lastGoal rs (k + 1) g = (match rs[g]? with
    | some (.goto g') => if g' = g then g else lastGoal rs k g'
    | _ => g) := rfl
theorem lastGoal_ct (w : World) (fz : Led) (l : Addr) (vs : List Value) (rs : List Row) (hl : SeqIn fz l vs) (hrs : RowsIn fz vs rs) (hlen : rs.length ≤ 99) (hcl : ∀ (i g : Nat), rs[i]? = some (Row.goto g) → g < rs.length) (g : Nat) (hg : g < rs.length) (t : Tok) :
    Ct w 121 [.ref l, .int (g : Int) t] fz 1 30 (fun tl x => tl = [] ∧ ∃ t', x = .int (lastGoal rs rs.length g : Int) t') := by
  intro dp un gd cn cs ca ccd cl outer A₀ base h₀ L m news s p loose mean mg mb Q E B F X N T hk hsub hd hu ret
  have hlv : vs.length ≤ 99 := by rw [hrs.length]; exact hlen
  refine wpAny_call ?_
  k_dflt ktr_enter
  (try (refine gen_tk ?_; intro tk0))
  (try (rename Fr _ _ _ _ => F0; have F1 : Fr _ _ _ (fun y => List.lookup y [(Str.ofString "at", .int (g : Int) t), (Str.ofString "rows", .ref l)]) := F0; clear F0))
  k_steps
  rename IsRange _ _ _ _ _ _ _ _ => hR
  refine turns_range (σ := Nat × Tok) (n := rs.length) (fm := news) (fun _ => []) [] (fun c => [(Str.ofString "at", .int (c.1 : Int) c.2)]) [Str.ofString "turn"]
    (fun i c tl => tl = [] ∧ c.1 < rs.length ∧ lastGoal rs (rs.length - i) c.1 = lastGoal rs rs.length g) (g, t) rfl ⟨_, _, rfl⟩ hR (by rw [hrs.length]) (by omega) (fun _ => rfl) (by k_asm) (by k_asm) (fun _ h => nomatch h) ?_ ⟨rfl, hg, rfl⟩ ?_ ?_
  · intro p hp
    rw [List.mem_singleton.mp hp]
    rfl
  · rintro i t1 ⟨a, ta⟩ tl lg u h tk hi ⟨rfl, hlt, heq⟩ hord hlg hoff F1 N1
    dsimp only at hlt heq F1 N1 ⊢
    have hsub1 : ∀ q ∈ fz, q ∈ lg := fun q hq => hlg q (hsub q hq)
    obtain ⟨r, hr⟩ : ∃ r, rs[a]? = some r := ⟨rs[a], by simp [hlt]⟩
    obtain ⟨v, hv, hrv⟩ := hrs.get hr
    have hrv' := hrv
    have hsubn : ∀ q ∈ news, q ∈ lg := fun q hq => hlg q hq
    clear hlg
    (try dsimp only [List.nil_append] at N1)
    have hk1 : rs.length - i = (rs.length - (i + 1)) + 1 := by omega
    rw [hk1] at heq
    rw [lastGoal_succ, hr] at heq
    cases hrv <;> dsimp only at heq
    case goto g' n' t1' t2' hm' =>
      have hg' := hcl _ _ hr
      k_steps
      · rename ((_ : Int) = (_ : Int)) => he
        have he' : g' = a := by omega
        rw [if_pos he'] at heq
        exact ret _ [] _ _ (by k_asm) (news_sub (by assumption) hsubn) Ord.nil ⟨rfl, _, by rw [← heq]⟩
      · rename ((_ : Int) ≠ (_ : Int)) => he
        have he' : ¬ g' = a := by omega
        rw [if_neg he'] at heq
        refine tend_next (g', t2') [] (by k_asm) (by k_asm) Ord.nil (by ((repeat refine List.forall_mem_cons.mpr ⟨rfl, ?_⟩); exact List.forall_mem_nil _)) (by (intro z hz1 hz2; repeat (first | exact fmap_off hz1 hz2 | exact rfl | exact if_neg (fun e => Bool.false_ne_true (hz2.symm.trans e)) | refine (if_neg (ne_stored hz2 (by decide +kernel))).trans ?_ | refine (if_neg (hz1 _ (.head _))).trans ?_ | refine (if_neg (hz1 _ (.tail _ (.head _)))).trans ?_ | refine (if_neg (hz1 _ (.tail _ (.tail _ (.head _))))).trans ?_))) ⟨rfl, hg', heq⟩
    all_goals (
      k_steps
      exact ret _ [] _ _ (by k_asm) (news_sub (by assumption) hsubn) Ord.nil ⟨rfl, _, by rw [← heq]⟩)
  · rintro ⟨a, ta⟩ tl u h tk ⟨rfl, hlt, heq⟩ hord F1 N1
    dsimp only at hlt heq F1 N1 ⊢
    (try dsimp only [List.nil_append] at N1)
    rw [Nat.sub_self] at heq
    k_steps
    exact ret _ [] _ _ (by k_asm) (by k_asm) Ord.nil ⟨rfl, _, by rw [← heq]; rfl⟩
end Mine

namespace Mine
noncomputable abbrev TB := Option (Addr × Addr) × Option (Addr × Addr)
noncomputable def CodeIn (fz : Led) (a : Addr) (q : Str) : Prop := ∃ oc vs t, (a, oc) ∈ fz ∧ oc.data = .fields vs ∧ vs[1]? = some (.str q t)
theorem CodeIn.mono {N N' : Led} {a : Addr} {q : Str} (h : CodeIn N a q) (s : ∀ p ∈ N, p ∈ N') : CodeIn N' a q := by
  obtain ⟨oc, vs, t, h1, h2, h3⟩ := h
  exact ⟨oc, vs, t, s _ h1, h2, h3⟩
noncomputable def tA : Option (Addr × Addr) → Array Value
  | none => #[]
  | some (a, b) => #[rawInt 66, rawInt 34, .ref a, rawInt 66, rawInt 61, .ref b]
noncomputable def tB : Option (Addr × Addr) → Array Value
  | none => #[]
  | some (a, b) => #[rawInt 103, rawInt 41, .ref a, rawInt 103, rawInt 68, .ref b]
noncomputable abbrev tabs (c : TB) : Led := [(123, tabObj (tA c.1)), (158, tabObj (tB c.2))]
noncomputable def TOk (fz : Led) (c : TB) : Prop :=
  (∀ a b, c.1 = some (a, b) → CodeIn fz a (Str.ofString "led_on" ++ ".<locals>." ++ "<lambda>") ∧ CodeIn fz b (Str.ofString "led_on" ++ ".<locals>." ++ "<lambda>")) ∧
  (∀ a b, c.2 = some (a, b) → CodeIn fz a (Str.ofString "cut_rows" ++ ".<locals>." ++ "<lambda>") ∧ CodeIn fz b (Str.ofString "cut_rows" ++ ".<locals>." ++ "<lambda>"))
theorem TOk.mono {N N' : Led} {c : TB} (h : TOk N c) (s : ∀ p ∈ N, p ∈ N') : TOk N' c :=
  ⟨fun a b e => ⟨(h.1 a b e).1.mono s, (h.1 a b e).2.mono s⟩, fun a b e => ⟨(h.2 a b e).1.mono s, (h.2 a b e).2.mono s⟩⟩
/-- a call that may fill the tables of the two codes that make lambdas -/
noncomputable def CtM (w : World) (f : Addr) (args : List Value) (fz : Led) (dn un : Nat) (c : TB) (Post : TB → Led → Value → Prop) : Prop :=
  ∀ (dp u : Nat) (gd : Option (List Code)) (cn : Str) (cs : Scope) (ca : Addr) (ccd : Value) (cl : List (Str × Addr)) (outer : List Env) (A₀ : Around) (base h₀ : Heap) (L : Addr) (m : Str → Option Value) (news : Led) (s : Shared)
    (p : Program) (loose : List Str) (mean : ExcName → Option Value) (mg mb : Str → Option Value) (Q E : Value → Shared → Prop),
    Below A₀ base outer h₀ → Fr h₀ L s.heap m → (Mine.hp.hd.heap_39 w.params).In h₀ → News h₀ L s.heap (tabs c ++ news) → Top p loose mean mg mb h₀ → cs.kind = .function → (∀ q ∈ fz, q ∈ news) → Off 123 news → Off 158 news → CodeHd base 127 123 → CodeHd base 162 158 → dp + dn < recursionLimit → u + un < cLine →
    (∀ r c' tl h' tk', Fr h₀ L h' m → News h₀ L h' (tabs c' ++ (tl ++ news)) → Ord (tabs c ++ news) tl → Post c' tl r → Q r { s with heap := h', toks := tk' }) →
    wpAny (model PySem.Challenge.rw_xm0679_01.prog w) (ktrTop dp u gd cn cs L ca ccd cl outer) (call (.ref f) args) Q E s
theorem off_ne {d : Addr} {l : Led} (h : Off d l) : ∀ p ∈ l, p.1 ≠ d := h
theorem Off.nil {d : Addr} : Off d [] := fun _ h => nomatch h
theorem Ord.subA {n n' a : Led} (x : Ord n a) (h : ∀ q ∈ n', ∃ q' ∈ n, q'.1 = q.1) : Ord n' a := fun q hq p hp => by
  obtain ⟨q', hq', e⟩ := h q hq
  rw [← e]
  exact x q' hq' p hp
theorem off_append {d : Addr} {a b : Led} (x : ∀ p ∈ a, p.1 ≠ d) (y : ∀ p ∈ b, p.1 ≠ d) : ∀ p ∈ a ++ b, p.1 ≠ d := Off.append x y
theorem off_cons {d : Addr} {q : Addr × Obj} {l : Led} (h1 : q.1 ≠ d) (h2 : ∀ p ∈ l, p.1 ≠ d) : ∀ p ∈ q :: l, p.1 ≠ d := List.forall_mem_cons.mpr ⟨h1, h2⟩
section
variable {prog : Program} {w : World} {A : Around} {E : Value → Shared → Prop} {s : Shared} {h₀ : Heap} {L : Addr} {m : Str → Option Value} {news : Led}
theorem append_led {D : Addr} {vs : List Value} {n : Nat} {x : Value} {g : Obj → Led} {Q : Value → Shared → Prop} (F : Fr h₀ L s.heap m) (N : News h₀ L s.heap news) (U : UpdF D (listOf vs.toArray n) news g) (hsz : vs.length ≤ sizeLine)
    (h : ∀ h', Fr h₀ L h' m → News h₀ L h' (g (listOf (vs ++ [x]).toArray (n + 1))) → Q .none { s with heap := h' }) :
    wpAny (model prog w) A (call (.builtin "list.append") [.ref D, x]) Q E s := by
  obtain ⟨pre, post, rfl, hg, a, b⟩ := U.split
  have z := N (D, listOf vs.toArray n) (List.mem_append.mpr (.inr (.head _)))
  refine append_at (hsz := by rw [List.size_toArray]; exact hsz) z.1 fun h' hs ho' => h h' (F.change hs z.2.1 z.2.2) ?_
  rw [hg]
  have := news_set N a b hs ho'
  simpa using this
end
theorem led_four {h₀ h : Heap} {L : Addr} {x1 x2 x3 x4 x5 t1 t2 t3 : Addr × Obj} {lg : Led} (N : News h₀ L h (x1 :: x2 :: x3 :: x4 :: x5 :: t1 :: t2 :: t3 :: lg)) (bs : Led) (hb : ∀ q ∈ bs, q ∈ lg) :
    ∃ fz', fz' = [x1, x2, x3, x4] ++ bs ∧ x1 ∈ fz' ∧ x2 ∈ fz' ∧ x3 ∈ fz' ∧ x4 ∈ fz' ∧ (∀ q ∈ bs, q ∈ fz') ∧ (∀ q ∈ fz', q ∈ x1 :: x2 :: x3 :: x4 :: x5 :: t1 :: t2 :: t3 :: lg) :=
  ⟨_, rfl, by simp, by simp, by simp, by simp, fun q hq => sub_at hq (by walk_at "sub"), fun q hq => by
    exact sub_at hq (by walk_at "sub")⟩
theorem led_back4 {h₀ h : Heap} {L : Addr} {x1 x2 x3 x4 x5 t1 t2 t3 : Addr × Obj} {lg tl : Led} (N : News h₀ L h (tl ++ (x1 :: x2 :: x3 :: x4 :: x5 :: t1 :: t2 :: t3 :: lg))) : News h₀ L h (t1 :: t2 :: t3 :: ((tl ++ [x1, x2, x3, x4]) ++ lg)) :=
  news_sub N fun q hq => by
    exact sub_at hq (by walk_at "sub")
theorem news_head {h₀ h : Heap} {L a : Addr} {o o' : Obj} {l : Led} (N : News h₀ L h ((a, o) :: l)) (e : o = o') : News h₀ L h ((a, o') :: l) := e ▸ N
theorem led_two {h₀ h : Heap} {L : Addr} {x1 x2 x5 t1 t2 t3 : Addr × Obj} {lg : Led} (N : News h₀ L h (x1 :: x2 :: x5 :: t1 :: t2 :: t3 :: lg)) (bs : Led) (hb : ∀ q ∈ bs, q ∈ lg) :
    ∃ fz', fz' = [x1, x2] ++ bs ∧ x1 ∈ fz' ∧ x2 ∈ fz' ∧ (∀ q ∈ bs, q ∈ fz') ∧ (∀ q ∈ fz', q ∈ x1 :: x2 :: x5 :: t1 :: t2 :: t3 :: lg) :=
  ⟨_, rfl, by simp, by simp, fun q hq => sub_at hq (by walk_at "sub"), fun q hq => by
    exact sub_at hq (by walk_at "sub")⟩
theorem led_back2 {h₀ h : Heap} {L : Addr} {x1 x2 x5 t1 t2 t3 : Addr × Obj} {lg tl : Led} (N : News h₀ L h (tl ++ (x1 :: x2 :: x5 :: t1 :: t2 :: t3 :: lg))) : News h₀ L h (t1 :: t2 :: t3 :: ((tl ++ [x1, x2]) ++ lg)) :=
  news_sub N fun q hq => by
    exact sub_at hq (by walk_at "sub")
theorem allLt_mono {a b : Addr} (h : @LT.lt Nat _ a b) : ∀ {l : Led}, AllLt a l → AllLt b l
  | [], _ => trivial
  | _ :: _, k => ⟨Nat.lt_trans k.1 h, allLt_mono h k.2⟩
theorem goto_cl {rs : List Row} (hcl : ∀ r ∈ rs, ∀ g ∈ goals r, g < rs.length) : ∀ (i g : Nat), rs[i]? = some (Row.goto g) → g < rs.length := fun i g h => hcl _ (List.mem_of_getElem? h) g (by simp [goals])
theorem take_snoc {α : Type} {l : List α} {i : Nat} {r : α} (h : l[i]? = some r) : l.take (i + 1) = l.take i ++ [r] := by
  rw [List.take_succ, h]; rfl
end Mine
-- MACROS
local macro_rules | `(tactic| walk_at "call builtin:list.append") => `(tactic| (k_here; k_dflt (refine' append_led ?F ?N ?U ?z ?_; (case F | N => k_asm); (case U => k_updF); (case z => walk_at "szs"); k_whole); walk_at "t3"))
local macro_rules | `(tactic| walk_at "memN") => `(tactic| first | exact List.Mem.head _ | (refine List.Mem.tail _ ?_; walk_at "memN"))
local macro_rules | `(tactic| k_all) => `(tactic| first | (with_reducible exact off_ne (by assumption)) | (with_reducible assumption) | exact Off.nil | (refine off_cons ?_ ?_; (k_ne); k_all) | exact off_lt (by walk_at "lt") | (refine Ord.off (by with_reducible assumption) (by walk_at "memN")) | (refine off_append ?_ ?_ <;> k_all))
-- END
namespace Mine
theorem turn_none {φ : Nat → Nat} {r : Row} (h : goals r = []) : turnR φ r = r := by cases r <;> first | rfl | cases h
theorem goes_head (r : Row) : ([Str.ofString "goto", Str.ofString "unless"].any (· == headS r)) = !(goals r).isEmpty := by cases r <;> (simp only [headS, goals, List.isEmpty]; decide +kernel)
noncomputable def led (rs : List Row) : List Row := rs.map (turnR (lastGoal rs rs.length))
set_option maxHeartbeats 8000000 in
theorem led_ct (w : World) (fz : Led) (l : Addr) (vs : List Value) (n : Nat) (rs : List Row) (hl : (l, listOf vs.toArray n) ∈ fz) (hrs : RowsIn fz vs rs) (hlen : rs.length ≤ 99) (hcl : ∀ r ∈ rs, ∀ g ∈ goals r, g < rs.length) (c : TB) (hc : TOk fz c) :
    CtM w 128 [.ref l] fz 6 150 c (fun c' tl x => ∃ lf vs' n, x = .ref lf ∧ (lf, listOf vs'.toArray n) ∈ tl ∧ RowsIn (tl ++ fz) vs' (led rs) ∧ TOk (tl ++ fz) c') := by
  intro dp un gd cn cs ca ccd cl outer A₀ base h₀ L m news s p loose mean mg mb Q E B F X N T hk hsub ho1 ho2 hC1 hC2 hd hu ret
  have hlv : vs.length ≤ 99 := by rw [hrs.length]; exact hlen
  have hsq : SeqIn fz l vs := ⟨n, .inl hl⟩
  have hcl2 := goto_cl hcl
  refine wpAny_call ?_
  k_dflt ((refine' code_defC ?k1 ?k2 ?k3 ?k4 ?k5 ?kA ?kF ?kK ?k6 ?k7 ?k8 ?k9 ?kB ?kD ?_ ?c2 ?c3 ?c4; (case kA => exact rfl); (case kF => exact rfl); (case kK => first | exact rfl | assumption); (case k1 => k_asm); (case k2 => k_asm); (case k3 => k_asm); (case k4 => k_asm); (case k5 => k_asm); (case k6 => k_is); (case k7 => k_is); (case k8 => ktr_room); (case k9 => exact BindsTo.of_eq rfl); (case kB => exact rfl); (case kD => decide +kernel); (case c2 => exact rfl); (case c3 => exact rfl); (case c4 => exact rfl); k_whole; intro g9 L9 h7 tk9 cells' FG9 F' N' Y' B9 X9 T9 l0; (try k_lt l0); k_cells Y'; (try dsimp only [List.cons_append, List.nil_append] at N'); (try dsimp only); (try k_fold)))
  (try (refine gen_tk ?_; intro tk0))
  k_steps
  rename_i o9 d9 D9 h9 l9 h8 F9 N9
  have l91 : AllLt D9 (tabs c ++ news) := ⟨l9.2.1, l9.2.2.1, l9.2.2.2⟩
  have l92 : AllLt (L9 + 1 : Nat) (tabs c ++ news) := allLt_succ (allLt_of l0)
  refine turns_list (σ := TB × List Value × Nat) (fm := ((L9 + 1 : Nat), o9) :: news) (fun c => [(123, tabObj (tA c.1.1)), (158, tabObj (tB c.1.2)), (D9, listOf c.2.1.toArray c.2.2)]) [123, 158, D9] (fun _ => []) [Str.ofString "row"]
    (fun i c tl => RowsIn (tl ++ ((L9 + 1 : Nat), o9) :: fz) c.2.1 (led rs |>.take i) ∧ TOk (tl ++ ((L9 + 1 : Nat), o9) :: fz) c.1) (c, [], 0) rfl (fun _ => rfl) (by k_asm) ?N1 ?o1 (List.mem_cons_of_mem _ (hsub _ hl)) (fun _ h => nomatch h) ⟨.nil, hc.mono fun q hq => sub_at hq (by walk_at "sub")⟩ ?turn ?done
  case N1 => exact news_sub (by assumption) (by simp; intros; simp [*])
  case o1 =>
    have l5 : @LT.lt Nat _ 123 L9 ∧ @LT.lt Nat _ 158 L9 ∧ True := ⟨l0 _ (.head _), l0 _ (.tail _ (.head _)), trivial⟩
    intro d hd'
    simp only [List.mem_cons, List.not_mem_nil, or_false] at hd'
    rcases hd' with rfl | rfl | rfl
    · exact List.forall_mem_cons.mpr ⟨by k_ne, by k_all⟩
    · exact List.forall_mem_cons.mpr ⟨by k_ne, by k_all⟩
    · exact List.forall_mem_cons.mpr ⟨by k_ne, by k_all⟩
  case turn =>
    have d8 : o9.data = .cell (some (.ref l)) := d9
    clear d9
    rintro i v ⟨⟨tA1, tB1⟩, ws, nw⟩ tl lg u h tk hi hv ⟨hw, htk⟩ hord hlg hoff F1 N1
    (try dsimp only at hw htk hord F1 N1)
    (try dsimp only [List.cons_append, List.nil_append] at N1)
    have hlg1 : ∀ q ∈ tl ++ ((L9 + 1 : Nat), o9) :: fz, q ∈ lg := fun q hq => hlg q (by
      exact sub_at hq (by walk_at "sub"))
    have hlg2 : (((L9 + 1 : Nat), o9) : Addr × Obj) ∈ lg := hlg1 _ (by walk_at "memS")
    have hsub1 : ∀ q ∈ fz, q ∈ lg := fun q hq => hlg1 q (by walk_at "memS")
    have q1 := hoff 123 (.head _)
    have q2 := hoff 158 (.tail _ (.head _))
    have q3 := hoff D9 (.tail _ (.tail _ (.head _)))
    have l5 : @LT.lt Nat _ 123 D9 ∧ @LT.lt Nat _ 158 D9 ∧ True := ⟨l9.2.1, l9.2.2.1, trivial⟩
    have hi' : i < rs.length := by rw [← hrs.length]; exact hi
    obtain ⟨r, hr⟩ : ∃ r, rs[i]? = some r := ⟨rs[i], by simp [hi']⟩
    obtain ⟨v', hv', hrv⟩ := hrs.get hr
    obtain rfl : v' = v := by rw [hv] at hv'; cases hv'; rfl
    have hwl : ws.length ≤ 99 := by rw [hw.length, List.length_take]; omega
    have hrv' := hrv
    have hrm := List.mem_of_getElem? hr
    have htake : (led rs).take (i + 1) = (led rs).take i ++ [turnR (lastGoal rs rs.length) r] := take_snoc (by simp [led, hr])
    clear hlg hoff F N F9 N9 l0 hord
    obtain ⟨av, tv, wv, nv, rfl, hm, hwv⟩ := row_head hrv
    have hgh := goes_head r
    by_cases hg1 : goals r = []
    · have hS : ¬ (([Str.ofString "goto", Str.ofString "unless"].any (· == headS r)) = true) := by rw [hgh, hg1]; decide
      k_steps
      k_dflt (refine seq_item (fz := fz) (i := 0) (vs := .str (headS r) tv :: wv) (by k_asm) ⟨nv, .inr hm⟩ (fun q hq => by k_mem) rfl (Nat.le_trans (Nat.succ_le_succ hwv) (by decide)) ?_ (by with_unfolding_all rfl))
      k_steps
      exact tend_next ((tA1, tB1), ws ++ [_], nw + 1) [] (by k_asm) (news_sub (by assumption) fun q hq => .tail _ hq) Ord.nil (by ((repeat refine List.forall_mem_cons.mpr ⟨rfl, ?_⟩); exact List.forall_mem_nil _)) (by (intro z hz1 hz2; repeat (first | exact fmap_off hz1 hz2 | exact rfl | exact if_neg (fun e => Bool.false_ne_true (hz2.symm.trans e)) | refine (if_neg (ne_stored hz2 (by decide +kernel))).trans ?_ | refine (if_neg (hz1 _ (.head _))).trans ?_ | refine (if_neg (hz1 _ (.tail _ (.head _)))).trans ?_ | refine (if_neg (hz1 _ (.tail _ (.tail _ (.head _))))).trans ?_))) ⟨by rw [htake, turn_none hg1]; exact hw.snoc (hrv'.mono fun q hq => sub_at hq (by walk_at "sub")), htk⟩
    · have hS : (([Str.ofString "goto", Str.ofString "unless"].any (· == headS r)) = true) := by
        rw [hgh]; cases hgr : goals r with
        | nil => exact absurd hgr hg1
        | cons _ _ => rfl
      clear hgh
      k_steps
      k_dflt (refine seq_item (fz := fz) (i := 0) (vs := .str (headS r) tv :: wv) (by k_asm) ⟨nv, .inr hm⟩ (fun q hq => by k_mem) rfl (Nat.le_trans (Nat.succ_le_succ hwv) (by decide)) ?_ (by with_unfolding_all rfl))
      cases tA1 with
      | none =>
        k_steps
        rename_i f1 c1 oc1 vs1 tt1 ct1 h11 k11 F11 N11 d11 d12 l11 l12 f2 c2 oc2 vs2 tt2 ct2 h21 k21 F21 N21 d21 d22 l21 l22
        obtain ⟨fz', hfz', m1, m2, m3, m4, hbs, hfs⟩ := led_four N21 (tl ++ ((L9 + 1 : Nat), o9) :: fz) hlg1
        have mcell : (((L9 + 1 : Nat), o9) : Addr × Obj) ∈ fz' := hbs _ (by walk_at "memS")
        have hfz2 : ∀ q ∈ fz, q ∈ fz' := fun q hq => hbs _ (by walk_at "memS")
        have hreg : ∀ (n : Nat) (t : Tok), Ct w f1 [.int (n : Int) t] fz' 1 16 (fun tl x => tl = [] ∧ x = .int (n : Int) t) := by
          ((repeat (with_reducible rename News _ _ _ _ => hkx; clear hkx)); (repeat (with_reducible rename Fr _ _ _ _ => hkx; clear hkx)); (repeat (with_reducible rename Below _ _ _ _ => hkx; clear hkx)); (repeat (with_reducible rename Top _ _ _ _ _ _ => hkx; clear hkx)); (repeat (with_reducible rename Heap.In _ _ => hkx; clear hkx)); (repeat (with_reducible rename Ord _ _ => hkx; clear hkx)); (repeat (with_reducible rename Off _ _ => hkx; clear hkx)); (repeat (with_reducible rename AllLt _ _ => hkx; clear hkx)); (repeat (with_reducible rename CodeHd _ _ _ => hkx; clear hkx)); (repeat (with_reducible rename TOk _ _ => hkx; clear hkx)); (repeat (with_reducible rename RowIn _ _ _ => hkx; clear hkx)); (repeat (with_reducible rename (_ ∧ _) => hkx; clear hkx)); (repeat (with_reducible rename ((_ : Nat) < _) => hkx; clear hkx)))
          intro n t dp un gd cn cs ca ccd cl outer A₀ base h₀ L m news s p loose mean mg mb Q E B F X N T hk hsub hd hu ret
          refine wpAny_call ?_
          k_dflt ((refine' kla_code ?k1 ?k2 ?k3 ?k4 ?k5 ?kA ?kF ?kK ?k6 ?k7 ?k8 ?k9 ?kB ?_ ?c2 ?c3 ?c4 ?c5; (case kA => exact rfl); (case kF => exact rfl); (case kK => first | exact rfl | assumption); (case k1 => k_asm); (case k2 => k_asm); (case k3 => k_asm); (case k4 => k_asm); (case k5 => k_asm); (case k6 => k_mem); (case k7 => exact codeRec_news (by k_asm) (by k_mem) (by assumption) (by assumption)); (case k8 => ktr_room); (case k9 => exact rfl); (case c5 => decide); (case kB => exact locs rfl); (case c2 => exact rfl); (case c3 => exact rfl); (case c4 => exact rfl); k_whole; intro g' L' h' FG' F' N' B' X' T'; (try dsimp only); (try k_fold)))
          k_steps
          exact ret _ [] _ _ (by k_asm) (by k_asm) Ord.nil ⟨rfl, rfl⟩
        have hgoal : ∀ g < rs.length, ∀ t : Tok, Ct w f2 [.int (g : Int) t] fz' 2 40 (fun tl x => tl = [] ∧ ∃ t', x = .int (lastGoal rs rs.length g : Int) t') := by
          ((repeat (with_reducible rename News _ _ _ _ => hkx; clear hkx)); (repeat (with_reducible rename Fr _ _ _ _ => hkx; clear hkx)); (repeat (with_reducible rename Below _ _ _ _ => hkx; clear hkx)); (repeat (with_reducible rename Top _ _ _ _ _ _ => hkx; clear hkx)); (repeat (with_reducible rename Heap.In _ _ => hkx; clear hkx)); (repeat (with_reducible rename Ord _ _ => hkx; clear hkx)); (repeat (with_reducible rename Off _ _ => hkx; clear hkx)); (repeat (with_reducible rename AllLt _ _ => hkx; clear hkx)); (repeat (with_reducible rename CodeHd _ _ _ => hkx; clear hkx)); (repeat (with_reducible rename TOk _ _ => hkx; clear hkx)); (repeat (with_reducible rename RowIn _ _ _ => hkx; clear hkx)); (repeat (with_reducible rename (_ ∧ _) => hkx; clear hkx)); (repeat (with_reducible rename ((_ : Nat) < _) => hkx; clear hkx)))
          intro g hg t dp un gd cn cs ca ccd cl outer A₀ base h₀ L m news s p loose mean mg mb Q E B F X N T hk hsub hd hu ret
          have hsubf : ∀ q ∈ fz, q ∈ news := fun q hq => hsub q (hfz2 q hq)
          refine wpAny_call ?_
          k_dflt ((refine' kla_code ?k1 ?k2 ?k3 ?k4 ?k5 ?kA ?kF ?kK ?k6 ?k7 ?k8 ?k9 ?kB ?_ ?c2 ?c3 ?c4 ?c5; (case kA => exact rfl); (case kF => exact rfl); (case kK => first | exact rfl | assumption); (case k1 => k_asm); (case k2 => k_asm); (case k3 => k_asm); (case k4 => k_asm); (case k5 => k_asm); (case k6 => k_mem); (case k7 => exact codeRec_news (by k_asm) (by k_mem) (by assumption) (by assumption)); (case k8 => ktr_room); (case k9 => exact rfl); (case c5 => decide); (case kB => exact locs rfl); (case c2 => exact rfl); (case c3 => exact rfl); (case c4 => exact rfl); k_whole; intro g' L' h' FG' F' N' B' X' T'; (try dsimp only); (try k_fold)))
          iterate 4 walk1
          (k_dflt (refine' nameX_F ?N ?c ?m ?d ?_ ?a ?b; (case a => rfl); (case b => rfl); (case N => k_asm); (case c => rfl); (case m => k_mem); (case d => k_asm); k_whole))
          k_steps
          repeat' ((refine stop_out ?_; (with_reducible show wpAny _ _ (call (Value.ref 121) [_, _]) _ _ _); k_dflt (refine' ct_use0 (lastGoal_ct _ _ _ _ _ ?c0 ?c1 ?c2 ?c3 _ ?c4 _) ?k1 ?k2 ?k3 ?k4 ?k5 ?k6 ?k7 ?k8 ?k9 ?_; (case c0 => assumption); (case c1 => assumption); (case c2 => assumption); (case c3 => assumption); (case c4 => assumption); walk_at "sideC"); intro r' tl' h' tk' F' N' o' P'; obtain ⟨e9, t9, e8⟩ := P'; subst e9; subst e8; clear o'; (try dsimp only [List.nil_append] at N')); k_steps)
          exact ret _ [] _ _ (by k_asm) (by k_asm) Ord.nil ⟨rfl, _, rfl⟩
        refine stop_out ?_
        refine' ct_use0 (turned_ct w fz' _ _ (hrv'.mono hfz2) hg1 f1 f2 ?m1 ?m2 (lastGoal rs rs.length) hreg (fun g hg => hgoal g (hcl _ hrm g hg))) ?k0 ?k1 ?k2 N21 ?k4 ?k5 hfs ?k8 ?k9 ?_
        (case m1 => assumption)
        (case m2 => assumption)
        (case k0 => assumption)
        (case k1 => k_asm)
        (case k2 => k_asm)
        (case k4 => k_asm)
        (case k5 => first | exact rfl | assumption)
        (case k8 => ktr_room)
        (case k9 => ktr_units)
        intro rr tr hr9 kr Fr9 Nr or Pr
        have Nq := news_head (o' := tabObj (tA (some (c1, c2)))) (led_back4 Nr) (by first | exact rfl | simp [tA])
        clear Nr N21 N11 hreg hgoal
        have hoD : Off D9 tr := Ord.off or (by walk_at "memN")
        k_steps
        have a1 : AllLt c1 ((123, tabObj (tA none)) :: (158, tabObj (tB tB1)) :: (D9, listOf ws.toArray nw) :: lg) := ⟨l11.2.1, l11.2.2.1, l11.2.2.2.1, l11.2.2.2.2⟩
        have a3 : AllLt c2 ((123, tabObj (tA none)) :: (158, tabObj (tB tB1)) :: (D9, listOf ws.toArray nw) :: lg) := ⟨l21.2.2.2.1, l21.2.2.2.2.1, l21.2.2.2.2.2.1, l21.2.2.2.2.2.2⟩
        refine tend_next ((some (c1, c2), tB1), ws ++ [rr], nw + 1) (tr ++ [_, _, _, _]) (by k_asm) (by assumption) ?_ (by ((repeat refine List.forall_mem_cons.mpr ⟨rfl, ?_⟩); exact List.forall_mem_nil _)) (by (intro z hz1 hz2; repeat (first | exact fmap_off hz1 hz2 | exact rfl | exact if_neg (fun e => Bool.false_ne_true (hz2.symm.trans e)) | refine (if_neg (ne_stored hz2 (by decide +kernel))).trans ?_ | refine (if_neg (hz1 _ (.head _))).trans ?_ | refine (if_neg (hz1 _ (.tail _ (.head _)))).trans ?_ | refine (if_neg (hz1 _ (.tail _ (.tail _ (.head _))))).trans ?_))) ?_
        · exact Ord.append (or.subA fun q hq => by
            simp only [List.mem_append, List.mem_cons, List.not_mem_nil, or_false] at hq
            rcases hq with (h | h | h) | h
            · exact ⟨_, .tail _ (.tail _ (.tail _ (.tail _ (.tail _ (.head _))))), by rw [h]⟩
            all_goals exact ⟨q, by simp [h], rfl⟩) (Ord.cons (allLt_mono l22 a3) (Ord.cons a3 (Ord.cons (allLt_mono l12 a1) (Ord.cons a1 Ord.nil))))
        · subst hfz'
          refine ⟨?_, ?_⟩
          · rw [htake]
            refine RowsIn.snoc (hw.mono fun q hq => ?_) (Pr.mono fun q hq => ?_)
            · exact sub_at hq (by walk_at "sub")
            · exact sub_at hq (by walk_at "sub")
          · refine ⟨fun a b e => ?_, fun a b e => ?_⟩
            · cases e
              exact ⟨⟨_, _, _, by simp, d11, d12⟩, ⟨_, _, _, by simp, d21, d22⟩⟩
            · exact ⟨(htk.2 a b e).1.mono fun q hq => by
                exact sub_at hq (by walk_at "sub"), (htk.2 a b e).2.mono fun q hq => by
                exact sub_at hq (by walk_at "sub")⟩
      | some ab =>
        obtain ⟨c1, c2⟩ := ab
        k_steps
        rename_i f1 ct1 h11 k11 F11 N11 l11 f2 ct2 h21 k21 F21 N21 l21
        obtain ⟨fz', hfz', m1, m3, hbs, hfs⟩ := led_two N21 (tl ++ ((L9 + 1 : Nat), o9) :: fz) hlg1
        obtain ⟨⟨oc1, vs1, tt1, m2', d11, d12⟩, ⟨oc2, vs2, tt2, m4', d21, d22⟩⟩ := htk.1 c1 c2 rfl
        have m2 := hbs _ m2'
        have m4 := hbs _ m4'
        clear m2' m4'
        have mcell : (((L9 + 1 : Nat), o9) : Addr × Obj) ∈ fz' := hbs _ (by walk_at "memS")
        have hfz2 : ∀ q ∈ fz, q ∈ fz' := fun q hq => hbs _ (by walk_at "memS")
        have hreg : ∀ (n : Nat) (t : Tok), Ct w f1 [.int (n : Int) t] fz' 1 16 (fun tl x => tl = [] ∧ x = .int (n : Int) t) := by
          ((repeat (with_reducible rename News _ _ _ _ => hkx; clear hkx)); (repeat (with_reducible rename Fr _ _ _ _ => hkx; clear hkx)); (repeat (with_reducible rename Below _ _ _ _ => hkx; clear hkx)); (repeat (with_reducible rename Top _ _ _ _ _ _ => hkx; clear hkx)); (repeat (with_reducible rename Heap.In _ _ => hkx; clear hkx)); (repeat (with_reducible rename Ord _ _ => hkx; clear hkx)); (repeat (with_reducible rename Off _ _ => hkx; clear hkx)); (repeat (with_reducible rename AllLt _ _ => hkx; clear hkx)); (repeat (with_reducible rename CodeHd _ _ _ => hkx; clear hkx)); (repeat (with_reducible rename TOk _ _ => hkx; clear hkx)); (repeat (with_reducible rename RowIn _ _ _ => hkx; clear hkx)); (repeat (with_reducible rename (_ ∧ _) => hkx; clear hkx)); (repeat (with_reducible rename ((_ : Nat) < _) => hkx; clear hkx)))
          intro n t dp un gd cn cs ca ccd cl outer A₀ base h₀ L m news s p loose mean mg mb Q E B F X N T hk hsub hd hu ret
          refine wpAny_call ?_
          k_dflt ((refine' kla_code ?k1 ?k2 ?k3 ?k4 ?k5 ?kA ?kF ?kK ?k6 ?k7 ?k8 ?k9 ?kB ?_ ?c2 ?c3 ?c4 ?c5; (case kA => exact rfl); (case kF => exact rfl); (case kK => first | exact rfl | assumption); (case k1 => k_asm); (case k2 => k_asm); (case k3 => k_asm); (case k4 => k_asm); (case k5 => k_asm); (case k6 => k_mem); (case k7 => exact codeRec_news (by k_asm) (by k_mem) (by assumption) (by assumption)); (case k8 => ktr_room); (case k9 => exact rfl); (case c5 => decide); (case kB => exact locs rfl); (case c2 => exact rfl); (case c3 => exact rfl); (case c4 => exact rfl); k_whole; intro g' L' h' FG' F' N' B' X' T'; (try dsimp only); (try k_fold)))
          k_steps
          exact ret _ [] _ _ (by k_asm) (by k_asm) Ord.nil ⟨rfl, rfl⟩
        have hgoal : ∀ g < rs.length, ∀ t : Tok, Ct w f2 [.int (g : Int) t] fz' 2 40 (fun tl x => tl = [] ∧ ∃ t', x = .int (lastGoal rs rs.length g : Int) t') := by
          ((repeat (with_reducible rename News _ _ _ _ => hkx; clear hkx)); (repeat (with_reducible rename Fr _ _ _ _ => hkx; clear hkx)); (repeat (with_reducible rename Below _ _ _ _ => hkx; clear hkx)); (repeat (with_reducible rename Top _ _ _ _ _ _ => hkx; clear hkx)); (repeat (with_reducible rename Heap.In _ _ => hkx; clear hkx)); (repeat (with_reducible rename Ord _ _ => hkx; clear hkx)); (repeat (with_reducible rename Off _ _ => hkx; clear hkx)); (repeat (with_reducible rename AllLt _ _ => hkx; clear hkx)); (repeat (with_reducible rename CodeHd _ _ _ => hkx; clear hkx)); (repeat (with_reducible rename TOk _ _ => hkx; clear hkx)); (repeat (with_reducible rename RowIn _ _ _ => hkx; clear hkx)); (repeat (with_reducible rename (_ ∧ _) => hkx; clear hkx)); (repeat (with_reducible rename ((_ : Nat) < _) => hkx; clear hkx)))
          intro g hg t dp un gd cn cs ca ccd cl outer A₀ base h₀ L m news s p loose mean mg mb Q E B F X N T hk hsub hd hu ret
          have hsubf : ∀ q ∈ fz, q ∈ news := fun q hq => hsub q (hfz2 q hq)
          refine wpAny_call ?_
          k_dflt ((refine' kla_code ?k1 ?k2 ?k3 ?k4 ?k5 ?kA ?kF ?kK ?k6 ?k7 ?k8 ?k9 ?kB ?_ ?c2 ?c3 ?c4 ?c5; (case kA => exact rfl); (case kF => exact rfl); (case kK => first | exact rfl | assumption); (case k1 => k_asm); (case k2 => k_asm); (case k3 => k_asm); (case k4 => k_asm); (case k5 => k_asm); (case k6 => k_mem); (case k7 => exact codeRec_news (by k_asm) (by k_mem) (by assumption) (by assumption)); (case k8 => ktr_room); (case k9 => exact rfl); (case c5 => decide); (case kB => exact locs rfl); (case c2 => exact rfl); (case c3 => exact rfl); (case c4 => exact rfl); k_whole; intro g' L' h' FG' F' N' B' X' T'; (try dsimp only); (try k_fold)))
          iterate 4 walk1
          (k_dflt (refine' nameX_F ?N ?c ?m ?d ?_ ?a ?b; (case a => rfl); (case b => rfl); (case N => k_asm); (case c => rfl); (case m => k_mem); (case d => k_asm); k_whole))
          k_steps
          repeat' ((refine stop_out ?_; (with_reducible show wpAny _ _ (call (Value.ref 121) [_, _]) _ _ _); k_dflt (refine' ct_use0 (lastGoal_ct _ _ _ _ _ ?c0 ?c1 ?c2 ?c3 _ ?c4 _) ?k1 ?k2 ?k3 ?k4 ?k5 ?k6 ?k7 ?k8 ?k9 ?_; (case c0 => assumption); (case c1 => assumption); (case c2 => assumption); (case c3 => assumption); (case c4 => assumption); walk_at "sideC"); intro r' tl' h' tk' F' N' o' P'; obtain ⟨e9, t9, e8⟩ := P'; subst e9; subst e8; clear o'; (try dsimp only [List.nil_append] at N')); k_steps)
          exact ret _ [] _ _ (by k_asm) (by k_asm) Ord.nil ⟨rfl, _, rfl⟩
        refine stop_out ?_
        refine' ct_use0 (turned_ct w fz' _ _ (hrv'.mono hfz2) hg1 f1 f2 ?m1 ?m2 (lastGoal rs rs.length) hreg (fun g hg => hgoal g (hcl _ hrm g hg))) ?k0 ?k1 ?k2 N21 ?k4 ?k5 hfs ?k8 ?k9 ?_
        (case m1 => assumption)
        (case m2 => assumption)
        (case k0 => assumption)
        (case k1 => k_asm)
        (case k2 => k_asm)
        (case k4 => k_asm)
        (case k5 => first | exact rfl | assumption)
        (case k8 => ktr_room)
        (case k9 => ktr_units)
        intro rr tr hr9 kr Fr9 Nr or Pr
        have Nq := led_back2 Nr
        clear Nr N21 N11 hreg hgoal
        have hoD : Off D9 tr := Ord.off or (by walk_at "memN")
        k_steps
        have a1 : AllLt f1 ((123, tabObj (tA (some (c1, c2)))) :: (158, tabObj (tB tB1)) :: (D9, listOf ws.toArray nw) :: lg) := ⟨l11.2.1, l11.2.2.1, l11.2.2.2.1, l11.2.2.2.2⟩
        have a3 : AllLt f2 ((123, tabObj (tA (some (c1, c2)))) :: (158, tabObj (tB tB1)) :: (D9, listOf ws.toArray nw) :: lg) := ⟨l21.2.2.1, l21.2.2.2.1, l21.2.2.2.2.1, l21.2.2.2.2.2⟩
        refine tend_next ((some (c1, c2), tB1), ws ++ [rr], nw + 1) (tr ++ [_, _]) (by k_asm) (by assumption) ?_ (by ((repeat refine List.forall_mem_cons.mpr ⟨rfl, ?_⟩); exact List.forall_mem_nil _)) (by (intro z hz1 hz2; repeat (first | exact fmap_off hz1 hz2 | exact rfl | exact if_neg (fun e => Bool.false_ne_true (hz2.symm.trans e)) | refine (if_neg (ne_stored hz2 (by decide +kernel))).trans ?_ | refine (if_neg (hz1 _ (.head _))).trans ?_ | refine (if_neg (hz1 _ (.tail _ (.head _)))).trans ?_ | refine (if_neg (hz1 _ (.tail _ (.tail _ (.head _))))).trans ?_))) ?_
        · exact Ord.append (or.sub fun q hq => by
            exact sub_at hq (by walk_at "sub")) (Ord.cons a3 (Ord.cons a1 Ord.nil))
        · subst hfz'
          refine ⟨?_, ?_⟩
          · rw [htake]
            refine RowsIn.snoc (hw.mono fun q hq => ?_) (Pr.mono fun q hq => ?_)
            · exact sub_at hq (by walk_at "sub")
            · exact sub_at hq (by walk_at "sub")
          · exact htk.mono fun q hq => by
              exact sub_at hq (by walk_at "sub")
  case done =>
    rintro ⟨c', ws, nw⟩ tl u h tk ⟨hw, htk⟩ hord F1 N1
    (try dsimp only at hw htk hord F1 N1)
    (try dsimp only [List.cons_append, List.nil_append] at N1)
    k_steps
    rw [List.take_of_length_le (by rw [hrs.length]; simp [led])] at hw
    refine ret _ c' (tl ++ [(D9, listOf ws.toArray nw), ((L9 + 1 : Nat), o9)]) _ _ (by k_asm) (news_sub (by assumption) ?_) ?_ ⟨D9, ws, nw, rfl, by simp, hw.mono ?_, htk.mono ?_⟩
    · intro q hq
      exact sub_at hq (by walk_at "sub")
    · refine Ord.append (hord.sub fun q hq => ?_) (Ord.cons l91 (Ord.cons l92 Ord.nil))
      exact sub_at hq (by walk_at "sub")
    all_goals (
      intro q hq
      exact sub_at hq (by walk_at "sub"))
end Mine

namespace Mine
section
variable {prog : Program} {w : World} {A : Around} {E : Value → Shared → Prop} {s : Shared} {h₀ : Heap} {L : Addr} {m : Str → Option Value} {news : Led} {env : Env} {Q : Flow → Shared → Prop}

/-- a while loop over abstract states; mu is what turns, the rest stands -/
theorem while_inv {σ : Type} {test : PySem.Expr} {body : List Stmt} {pos : Pos} {m₀ : Str → Option Value} {fm : Led}
    (mu : σ → Led) (adr : List Addr) (ps : σ → List (Str × Value)) (stored : List Str) (Inv : σ → Led → Prop) (μ : σ → Nat) (c₀ : σ)
    (hadr : ∀ c, (mu c).map (·.1) = adr) (F : Fr h₀ L s.heap m₀) (N : News h₀ L s.heap (mu c₀ ++ fm)) (hoff : ∀ d ∈ adr, Off d fm)
    (hps : ∀ p ∈ ps c₀, m₀ p.1 = some p.2) (h0 : Inv c₀ [])
    (turn : ∀ c tl lg u h tk, Inv c tl → Ord (mu c₀ ++ fm) tl → (∀ q ∈ tl ++ fm, q ∈ lg) → (∀ d ∈ adr, Off d lg) → Fr h₀ L h (fmap (ps c) stored u m₀) → News h₀ L h (mu c ++ lg) →
      (∀ q ∈ lg, q ∈ tl ++ fm) →
      wpAny (model prog w) A (isTrue test env (eval test env)) (fun b s₂ => if b = true then wpAny (model prog w) A (execs body env) (TEnd h₀ L mu ps stored m₀ (fun c' tl' => Inv c' tl' ∧ μ c' < μ c) c lg tl { s with heap := h, toks := tk } Q) E s₂ else Q .next s₂) E { s with heap := h, toks := tk })
    (hE : PassesOwn (model prog w) A env E := by passes_own) :
    wpAny (model prog w) A (exec (.While test body [] pos) env) Q E s := by
  refine While_inv2 (fun n m₁ nx => ∃ c tl, nx = mu c ++ (tl ++ fm) ∧ μ c = n ∧ Ord (mu c₀ ++ fm) tl ∧ (∀ p ∈ ps c, m₁ p.1 = some p.2) ∧ (∀ z, (∀ p ∈ ps c, z ≠ p.1) → stored.contains z = false → m₁ z = m₀ z) ∧ Inv c tl) F N ⟨c₀, [], rfl, rfl, Ord.nil, hps, fun _ _ _ => rfl, h0⟩ ?_ hE
  rintro n m₁ nx h tk F₁ N₁ ⟨c, tl, rfl, rfl, otl, hp1, hp2, hI⟩
  have hoffl : ∀ d ∈ adr, Off d (tl ++ fm) := fun d hd => by
    refine Off.append (fun p hp e => ?_) (hoff d hd)
    rw [← hadr c₀] at hd
    obtain ⟨q, hq, e'⟩ := List.mem_map.mp hd
    have := otl q (List.mem_append_left _ hq) p hp
    have e2 : q.1 = p.1 := e'.trans e.symm
    rw [e2] at this
    exact Nat.lt_irrefl _ this
  have F₂ : Fr h₀ L h (fmap (ps c) stored m₁ m₀) := by rw [fmap_self hp1 hp2]; exact F₁
  refine wpAny_mono (turn c tl (tl ++ fm) m₁ h tk hI otl (fun _ hq => hq) hoffl F₂ N₁ fun _ hq => hq) (fun b s₂ p => ?_) fun _ _ x => x
  cases b with
  | false => simpa using p
  | true =>
    simp only [if_true] at p ⊢
    refine wpAny_mono p (fun f s₃ q => ?_) fun _ _ x => x
    have fin : (∃ h' tk' m' c' t2, s₃ = { s with heap := h', toks := tk' } ∧ Fr h₀ L h' m' ∧ News h₀ L h' (mu c' ++ (t2 ++ (tl ++ fm))) ∧ Ord (mu c ++ (tl ++ fm)) t2 ∧ (∀ p ∈ ps c', m' p.1 = some p.2) ∧ (∀ z, (∀ p ∈ ps c', z ≠ p.1) → stored.contains z = false → m' z = m₀ z) ∧ Inv c' (t2 ++ tl) ∧ μ c' < μ c) →
        ∃ h' tk' m₂ news₂ n', s₃ = { s with heap := h', toks := tk' } ∧ Fr h₀ L h' m₂ ∧ News h₀ L h' news₂ ∧ n' < μ c ∧ ∃ c tl, news₂ = mu c ++ (tl ++ fm) ∧ μ c = n' ∧ Ord (mu c₀ ++ fm) tl ∧ (∀ p ∈ ps c, m₂ p.1 = some p.2) ∧ (∀ z, (∀ p ∈ ps c, z ≠ p.1) → stored.contains z = false → m₂ z = m₀ z) ∧ Inv c tl := by
      rintro ⟨h', tk', m', c', t2, rfl, F', N', o2, q1, q2, hI', hlt⟩
      exact ⟨h', tk', m', mu c' ++ ((t2 ++ tl) ++ fm), μ c', rfl, F', by rw [List.append_assoc]; exact N', hlt, c', t2 ++ tl, rfl, rfl, Ord.append (ord_mu hadr o2 fun q hq => List.mem_append_right _ hq) otl, q1, q2, hI'⟩
    cases f with
    | ret v => exact q
    | brk => exact q
    | next => exact fin q
    | cont => exact fin q
end
section
variable {prog : Program} {w : World} {A : Around} {E : Value → Shared → Prop} {s : Shared} {h₀ : Heap} {L : Addr} {m : Str → Option Value} {news : Led}
theorem UpdF.upd {d : Addr} {o o' : Obj} {g : Obj → Led} : ∀ {l : Led}, UpdF d o l g → Upd d o o' l (g o')
  | _, .head h => .head h
  | _, .tail h r => .tail h (UpdF.upd r)
theorem pop_led {D : Addr} {vs : List Value} {v : Value} {n : Nat} {g : Obj → Led} {Q : Value → Shared → Prop} (F : Fr h₀ L s.heap m) (N : News h₀ L s.heap news) (U : UpdF D (listOf (vs ++ [v]).toArray n) news g) (hsz : vs.length + 1 ≤ sizeLine)
    (h : ∀ h', Fr h₀ L h' m → News h₀ L h' (g (listOf vs.toArray (n + 1))) → Q v { s with heap := h' }) :
    wpAny (model prog w) A (call (.builtin "list.pop") [.ref D]) Q E s := by
  have hl : ∀ (vs : List Value), kl_last (vs ++ [v]) = some (vs, v) := by
    intro vs
    induction vs with
    | nil => rfl
    | cons x xs ih =>
      show (match kl_last (xs ++ [v]) with
        | some (p, y) => some (x :: p, y)
        | none => some ([], x)) = some (x :: xs, v)
      rw [ih]
  exact kl_pop F N (by simpa using hl vs) (UpdF.upd U) (by simpa using hsz) h
theorem extend_led {D b : Addr} {vs us : List Value} {n n2 : Nat} {g : Obj → Led} {Q : Value → Shared → Prop} (F : Fr h₀ L s.heap m) (N : News h₀ L s.heap news) (hb : (b, listOf us.toArray n2) ∈ news) (U : UpdF D (listOf vs.toArray n) news g) (hsz : vs.length + us.length ≤ 9999)
    (h : ∀ h' n', Fr h₀ L h' m → News h₀ L h' (g (listOf (vs ++ us).toArray n')) → Q .none { s with heap := h' }) :
    wpAny (model prog w) A (call (.builtin "list.extend") [.ref D, .ref b]) Q E s := by
  have a1 : ¬(!vs.toArray.isEmpty && Builtin.List.listTooLong (vs.toArray.size + us.toArray.size)) = true := by
    simp [Builtin.List.listTooLong]
    intro _
    simp only [sizeLine_eq] <;> omega
  have a2 : vs.toArray.toList.length ≤ sizeLine := by simp only [List.size_toArray, sizeLine_eq]; omega
  have a3 : vs.toArray.size + us.toArray.size ≤ sizeLine + 1 := by simp only [List.size_toArray, sizeLine_eq]; omega
  cases us with
  | nil =>
    refine kxn_extend F N hb rfl (UpdF.upd U) a1 a2 a3 fun h' F' N' => h h' n F' (by simpa using N')
  | cons u us =>
    exact kl_extend F N hb (l := vs ++ u :: us) rfl (by simp) (UpdF.upd U) a1 a2 a3 fun h' F' N' => h h' (n + 1) F' N'
theorem set_led {D : Addr} {vs : List Value} {i n : Nat} {t : Tok} {v : Value} {g : Obj → Led} {Q : Unit → Shared → Prop} (F : Fr h₀ L s.heap m) (N : News h₀ L s.heap news) (U : UpdF D (listOf vs.toArray n) news g) (hi : i < vs.length) (hsz : vs.length ≤ 9999)
    (h : ∀ h', Fr h₀ L h' m → News h₀ L h' (g (listOf (vs.set i v).toArray n)) → Q () { s with heap := h' }) :
    wpAny (model prog w) A (setItem (.ref D) (.int (i : Int) t) v) Q E s := by
  obtain ⟨pre, post, rfl, hg, a, b⟩ := U.split
  have z := N (D, listOf vs.toArray n) (List.mem_append.mpr (.inr (.head _)))
  refine ki_setAt z.1 (by omega) (by omega) (by simpa using hi) (h _ (F.change (Heap.SameBut.update ..) z.2.1 z.2.2) ?_)
  rw [hg]
  refine ki_turn _ N a b ?_ ?_
  · show vs.toArray.setIfInBounds (i : Int).toNat v = (vs.set i v).toArray
    apply Array.toList_inj.mp
    simp
  · simp
theorem mul_led {l : Addr} {v : Value} {n k : Nat} {u : Tok} {Q : Value → Shared → Prop} (F : Fr h₀ L s.heap m) (N : News h₀ L s.heap news) (hl : (l, listOf #[v] k) ∈ news) (hsz : n ≤ 256)
    (h : ∀ D h', Fr h₀ L h' m → News h₀ L h' ((D, listOf (List.replicate n v).toArray 0) :: news) → (∀ p ∈ news, p.1 < D) → Q (.ref D) { s with heap := h' }) :
    wpAny (model prog w) A (binaryOp .Mult (.ref l) (.int (n : Int) u)) Q E s := by
  refine KMa.mul (vs := [v]) F N ⟨_, (N _ hl).1, rfl, k, rfl⟩ (by omega) (by omega) (by simpa using hsz) ?_ h
  simp only [Int.toNat_natCast]
  clear hsz h
  induction n with
  | zero => rfl
  | succ n ih => rw [List.replicate_succ, List.flatten_cons, ih]; rfl

theorem readsAll_ints {h : Heap} {vs : List Value} {ns : List Nat} (k : IntsV vs ns) : ReadsAll h vs (ns.map fun (n : Nat) => PyData.int (n : Int)) [] := by
  induction k with
  | nil => exact .nil
  | cons _ ih => exact ReadsAll.cons (Reads.int _ _) ih
theorem eqvAll_nil : ∀ {xs : List PyData}, PyData.eqvAll xs [] = xs.isEmpty
  | [] => rfl
  | _ :: _ => rfl
theorem lay_ints (ns : List Nat) : PySem.SeqAt.shaped (.list (ns.map fun (n : Nat) => PyData.int (n : Int))) = true := by
  have h : PyData.canLayAll0 (ns.map fun (n : Nat) => PyData.int (n : Int)) = true ∧ PyData.depthAll (ns.map fun (n : Nat) => PyData.int (n : Int)) = 0 := by
    induction ns with
    | nil => simp [PyData.canLayAll0, PyData.depthAll]
    | cons n ns ih => simp [PyData.canLayAll0, PyData.depthAll, PyData.canLay0, PyData.depth, ih]
  simp [PySem.SeqAt.shaped, PyData.canLay0, PyData.depth, h]
theorem ne_nil_led {l b : Addr} {vs : List Value} {ns : List Nat} {n n2 : Nat} {Q : Value → Shared → Prop} (N : News h₀ L s.heap news) (hl : (l, listOf vs.toArray n) ∈ news) (hb : (b, listOf #[] n2) ∈ news) (hi : IntsV vs ns) (hu : A.units + 64 < cLine)
    (h : Q (.bool (!ns.isEmpty)) s) : wpAny (model prog w) A (compareOp .NotEq (.ref l) (.ref b)) Q E s := by
  refine ne_dataH (da := .list (ns.map fun (n : Nat) => PyData.int (n : Int))) (db := .list []) (Reads.list (N _ hl).1 rfl rfl (readsAll_ints hi)) (Reads.list (N _ hb).1 rfl rfl ReadsAll.nil) (lay_ints ns) (by decide) hu ?_
  simp only [PyData.eqv, eqvAll_nil]
  simpa using h
end
end Mine

namespace Mine
inductive Reach (rs : List Row) : Nat → Prop
  | zero : Reach rs 0
  | step {i j : Nat} {r : Row} : Reach rs i → rs[i]? = some r → j ∈ follows r i → Reach rs j
noncomputable def Closed (rs : List Row) : Prop := 0 < rs.length ∧ ∀ (i : Nat) (r : Row), rs[i]? = some r → ∀ j ∈ follows r i, j < rs.length
theorem follows_len (r : Row) (i : Nat) : (follows r i).length ≤ 2 := by cases r <;> simp [follows, goals, ends]
theorem intsV_split {vs : List Value} {ns : List Nat} (h : IntsV vs ns) (hn : ns ≠ []) : ∃ vs' t ns' a, vs = vs' ++ [.int (a : Nat) t] ∧ ns = ns' ++ [a] ∧ IntsV vs' ns' := by
  induction h with
  | nil => exact absurd rfl hn
  | @cons t a vs ns h ih =>
    cases h with
    | nil => exact ⟨[], _, [], _, rfl, rfl, .nil⟩
    | cons k =>
      obtain ⟨vs', t', ns', a', e1, e2, k'⟩ := ih (by simp)
      exact ⟨_ :: vs', t', _ :: ns', a', by rw [e1]; rfl, by rw [e2]; rfl, .cons k'⟩
theorem count_set : ∀ {bs : List Bool} {i : Nat}, bs[i]? = some false → (bs.set i true).count false + 1 = bs.count false
  | [], _, h => by simp at h
  | b :: bs, 0, h => by
    have : b = false := by simpa using h
    subst this
    simp
  | b :: bs, i + 1, h => by
    have ih := count_set (bs := bs) (i := i) (by simpa using h)
    simp only [List.set_cons_succ, List.count_cons]
    omega
structure RInv (rs : List Row) (bs : List Bool) (ns : List Nat) : Prop where
  len : bs.length = rs.length
  got : ∀ i, bs[i]? = some true → Reach rs i
  todo : ∀ i ∈ ns, Reach rs i ∧ i < rs.length
  shut : ∀ i r, bs[i]? = some true → rs[i]? = some r → ∀ j ∈ follows r i, bs[j]? = some true ∨ j ∈ ns
  zero : bs[0]? = some true ∨ 0 ∈ ns
  room : ns.length + 2 * bs.count false ≤ 2 * rs.length + 1
theorem RInv.start {rs : List Row} (h : Closed rs) : RInv rs (List.replicate rs.length false) [0] where
  len := by simp
  got := fun i e => by
    rw [List.getElem?_replicate] at e
    split at e <;> simp at e
  todo := fun i hi => by rw [List.mem_singleton.mp hi]; exact ⟨.zero, h.1⟩
  shut := fun i r e => by
    rw [List.getElem?_replicate] at e
    split at e <;> simp at e
  zero := .inr (by simp)
  room := by simp; omega
theorem RInv.seen {rs : List Row} {bs : List Bool} {ns : List Nat} {a : Nat} (h : RInv rs bs (ns ++ [a])) (e : bs[a]? = some true) : RInv rs bs ns where
  len := h.len
  got := h.got
  todo := fun i hi => h.todo i (by simp [hi])
  shut := fun i r e1 e2 j hj => by
    rcases h.shut i r e1 e2 j hj with q | q
    · exact .inl q
    · rcases List.mem_append.mp q with q | q
      · exact .inr q
      · rw [List.mem_singleton.mp q]; exact .inl e
  zero := by
    rcases h.zero with q | q
    · exact .inl q
    · rcases List.mem_append.mp q with q | q
      · exact .inr q
      · rw [List.mem_singleton.mp q]; exact .inl e
  room := by have := h.room; simp at this; omega
theorem RInv.mark {rs : List Row} {bs : List Bool} {ns : List Nat} {a : Nat} {r : Row} (hc : Closed rs) (h : RInv rs bs (ns ++ [a])) (e : bs[a]? = some false) (er : rs[a]? = some r) : RInv rs (bs.set a true) (ns ++ follows r a) := by
  have ha : a < bs.length := (List.getElem?_eq_some_iff.mp e).1
  have hra : Reach rs a := (h.todo a (by simp)).1
  have hset : ∀ i, (bs.set a true)[i]? = some true ↔ i = a ∨ bs[i]? = some true := fun i => by
    by_cases q : i = a
    · subst q; simp [ha]
    · rw [List.getElem?_set_ne (Ne.symm q)]; simp [q]
  refine ⟨by simp [h.len], fun i hi => ?_, fun i hi => ?_, fun i r' h1 h2 j hj => ?_, ?_, ?_⟩
  · rcases (hset i).mp hi with rfl | q
    · exact hra
    · exact h.got i q
  · rcases List.mem_append.mp hi with q | q
    · exact h.todo i (by simp [q])
    · exact ⟨.step hra er q, hc.2 a r er i q⟩
  · rcases (hset i).mp h1 with rfl | q
    · rw [er] at h2; cases h2
      exact .inr (by simp [hj])
    · rcases h.shut i r' q h2 j hj with q | q
      · exact .inl ((hset j).mpr (.inr q))
      · rcases List.mem_append.mp q with q | q
        · exact .inr (by simp [q])
        · rw [List.mem_singleton.mp q]; exact .inl ((hset a).mpr (.inl rfl))
  · rcases h.zero with q | q
    · exact .inl ((hset 0).mpr (.inr q))
    · rcases List.mem_append.mp q with q | q
      · exact .inr (by simp [q])
      · have q' := List.mem_singleton.mp q
        exact .inl ((hset 0).mpr (.inl q'))
  · have h1 := h.room
    have h2 := count_set e
    have h3 := follows_len r a
    simp at h1 ⊢
    omega
theorem RInv.done {rs : List Row} {bs : List Bool} (h : RInv rs bs []) : bs.length = rs.length ∧ ∀ i, bs[i]? = some true ↔ Reach rs i := by
  refine ⟨h.len, fun i => ⟨h.got i, fun hr => ?_⟩⟩
  induction hr with
  | zero => rcases h.zero with q | q
            · exact q
            · simp at q
  | step _ er hj ih =>
    rcases h.shut _ _ ih er _ hj with q | q
    · exact q
    · simp at q

section
variable {prog : Program} {w : World} {A : Around} {E : Value → Shared → Prop} {s : Shared} {h₀ : Heap} {L : Addr} {m : Str → Option Value} {news : Led}
theorem allLt_of' {d x : Addr} {l : Led} (h : @LT.lt Nat _ x d ∧ AllLt d l) : AllLt d l := h.2
theorem rot4 {h : Heap} {x y z t : Addr × Obj} {r : Led} (N : News h₀ L h (x :: y :: z :: t :: r)) : News h₀ L h (z :: y :: x :: t :: r) := news_sub N fun q hq => by
  exact sub_at hq (by walk_at "sub")
theorem ne_nil_T {l b : Addr} {vs : List Value} {ns : List Nat} {n n2 : Nat} {Q : Value → Shared → Prop} (N : News h₀ L s.heap news) (hl : (l, listOf vs.toArray n) ∈ news) (hb : (b, listOf #[] n2) ∈ news) (hi : IntsV vs ns) (hne : ns ≠ []) (hu : A.units + 64 < cLine)
    (h : Q (.bool true) s) : wpAny (model prog w) A (compareOp .NotEq (.ref l) (.ref b)) Q E s :=
  ne_nil_led N hl hb hi hu (by cases ns with
    | nil => exact absurd rfl hne
    | cons _ _ => exact h)
theorem ne_nil_F {l b : Addr} {n n2 : Nat} {Q : Value → Shared → Prop} (N : News h₀ L s.heap news) (hl : (l, listOf #[] n) ∈ news) (hb : (b, listOf #[] n2) ∈ news) (hu : A.units + 64 < cLine)
    (h : Q (.bool false) s) : wpAny (model prog w) A (compareOp .NotEq (.ref l) (.ref b)) Q E s :=
  ne_nil_led N (vs := []) (ns := []) hl hb .nil hu h
end
section
variable {w : World} {f : Addr} {args : List Value} {fz : Led} {dn un : Nat} {Post : Led → Value → Prop}
  {dp u : Nat} {gd : Option (List Code)} {cn : Str} {cs : Scope} {ca : Addr} {ccd : Value} {cl : List (Str × Addr)} {outer : List Env} {A₀ : Around} {base h₀ : Heap} {L : Addr} {m : Str → Option Value} {news : Led} {s : Shared}
  {p : Program} {loose : List Str} {mean : ExcName → Option Value} {mg mb : Str → Option Value} {Q E : Value → Shared → Prop}
theorem ct_use3 {x y z : Addr × Obj} (C : Ct w f args fz dn un Post) (B : Below A₀ base outer h₀) (F : Fr h₀ L s.heap m) (X : (Mine.hp.hd.heap_39 w.params).In h₀) (N : News h₀ L s.heap (x :: y :: z :: news)) (T : Top p loose mean mg mb h₀) (hk : cs.kind = .function) (hs : ∀ q ∈ fz, q ∈ news)
    (hd : dp + dn < recursionLimit) (hu : u + un < cLine)
    (ret : ∀ r tl h' tk', Fr h₀ L h' m → News h₀ L h' (x :: y :: z :: (tl ++ news)) → Ord (x :: y :: z :: news) tl → Post tl r → Q r { s with heap := h', toks := tk' }) :
    wpAny (model PySem.Challenge.rw_xm0679_01.prog w) (ktrTop dp u gd cn cs L ca ccd cl outer) (call (.ref f) args) Q E s :=
  ct_use0 C B F X N T hk (fun q hq => .tail _ (.tail _ (.tail _ (hs q hq)))) hd hu fun r tl h' tk' F' N' o P => ret r tl h' tk' F' (fun q hq => N' q (by simp only [List.mem_cons, List.mem_append] at hq ⊢; rcases hq with h | h | h | h | h <;> simp [h])) o P
end
end Mine
-- MACROS
local macro_rules | `(tactic| walk_at "exec While Compare") => `(tactic| (refine stop_in ?_))
local macro_rules | `(tactic| walk_at "exec While") => `(tactic| (refine stop_in ?_))
local macro_rules | `(tactic| walk_at "call builtin:list.pop") => `(tactic| (k_here; k_dflt (refine' pop_led ?F ?N ?U ?z ?_; (case F | N => k_asm); (case U => k_updF); (case z => walk_at "szs"); k_whole); walk_at "t3"))
local macro_rules | `(tactic| walk_at "call builtin:list.extend") => `(tactic| (k_here; k_dflt (refine' extend_led ?F ?N ?b ?U ?z ?_; (case F | N => k_asm); (case b => k_mem); (case U => k_updF); (case z => omega); k_whole); intro h' n' F' N'; (try dsimp only at N'); (try k_sweep)))
local macro_rules | `(tactic| walk_at "setItem ref int") => `(tactic| (k_here; k_dflt (refine' set_led ?F ?N ?U ?i ?z ?_; (case F | N => k_asm); (case U => k_updF); (case i => first | assumption | (simp only [List.length_map]; omega)); (case z => first | omega | (simp only [List.length_map]; omega)); k_whole); walk_at "t3"))
local macro_rules | `(tactic| walk_at "binaryOp Mult ref int") => `(tactic| (k_here; k_dflt (refine' mul_led ?F ?N ?l ?z ?_; (case F | N => k_asm); (case l => k_mem); (case z => omega); k_whole); walk_at "t5"; (try k_sweep)))
local macro_rules | `(tactic| walk_at "compareOp NotEq ref ref") => `(tactic| (k_here; k_dflt (first | (refine' ne_nil_T ?N ?l ?b ?i ?e ?u ?_; (case N => k_asm); (case i | e => with_reducible assumption); (case l | b => k_mem); (case u => ktr_units)) | (refine' ne_nil_F ?N ?l ?b ?u ?_; (case N => k_asm); (case l | b => k_mem); (case u => ktr_units)))))
local macro_rules | `(tactic| walk_at "subscriptTail") => `(tactic| (k_here; (with_reducible show wpAny _ _ (subscriptTail _ _ (Value.ref _) (Value.int _ _)) _ _ _); k_dflt (refine' seq_item (fz := _) ?F ⟨_, .inl ?x1⟩ (fun q hq => hq) ?x3 ?x4 ?_ ?x5; (case F => k_asm); (case x1 => k_mem); (case x3 => assumption); (case x4 => first | assumption | (simp only [List.length_map]; omega)); (case x5 => with_unfolding_all rfl))))
-- END
namespace Mine
theorem reached_ct (w : World) (fz : Led) (l : Addr) (vs : List Value) (n : Nat) (rs : List Row) (hl : (l, listOf vs.toArray n) ∈ fz) (hrs : RowsIn fz vs rs) (hlen : rs.length ≤ 99) (hc : Closed rs) :
    Ct w 135 [.ref l] fz 6 180 (fun tl x => ∃ lf bs n, x = .ref lf ∧ (lf, listOf (List.map Value.bool bs).toArray n) ∈ tl ∧ bs.length = rs.length ∧ ∀ i, bs[i]? = some true ↔ Reach rs i) := by
  intro dp un gd cn cs ca ccd cl outer A₀ base h₀ L m news s p loose mean mg mb Q E B F X N T hk hsub hd hu ret
  have hlv : vs.length ≤ 99 := by rw [hrs.length]; exact hlen
  have hsq : SeqIn fz l vs := ⟨n, .inl hl⟩
  refine wpAny_call ?_
  k_dflt ktr_enter
  (try (refine gen_tk ?_; intro tk0))
  (try (rename Fr _ _ _ _ => F0; have F1 : Fr _ _ _ (fun y => List.lookup y [(Str.ofString "rows", .ref l)]) := F0; clear F0))
  k_steps
  refine stop_out ?_
  rename_i l0 h1 ll0 t1 tk1 Df h2 ll1 Dl h3 ll2 Dt h4 ll3 h5 h6 h7 F9 N9
  have erep : List.replicate vs.length (Value.bool false) = (List.replicate rs.length false).map Value.bool := by simp [hrs.length]
  rw [erep] at N9
  replace N9 := rot4 N9
  refine' while_inv (σ := List Bool × List Value × Nat × Nat × List Nat) (fun c => [(Df, listOf (c.1.map Value.bool).toArray c.2.2.1), (Dl, listOf c.2.1.toArray c.2.2.2.1)]) [Df, Dl] (fun _ => []) [Str.ofString "at"]
    (fun c tl => RInv rs c.1 c.2.2.2.2 ∧ IntsV c.2.1 c.2.2.2.2) (fun c => 3 * c.1.count false + c.2.2.2.2.length) (List.replicate rs.length false, [.int 0 tk1], 0, 0, [0]) (fun _ => rfl) (by k_asm) N9 ?o1 (fun _ h => nomatch h) ⟨RInv.start hc, .cons .nil⟩ ?turn
  case o1 =>
    intro d hd'
    simp only [List.mem_cons, List.not_mem_nil, or_false] at hd'
    rcases hd' with rfl | rfl
    · exact off_cons (by k_ne) (off_cons (by k_ne) (by k_all))
    · exact off_cons (by k_ne) (off_cons (by k_ne) (by k_all))
  case turn =>
    rintro ⟨bs, vl, nf, nl, ns⟩ tl lg u h tk ⟨hI, hiv⟩ hord hlg hoff F1 N1 -
    (try dsimp only at hI hiv hord F1 N1)
    (try dsimp only [List.cons_append, List.nil_append] at N1)
    have q1 := hoff Df (.head _)
    have q2 := hoff Dl (.tail _ (.head _))
    have hsub1 : ∀ q ∈ fz, q ∈ lg := fun q hq => hlg q (by simp [hsub q hq])
    have hsubn : ∀ q ∈ news, q ∈ lg := fun q hq => hlg q (by simp [hq])
    have hsubt : ∀ q ∈ tl, q ∈ lg := fun q hq => hlg q (by simp [hq])
    have hbl : (bs.map Value.bool).length ≤ 99 := by rw [List.length_map, hI.len]; exact hlen
    have hvl : vl.length ≤ 250 := by rw [hiv.length]; have := hI.room; omega
    clear hlg hoff
    rcases Classical.em (ns = []) with rfl | hne
    · cases hiv
      have hiv : IntsV [] [] := .nil
      have hI' := hI.done
      k_steps
      refine ret _ (tl ++ [(Df, listOf (bs.map Value.bool).toArray nf)]) _ _ (by k_asm) (news_sub (by assumption) ?_) ?_ ⟨Df, bs, nf, rfl, by simp, hI'⟩
      · intro q hq
        exact sub_at hq (by walk_at "sub")
      · refine Ord.append (hord.sub fun q hq => ?_) (Ord.cons (allLt_of' ll1) Ord.nil)
        simp [hq]
    · obtain ⟨vs', ta, ns', a, rfl, rfl, hiv'⟩ := intsV_split hiv hne
      have ha := hI.todo a (by simp)
      obtain ⟨r, hr⟩ : ∃ r, rs[a]? = some r := ⟨rs[a]'ha.2, by simp [ha.2]⟩
      have hab : a < bs.length := by rw [hI.len]; exact ha.2
      obtain ⟨b, hb⟩ : ∃ b, bs[a]? = some b := ⟨bs[a], by simp [hab]⟩
      have hbv : (bs.map Value.bool)[a]? = some (.bool b) := by simp [hb]
      have hvl' : vs'.length ≤ 249 := by simp at hvl; omega
      have hfl := follows_len r a
      cases b with
      | true =>
        k_steps
        exact tend_next (bs, vs', nf, nl + 1, ns') [] (by k_asm) (news_sub (by assumption) fun q hq => .tail _ hq) Ord.nil (by ((repeat refine List.forall_mem_cons.mpr ⟨rfl, ?_⟩); exact List.forall_mem_nil _)) (by (intro z hz1 hz2; repeat (first | exact fmap_off hz1 hz2 | exact rfl | exact if_neg (fun e => Bool.false_ne_true (hz2.symm.trans e)) | refine (if_neg (ne_stored hz2 (by decide +kernel))).trans ?_ | refine (if_neg (hz1 _ (.head _))).trans ?_ | refine (if_neg (hz1 _ (.tail _ (.head _)))).trans ?_ | refine (if_neg (hz1 _ (.tail _ (.tail _ (.head _))))).trans ?_))) ⟨⟨hI.seen hb, hiv'⟩, by simp⟩
      | false =>
        have hcs := count_set hb
        k_steps
        (refine stop_out ?_; (with_reducible show wpAny _ _ (call (Value.ref 113) [_, _]) _ _ _); k_dflt (refine' ct_use3 (followers_ct _ _ _ _ _ ?c0 ?c1 ?c2 _ _ _ ?c3) ?k1 ?k2 ?k3 ?k4 ?k5 ?k6 ?k7 ?k8 ?k9 ?_; (case c0 => assumption); (case c1 => assumption); (case c2 => assumption); (case c3 => assumption); walk_at "sideC"); intro r' tl9 h9 tk9 F' N' o9 P'; obtain ⟨lf9, vsf9, nf9, e8, hm9, hg9⟩ := P'; subst e8; (have hgl9 := hg9.length))
        k_steps
        rename_i h8 n9 F8 N8
        have em : (bs.map Value.bool).set a (.bool true) = (bs.set a true).map Value.bool := by rw [List.map_set]
        rw [em] at N8
        refine tend_next (bs.set a true, vs' ++ vsf9, nf, n9, ns' ++ follows r a) tl9 (by k_asm) (news_sub N8 fun q hq => .tail _ hq) (o9.subA fun q hq => ?_) (by ((repeat refine List.forall_mem_cons.mpr ⟨rfl, ?_⟩); exact List.forall_mem_nil _)) (by (intro z hz1 hz2; repeat (first | exact fmap_off hz1 hz2 | exact rfl | exact if_neg (fun e => Bool.false_ne_true (hz2.symm.trans e)) | refine (if_neg (ne_stored hz2 (by decide +kernel))).trans ?_ | refine (if_neg (hz1 _ (.head _))).trans ?_ | refine (if_neg (hz1 _ (.tail _ (.head _)))).trans ?_ | refine (if_neg (hz1 _ (.tail _ (.tail _ (.head _))))).trans ?_))) ⟨⟨hI.mark hc hb hr, hiv'.append hg9⟩, by simp; omega⟩
        simp only [List.mem_append, List.mem_cons, List.not_mem_nil, or_false] at hq
        rcases hq with (h | h) | h
        · exact ⟨_, .tail _ (.head _), by rw [h]⟩
        · exact ⟨_, .tail _ (.tail _ (.head _)), by rw [h]⟩
        · exact ⟨q, by simp [h], rfl⟩
end Mine

namespace Mine
section
variable {prog : Program} {w : World} {A : Around} {E : Value → Shared → Prop} {s : Shared} {h₀ : Heap} {env : Env} {body : List Stmt} {Q : Flow → Shared → Prop}
/-- over enumerate of a list of the ledger that the turns leave alone -/
theorem turns_enum {σ : Type} {elts : List PySem.Expr} {k : Nat} {pos : Pos} {l : Addr} {vs : List Value} {nn : Nat} {m₀ : Str → Option Value} {fm : Led}
    (mu : σ → Led) (adr : List Addr) (ps : σ → List (Str × Value)) (stored : List Str) (Inv : Nat → σ → Led → Prop) (c₀ : σ)
    (hh : A.handled = none) (hadr : ∀ c, (mu c).map (·.1) = adr) (F : Fr h₀ env.locals s.heap m₀) (N : News h₀ env.locals s.heap (mu c₀ ++ fm)) (hoff : ∀ d ∈ adr, Off d fm) (hm : (l, listOf vs.toArray nn) ∈ fm)
    (hps : ∀ p ∈ ps c₀, m₀ p.1 = some p.2) (h0 : Inv 0 c₀ [])
    (turn : ∀ i T t v c tl lg u h tk, i < vs.length → vs[i]? = some v → IsTup h T #[.int (i : Int) t, v] → Inv i c tl → Ord (mu c₀ ++ fm) tl → (∀ q ∈ tl ++ fm, q ∈ lg) → (∀ d ∈ adr, Off d lg) → Fr h₀ env.locals h (fmap (ps c) stored u m₀) → News h₀ env.locals h (mu c ++ lg) →
      wpAny (model prog w) A (assign (.Tuple elts k pos) env (.ref T)) (fun _ s₂ => wpAny (model prog w) A (execs body env) (TEnd h₀ env.locals mu ps stored m₀ (Inv (i + 1)) c lg tl { s with heap := h, toks := tk } Q) E s₂) E { s with heap := h, toks := tk })
    (done : ∀ c tl u h tk, Inv vs.length c tl → Ord (mu c₀ ++ fm) tl → Fr h₀ env.locals h (fmap (ps c) stored u m₀) → News h₀ env.locals h (mu c ++ (tl ++ fm)) → Q .next { s with heap := h, toks := tk }) :
    wpAny (model prog w) A (call (.type "enumerate") [.ref l]) (fun xv s₁ => wpAny (model prog w) A (pyIter xv) (fun it s₂ => TurnsAt prog w A h₀ env (.Tuple elts k pos) body Q E it s₂) E s₁) E s := by
  have hax := N _ (List.mem_append_right _ hm)
  have hl : s.heap.IsList l vs.toArray := ⟨_, hax.1, rfl, nn, rfl⟩
  have hlt : l < s.heap.objs.size := Heap.lt_size hax.1
  have hLs : env.locals < s.heap.objs.size := F.ns.lt
  refine call_enumerate_list hl fun h' hE hI hsz hk => ?_
  refine wpAny_pyIter_enum hE ?_
  have W := (WalksT.enumerate (prog := prog) (w := w) hh (s.heap.objs.size + 1) s.heap.objs.size l (Nat.succ_ne_self _) (ktu_ne 1 hlt) (Nat.ne_of_lt hlt) vs.toArray).toU
  refine turns_inv (tk0 := s.toks) mu adr ps stored Inv c₀ (KTurns.ofWalksU W) ?_ ?_ ?_ ?_ hadr ?_ ⟨⟨_, hE⟩, hI, hl.at fun o e => hk _ o e⟩ (F.keeps hk) (N.grown hk) hoff hps h0 ?_ (fun c tl u h tk hI => done c tl u h tk (by simpa using hI))
  · rintro i h ⟨⟨old, he⟩, ⟨oi, hoi, _⟩, _⟩ b hb
    have hb' : b = s.heap.objs.size + 1 ∨ b = s.heap.objs.size := by simpa using hb
    rcases hb' with rfl | rfl
    · exact ⟨_, he⟩
    · exact ⟨oi, hoi⟩
  · intro b hb hw hd
    have hb' : b = s.heap.objs.size + 1 ∨ b = s.heap.objs.size ∨ b = l := by simpa using hb
    rcases hb' with e | e | e
    · exact hw (by simp [e])
    · exact hw (by simp [e])
    · exact hoff b hd _ hm e.symm
  · intro hI'
    have hb' : env.locals = s.heap.objs.size + 1 ∨ env.locals = s.heap.objs.size ∨ env.locals = l := by simpa using hI'
    rcases hb' with e | e | e
    · exact ktu_ne 1 hLs e
    · exact Nat.ne_of_lt hLs e
    · exact hax.2.1 e.symm
  · intro b hb
    have hb' : b = s.heap.objs.size + 1 ∨ b = s.heap.objs.size := by simpa using hb
    rcases hb' with rfl | rfl
    · exact ktu_new F (Nat.le_add_right _ _)
    · exact ktu_new F (Nat.le_refl _)
  · intro p hp hI'
    have hb' : p.1 = s.heap.objs.size + 1 ∨ p.1 = s.heap.objs.size := by simpa using hI'
    have hlp := Heap.lt_size (N p hp).1
    rcases hb' with e | e
    · exact ktu_ne 1 hlp e
    · exact Nat.ne_of_lt hlp e
  · rintro i v c tl lg u h tk hi ⟨T, vals, rfl, ⟨t, x, hx, rfl⟩, hT⟩ a1 a2 a3 a4 a5 a6
    exact turn i T t x c tl lg u h tk (by simpa using hi) (by simpa using hx) hT a1 a2 a3 a4 a5 a6
end
end Mine
-- MACROS
local macro_rules | `(tactic| walk_at "call type:enumerate") => `(tactic| (refine stop_in ?_))
local macro_rules | `(tactic| walk_at "TurnsAt") => `(tactic| (refine stop_in ?_))
-- END
namespace Mine
theorem rot2 {h₀ h : Heap} {L : Addr} {x y : Addr × Obj} {r : Led} (N : News h₀ L h (x :: y :: r)) : News h₀ L h (y :: x :: r) := news_sub N fun q hq => by
  exact sub_at hq (by walk_at "sub")
noncomputable def placesL : Nat → List Bool → List Nat
  | _, [] => []
  | k, b :: bs => k :: placesL (k + (if b then 1 else 0)) bs
noncomputable def cntT (bs : List Bool) : Nat := bs.count true
theorem placesL_take : ∀ (bs : List Bool) (i k : Nat) {b : Bool}, bs[i]? = some b → placesL k (bs.take (i + 1)) = placesL k (bs.take i) ++ [k + (bs.take i).count true]
  | [], _, _, _, h => by simp at h
  | b' :: bs, 0, k, b, h => by simp [placesL]
  | b' :: bs, i + 1, k, b, h => by
    have ih := placesL_take bs i (k + (if b' then 1 else 0)) (b := b) (by simpa using h)
    simp only [List.take_succ_cons, placesL, List.cons_append, List.count_cons]
    rw [ih]
    cases b' <;> simp <;> omega
theorem places_ct (w : World) (fz : Led) (l : Addr) (bs : List Bool) (n : Nat) (hl : (l, listOf (bs.map Value.bool).toArray n) ∈ fz) (hlen : bs.length ≤ 99) :
    Ct w 156 [.ref l] fz 3 60 (fun tl x => ∃ lf vsf n, x = .ref lf ∧ (lf, listOf vsf.toArray n) ∈ tl ∧ IntsV vsf (placesL 0 bs)) := by
  intro dp un gd cn cs ca ccd cl outer A₀ base h₀ L m news s p loose mean mg mb Q E B F X N T hk hsub hd hu ret
  refine wpAny_call ?_
  k_dflt ktr_enter
  (try (refine gen_tk ?_; intro tk0))
  (try (rename Fr _ _ _ _ => F0; have F1 : Fr _ _ _ (fun y => List.lookup y [(Str.ofString "kept", .ref l)]) := F0; clear F0))
  k_steps
  rename_i Df h1 l1 Dt h2 l2 h3 h4 h5 F9 N9
  have hlm : (List.map Value.bool bs).length = bs.length := List.length_map ..
  refine turns_list (σ := List Value × Nat × Nat × Tok) (fm := (Dt, _) :: news) (fun c => [(Df, listOf c.1.toArray c.2.1)]) [Df] (fun c => [(Str.ofString "many", .int (c.2.2.1 : Int) c.2.2.2)]) [Str.ofString "is_kept"]
    (fun i c tl => IntsV c.1 (placesL 0 (bs.take i)) ∧ c.2.2.1 = (bs.take i).count true) ([], 0, 0, _) rfl (fun _ => rfl) (by k_asm) (rot2 N9) ?o1 (List.mem_cons_of_mem _ (hsub _ hl)) (List.forall_mem_cons.mpr ⟨rfl, List.forall_mem_nil _⟩) ⟨.nil, rfl⟩ ?turn ?done
  case o1 =>
    intro d hd'
    rw [List.mem_singleton.mp hd']
    exact off_cons (by k_ne) (by k_all)
  case turn =>
    rintro i v ⟨ws, nw, k, tt⟩ tl lg u h tk hi hv ⟨hw, hk'⟩ hord hlg hoff F1 N1
    (try dsimp only at hw hk' hord F1 N1)
    (try dsimp only [List.cons_append, List.nil_append] at N1)
    have q1 := hoff Df (.head _)
    have hi' : i < bs.length := by rw [← hlm]; exact hi
    obtain ⟨b, hb⟩ : ∃ b, bs[i]? = some b := ⟨bs[i], by simp [hi']⟩
    obtain rfl : v = .bool b := by rw [List.getElem?_map, hb] at hv; simpa using hv.symm
    have hwl : ws.length ≤ 99 := by
      have hpl : ∀ (bs : List Bool) (k : Nat), (placesL k bs).length = bs.length := by
        intro bs
        induction bs with
        | nil => intro k; rfl
        | cons b bs ih => intro k; simp [placesL, ih]
      rw [hw.length, hpl, List.length_take]; omega
    have htake := placesL_take bs i 0 hb
    have hcnt : (bs.take (i + 1)).count true = (bs.take i).count true + (if b then 1 else 0) := by
      rw [take_snoc hb, List.count_append]
      cases b <;> simp
    clear hlg hoff F N F9 N9 hord
    subst hk'
    cases b
    · k_steps
      refine tend_next (ws ++ [_], nw + 1, (bs.take i).count true, _) [] (by k_asm) (by k_asm) Ord.nil (by ((repeat refine List.forall_mem_cons.mpr ⟨rfl, ?_⟩); exact List.forall_mem_nil _)) (by (intro z hz1 hz2; repeat (first | exact fmap_off hz1 hz2 | exact rfl | exact if_neg (fun e => Bool.false_ne_true (hz2.symm.trans e)) | refine (if_neg (ne_stored hz2 (by decide +kernel))).trans ?_ | refine (if_neg (hz1 _ (.head _))).trans ?_ | refine (if_neg (hz1 _ (.tail _ (.head _)))).trans ?_ | refine (if_neg (hz1 _ (.tail _ (.tail _ (.head _))))).trans ?_))) ⟨?_, ?_⟩
      · rw [htake, Nat.zero_add]; exact hw.append (.cons .nil)
      · rw [hcnt]; rfl
    · k_steps
      refine tend_next (ws ++ [_], nw + 1, (bs.take i).count true + 1, _) [] (by k_asm) (by k_asm) Ord.nil (by ((repeat refine List.forall_mem_cons.mpr ⟨rfl, ?_⟩); exact List.forall_mem_nil _)) (by (intro z hz1 hz2; repeat (first | exact fmap_off hz1 hz2 | exact rfl | exact if_neg (fun e => Bool.false_ne_true (hz2.symm.trans e)) | refine (if_neg (ne_stored hz2 (by decide +kernel))).trans ?_ | refine (if_neg (hz1 _ (.head _))).trans ?_ | refine (if_neg (hz1 _ (.tail _ (.head _)))).trans ?_ | refine (if_neg (hz1 _ (.tail _ (.tail _ (.head _))))).trans ?_))) ⟨?_, ?_⟩
      · rw [htake, Nat.zero_add]; exact hw.append (.cons .nil)
      · rw [hcnt]; rfl
  case done =>
    rintro ⟨ws, nw, k, tt⟩ tl u h tk ⟨hw, hk'⟩ hord F1 N1
    (try dsimp only at hw hk' hord F1 N1)
    (try dsimp only [List.cons_append, List.nil_append] at N1)
    rw [hlm, List.take_length] at hw
    k_steps
    refine ret _ (tl ++ [(Df, listOf ws.toArray nw)]) _ _ (by k_asm) (news_sub (by assumption) ?_) ?_ ⟨Df, ws, nw, rfl, by simp, hw⟩
    · intro q hq
      exact sub_at hq (by walk_at "sub")
    · refine Ord.append (hord.sub fun q hq => ?_) (Ord.cons (allLt_of l1) Ord.nil)
      simp [hq]
end Mine

namespace Mine
noncomputable def DictIs (w : World) (o : Obj) (ks : List Nat) : Prop := ∃ kvs D, o.IsDictOf (intKind PySem.Challenge.rw_xm0679_01.prog w) kvs ∧ PyProof.V.FlatPairs PyData.int kvs D ∧ D.length ≤ ks.length ∧ ∀ r : Nat, (PySem.Spec.lookup (.int (r : Int)) D).isSome = true ↔ r ∈ ks
section
variable {w : World} {A : Around} {E : Value → Shared → Prop} {s : Shared} {h₀ : Heap} {L : Addr} {m : Str → Option Value} {news : Led}
theorem dict_set {d : Addr} {o : Obj} {ks : List Nat} {r : Nat} {t : Tok} {b : Bool} {g : Obj → Led} {Q : Unit → Shared → Prop} (F : Fr h₀ L s.heap m) (N : News h₀ L s.heap news) (U : UpdF d o news g) (hd : DictIs w o ks) (hsz : ks.length ≤ 9999)
    (h : ∀ h' o', Fr h₀ L h' m → News h₀ L h' (g o') → DictIs w o' (ks ++ [r]) → Q () { s with heap := h', toks := s.toks + 1 }) :
    wpAny (model PySem.Challenge.rw_xm0679_01.prog w) A (setItem (.ref d) (.int (r : Int) t) (.bool b)) Q E s := by
  obtain ⟨kvs, D, h1, h2, h3, h4⟩ := hd
  refine setItem_K PyProof.V.same_int (intKind_is _ _ _ _) (PyProof.V.Flat.bool _) F N U h1 h2 (fun h' o' F' N' hd' hf' => h h' o' F' N' ⟨_, _, hd', hf', ?_, fun k => ?_⟩) (by rw [sizeLine_eq]; omega)
  · refine Nat.le_trans (PyProof.V.putD_length_le _ _ _) ?_
    simp; omega
  · rw [PyProof.Rows.lookup_putK PyProof.V.keyEnc_int]
    by_cases q : (k : Int) = (r : Int)
    · have : k = r := by omega
      subst this
      simp
    · have : k ≠ r := fun e => q (by rw [e])
      rw [if_neg q, h4 k]
      simp [this]
theorem dict_notin {d : Addr} {o : Obj} {ks : List Nat} {r : Nat} {t : Tok} {Q : Value → Shared → Prop} (N : News h₀ L s.heap news) (hm : (d, o) ∈ news) (lo : (d == sysModules) = false) (hd : DictIs w o ks)
    (h : Q (.bool (!decide (r ∈ ks))) { s with toks := s.toks + 1 }) :
    wpAny (model PySem.Challenge.rw_xm0679_01.prog w) A (compareOp .NotIn (.int (r : Int) t) (.ref d)) Q E s := by
  obtain ⟨kvs, D, h1, h2, h3, h4⟩ := hd
  refine PyProof.Rows.notin_intTab (TabAt.ofNews N hm lo h1 h2) ?_
  have e : (PySem.Spec.lookup (.int (r : Int)) D).isSome = decide (r ∈ ks) := by
    rw [Bool.eq_iff_iff, h4 r, decide_eq_true_iff]
  rw [e]
  exact h
end
theorem sub_contains {big small : List Str} {z : Str} (h : big.contains z = false) (hs : small.all (fun x => big.contains x) = true) : small.contains z = false := by
  cases q : small.contains z with
  | false => rfl
  | true =>
    have hz : z ∈ small := by simpa using q
    have := List.all_eq_true.mp hs z hz
    rw [h] at this; cases this
end Mine
-- MACROS
local macro_rules | `(tactic| walk_at "setItem ref int") => `(tactic| (k_here; (with_reducible show wpAny _ _ (setItem (Value.ref _) (Value.int _ _) (Value.bool _)) _ _ _); k_dflt (refine' dict_set ?F ?N ?U ?d ?z ?_; (case F | N => k_asm); (case U => k_updF); (case d => with_reducible assumption); (case z => omega); k_whole); intro h' o' F' N' d'; (try dsimp only at N'); (try k_sweep)))
-- END
namespace Mine
theorem IntsV.get {vs : List Value} {ns : List Nat} (h : IntsV vs ns) : ∀ {i : Nat} {v : Value}, vs[i]? = some v → ∃ x t, v = .int (x : Nat) t ∧ ns[i]? = some x := by
  induction h with
  | nil => intro i v e; simp at e
  | @cons t a vs ns h ih =>
    intro i v e
    cases i with
    | zero => exact ⟨_, _, by simpa using e.symm, by simp⟩
    | succ i => obtain ⟨x, t', h1, h2⟩ := ih (i := i) (v := v) (by simpa using e); exact ⟨x, t', h1, by simpa using h2⟩
noncomputable def readsL : List Row → List Bool → List Nat
  | r :: rs, b :: bs => (if b then uses r else []) ++ readsL rs bs
  | _, _ => []
theorem readsL_take : ∀ {rs : List Row} {bs : List Bool} {i : Nat} {r : Row} {b : Bool}, rs[i]? = some r → bs[i]? = some b →
    readsL (rs.take (i + 1)) (bs.take (i + 1)) = readsL (rs.take i) (bs.take i) ++ (if b then uses r else [])
  | [], _, _, _, _, h, _ => by simp at h
  | _ :: _, [], _, _, _, _, h => by simp at h
  | r' :: rs, b' :: bs, 0, r, b, h, h' => by
    have e : r' = r := by simpa using h
    have e' : b' = b := by simpa using h'
    subst e e'
    simp [readsL]
  | r' :: rs, b' :: bs, i + 1, r, b, h, h' => by
    have ih := readsL_take (rs := rs) (bs := bs) (i := i) (r := r) (b := b) (by simpa using h) (by simpa using h')
    simp only [List.take_succ_cons, readsL, ih, List.append_assoc]
theorem uses_len (r : Row) : (uses r).length ≤ 1 := by cases r <;> simp [uses]
theorem readsL_len : ∀ (rs : List Row) (bs : List Bool), (readsL rs bs).length ≤ rs.length
  | [], _ => by simp [readsL]
  | _ :: _, [] => by simp [readsL]
  | r :: rs, b :: bs => by
    have := readsL_len rs bs
    have := uses_len r
    simp only [readsL, List.length_append, List.length_cons]
    cases b <;> simp <;> omega
theorem reads_ct (w : World) (fz : Led) (l lk : Addr) (vs : List Value) (n nk : Nat) (rs : List Row) (bs : List Bool) (hl : (l, listOf vs.toArray n) ∈ fz) (hlk : (lk, listOf (bs.map Value.bool).toArray nk) ∈ fz) (hrs : RowsIn fz vs rs) (hlen : rs.length ≤ 99) (hbs : bs.length = rs.length) :
    Ct w 142 [.ref l, .ref lk] fz 5 150 (fun tl x => ∃ ld o, x = .ref ld ∧ (ld, o) ∈ tl ∧ (ld == sysModules) = false ∧ DictIs w o (readsL rs bs)) := by
  intro dp un gd cn cs ca ccd cl outer A₀ base h₀ L m news s p loose mean mg mb Q E B F X N T hk hsub hd hu ret
  have hlv : vs.length ≤ 99 := by rw [hrs.length]; exact hlen
  have hlm : (bs.map Value.bool).length ≤ 99 := by rw [List.length_map]; omega
  have hsq : SeqIn fz l vs := ⟨n, .inl hl⟩
  have hsk : SeqIn fz lk (bs.map Value.bool) := ⟨nk, .inl hlk⟩
  refine wpAny_call ?_
  k_dflt ktr_enter
  (try (refine gen_tk ?_; intro tk0))
  (try (rename Fr _ _ _ _ => F0; have F1 : Fr _ _ _ (fun y => List.lookup y [(Str.ofString "kept", .ref lk), (Str.ofString "rows", .ref l)]) := F0; clear F0))
  k_steps
  refine stop_out ?_
  rename_i Dd h1 o1 l1 lo hs fs hi fi h2 F9 N9
  have hd0 : DictIs w o1 [] := ⟨_, _, hi, fi, by simp, fun r => by simp [PySem.Spec.lookup]⟩
  clear hs fs hi fi
  refine turns_enum (σ := Obj × List Nat) (fm := news) (fun c => [(Dd, c.1)]) [Dd] (fun _ => []) [Str.ofString "at", Str.ofString "row", Str.ofString "register"]
    (fun i c tl => DictIs w c.1 c.2 ∧ c.2 = readsL (rs.take i) (bs.take i)) (o1, []) rfl (fun _ => rfl) (by k_asm) N9 ?o1 (hsub _ hl) (List.forall_mem_nil _) ⟨hd0, rfl⟩ ?turn ?done
  case o1 =>
    intro d hd'
    rw [List.mem_singleton.mp hd']
    exact off_lt (allLt_of l1)
  case turn =>
    rintro i T tt v ⟨od, ks⟩ tl lg u h tk hi hv hT ⟨hw, hk'⟩ hord hlg hoff F1 N1
    (try dsimp only at hw hk' hord F1 N1)
    (try dsimp only [List.cons_append, List.nil_append] at N1)
    have q1 := hoff Dd (.head _)
    have hi' : i < rs.length := by rw [← hrs.length]; exact hi
    obtain ⟨r, hr⟩ : ∃ r, rs[i]? = some r := ⟨rs[i], by simp [hi']⟩
    obtain ⟨v', hv', hrv⟩ := hrs.get hr
    obtain rfl : v' = v := by rw [hv] at hv'; cases hv'; rfl
    obtain ⟨b, hb⟩ : ∃ b, bs[i]? = some b := ⟨bs[i]'(by omega), by simp [show i < bs.length by omega]⟩
    have hbv : (bs.map Value.bool)[i]? = some (.bool b) := by simp [hb]
    have hsub1 : ∀ q ∈ fz, q ∈ lg := fun q hq => hlg q (by simp [hsub q hq])
    have htake := readsL_take hr hb
    have hkl : ks.length ≤ 99 := by rw [hk']; have := readsL_len (rs.take i) (bs.take i); rw [List.length_take] at this; omega
    have hul := uses_len r
    clear hlg hoff F N F9 N9 hord
    cases b with
    | false =>
      k_steps
      refine tend_next (od, ks) [] (by k_asm) (by k_asm) Ord.nil (by ((repeat refine List.forall_mem_cons.mpr ⟨rfl, ?_⟩); exact List.forall_mem_nil _)) (by (intro z hz1 hz2; repeat (first | exact fmap_off hz1 hz2 | exact rfl | exact if_neg (fun e => Bool.false_ne_true (hz2.symm.trans e)) | refine (if_neg (ne_stored hz2 (by decide +kernel))).trans ?_ | refine (if_neg (hz1 _ (.head _))).trans ?_ | refine (if_neg (hz1 _ (.tail _ (.head _)))).trans ?_ | refine (if_neg (hz1 _ (.tail _ (.tail _ (.head _))))).trans ?_ | refine (fmap_off (ps := []) (List.forall_mem_nil _) (sub_contains hz2 (by decide +kernel))).trans ?_))) ⟨hw, by rw [htake, hk']; simp⟩
    | true =>
      k_steps
      (refine stop_out ?_; (with_reducible show wpAny _ _ (call (Value.ref 96) [_]) _ _ _); k_dflt (refine' ct_use1 (uses_ct _ _ _ _ ?c0) ?k1 ?k2 ?k3 ?k4 ?k5 ?k6 ?k7 ?k8 ?k9 ?_; (case c0 => assumption); walk_at "sideC"); intro r' tl9 h9 tk9 F8 N8 o8 P'; obtain ⟨lu9, vsu9, nu9, e8, hm9, hg9⟩ := P'; subst e8)
      k_steps
      refine turns_list (σ := Obj × List Nat) (fm := tl9 ++ lg) (fun c => [(Dd, c.1)]) [Dd] (fun _ => []) [Str.ofString "register"]
        (fun j c tl => tl = [] ∧ DictIs w c.1 c.2 ∧ c.2 = ks ++ (uses r).take j) (od, ks) rfl (fun _ => rfl) (by k_asm) N8 ?_ (List.mem_append_left _ hm9) (List.forall_mem_nil _) ⟨rfl, hw, by simp⟩ ?_ ?_
      · intro d hd'
        rw [List.mem_singleton.mp hd']
        exact Off.append (Ord.off o8 (.head _)) q1
      · rintro j v2 ⟨od2, ks2⟩ tl2 lg2 u2 h2 tk2 hj hv2 ⟨rfl, hw2, hk2⟩ hord2 hlg2 hoff2 F2 N2
        (try dsimp only at hw2 hk2 hord2 F2 N2)
        (try dsimp only [List.cons_append, List.nil_append] at N2)
        have q2 := hoff2 Dd (.head _)
        obtain ⟨x, t9, rfl, hx⟩ := hg9.get hv2
        have hkl2 : ks2.length ≤ 999 := by rw [hk2, List.length_append, List.length_take]; omega
        clear hlg2 hoff2 F8 N8 hord2
        k_steps
        refine tend_next (_, ks2 ++ [x]) [] (by k_asm) (by k_asm) Ord.nil (by ((repeat refine List.forall_mem_cons.mpr ⟨rfl, ?_⟩); exact List.forall_mem_nil _)) (by (intro z hz1 hz2; repeat (first | exact fmap_off hz1 hz2 | exact rfl | exact if_neg (fun e => Bool.false_ne_true (hz2.symm.trans e)) | refine (if_neg (ne_stored hz2 (by decide +kernel))).trans ?_ | refine (if_neg (hz1 _ (.head _))).trans ?_ | refine (if_neg (hz1 _ (.tail _ (.head _)))).trans ?_ | refine (if_neg (hz1 _ (.tail _ (.tail _ (.head _))))).trans ?_ | refine (fmap_off (ps := []) (List.forall_mem_nil _) (sub_contains hz2 (by decide +kernel))).trans ?_))) ⟨rfl, by assumption, by rw [hk2, take_snoc hx, List.append_assoc]⟩
      · rintro ⟨od2, ks2⟩ tl2 u2 h2 tk2 ⟨rfl, hw2, hk2⟩ hord2 F2 N2
        (try dsimp only at hw2 hk2 hord2 F2 N2)
        (try dsimp only [List.cons_append, List.nil_append] at N2)
        rw [List.take_of_length_le (by rw [hg9.length]; exact Nat.le_refl _)] at hk2
        clear F8 N8
        k_steps
        refine tend_next (od2, ks2) tl9 (by k_asm) (by k_asm) o8 (by ((repeat refine List.forall_mem_cons.mpr ⟨rfl, ?_⟩); exact List.forall_mem_nil _)) (by (intro z hz1 hz2; repeat (first | exact fmap_off hz1 hz2 | exact rfl | exact if_neg (fun e => Bool.false_ne_true (hz2.symm.trans e)) | refine (if_neg (ne_stored hz2 (by decide +kernel))).trans ?_ | refine (if_neg (hz1 _ (.head _))).trans ?_ | refine (if_neg (hz1 _ (.tail _ (.head _)))).trans ?_ | refine (if_neg (hz1 _ (.tail _ (.tail _ (.head _))))).trans ?_ | refine (fmap_off (ps := []) (List.forall_mem_nil _) (sub_contains hz2 (by decide +kernel))).trans ?_))) ⟨hw2, by rw [htake, hk2, hk']; simp⟩
  case done =>
    rintro ⟨od, ks⟩ tl u h tk ⟨hw, hk'⟩ hord F1 N1
    (try dsimp only at hw hk' hord F1 N1)
    (try dsimp only [List.cons_append, List.nil_append] at N1)
    rw [List.take_of_length_le (by rw [hrs.length]; exact Nat.le_refl _), List.take_of_length_le (by rw [hrs.length]; omega)] at hk'
    subst hk'
    k_steps
    refine ret _ (tl ++ [(Dd, od)]) _ _ (by k_asm) (news_sub (by assumption) ?_) ?_ ⟨Dd, od, rfl, by simp, lo, hw⟩
    · intro q hq
      exact sub_at hq (by walk_at "sub")
    · refine Ord.append (hord.sub fun q hq => ?_) (Ord.cons (allLt_of l1) Ord.nil)
      simp [hq]
end Mine

namespace Mine
section
variable {prog : Program} {w : World} {A : Around} {E : Value → Shared → Prop} {s : Shared} {h₀ h : Heap} {L : Addr} {m : Str → Option Value} {news : Led}
/-- an entry of the new ones, pulled to the front -/
theorem pull {tl : Led} {a : Addr} {o : Obj} (N : News h₀ L h (tl ++ news)) (hm : (a, o) ∈ tl) : News h₀ L h ((a, o) :: (tl.filter (fun q => q.1 != a) ++ news)) := news_sub N fun q hq => by
  simp only [List.mem_cons, List.mem_append, List.mem_filter] at hq ⊢
  rcases hq with h | h | h
  · rw [h]; exact .inl hm
  · exact .inl h.1
  · exact .inr h
theorem pull_off {tl : Led} {a : Addr} {o : Obj} (hO : Ord news tl) (hm : (a, o) ∈ tl) : Off a (tl.filter (fun q => q.1 != a) ++ news) :=
  Off.append (fun p hp => by simpa using (List.mem_filter.mp hp).2) fun p hp e => by
    have := hO p hp _ hm
    rw [e] at this; exact Nat.lt_irrefl _ this
theorem pull_ord {tl : Led} {a : Addr} (hO : Ord news tl) : Ord news (tl.filter (fun q => q.1 != a)) := fun q hq p hp => hO q hq p (List.mem_filter.mp hp).1
end
section
variable {w : World} {A : Around} {E : Value → Shared → Prop} {s : Shared} {h₀ : Heap} {L : Addr} {m : Str → Option Value} {news : Led}
theorem dict_notin_T {d : Addr} {o : Obj} {ks : List Nat} {r : Nat} {t : Tok} {Q : Value → Shared → Prop} (N : News h₀ L s.heap news) (hm : (d, o) ∈ news) (lo : (d == sysModules) = false) (hd : DictIs w o ks) (hr : r ∉ ks)
    (h : Q (.bool true) { s with toks := s.toks + 1 }) : wpAny (model PySem.Challenge.rw_xm0679_01.prog w) A (compareOp .NotIn (.int (r : Int) t) (.ref d)) Q E s :=
  dict_notin N hm lo hd (by simpa [hr] using h)
theorem dict_notin_F {d : Addr} {o : Obj} {ks : List Nat} {r : Nat} {t : Tok} {Q : Value → Shared → Prop} (N : News h₀ L s.heap news) (hm : (d, o) ∈ news) (lo : (d == sysModules) = false) (hd : DictIs w o ks) (hr : r ∈ ks)
    (h : Q (.bool false) { s with toks := s.toks + 1 }) : wpAny (model PySem.Challenge.rw_xm0679_01.prog w) A (compareOp .NotIn (.int (r : Int) t) (.ref d)) Q E s :=
  dict_notin N hm lo hd (by simpa [hr] using h)
end
end Mine
-- MACROS
local macro_rules | `(tactic| walk_at "compareOp NotIn int ref") => `(tactic| (k_here; k_dflt (first | (refine' dict_notin_T ?N ?m ?l ?d ?r ?_; (case N => k_asm); (case d | r => with_reducible assumption); (case m => k_mem); (case l => with_reducible assumption)) | (refine' dict_notin_F ?N ?m ?l ?d ?r ?_; (case N => k_asm); (case d | r => with_reducible assumption); (case m => k_mem); (case l => with_reducible assumption)))))
-- END
namespace Mine
noncomputable def keepR (ks : List Nat) (i : Nat) (r : Row) (b : Bool) : Bool := match r with
  | .const d _ => b && decide (d ∈ ks)
  | .move d _ => b && decide (d ∈ ks)
  | .goto g => b && !decide (g = i + 1)
  | _ => b
noncomputable def keptL (ks : List Nat) : Nat → List Row → List Bool → List Bool
  | i, r :: rs, b :: bs => keepR ks i r b :: keptL ks (i + 1) rs bs
  | _, _, _ => []
theorem keptL_length {ks : List Nat} : ∀ {rs : List Row} {bs : List Bool} (i : Nat), bs.length = rs.length → (keptL ks i rs bs).length = rs.length
  | [], [], _, _ => rfl
  | [], _ :: _, _, h => by simp at h
  | _ :: _, [], _, h => by simp at h
  | r :: rs, b :: bs, i, h => by
    simp only [keptL, List.length_cons]
    rw [keptL_length (i + 1) (by simpa using h)]
theorem keptL_get {ks : List Nat} : ∀ {rs : List Row} {bs : List Bool} (i j : Nat) {r : Row} {b : Bool}, rs[j]? = some r → bs[j]? = some b → (keptL ks i rs bs)[j]? = some (keepR ks (i + j) r b)
  | [], _, _, _, _, _, h, _ => by simp at h
  | _ :: _, [], _, _, _, _, _, h => by simp at h
  | r' :: rs, b' :: bs, i, 0, r, b, h, h' => by
    have e : r' = r := by simpa using h
    have e' : b' = b := by simpa using h'
    subst e e'
    simp [keptL]
  | r' :: rs, b' :: bs, i, j + 1, r, b, h, h' => by
    have := keptL_get (ks := ks) (i + 1) j (r := r) (b := b) (rs := rs) (bs := bs) (by simpa using h) (by simpa using h')
    simp only [keptL, List.getElem?_cons_succ, this]
    congr 2; omega
/-- the list as it stands after i turns -/
noncomputable def mixL (ks : List Nat) (rs : List Row) (bs : List Bool) (i : Nat) : List Bool := (keptL ks 0 rs bs).take i ++ bs.drop i
theorem mixL_set {ks : List Nat} {rs : List Row} {bs : List Bool} {i : Nat} {r : Row} {b : Bool} (hl : bs.length = rs.length) (hr : rs[i]? = some r) (hb : bs[i]? = some b) :
    mixL ks rs bs (i + 1) = (mixL ks rs bs i).set i (keepR ks i r b) ∧ (mixL ks rs bs i)[i]? = some b := by
  have hi : i < rs.length := (List.getElem?_eq_some_iff.mp hr).1
  have hk := keptL_length (ks := ks) 0 hl
  have hg := keptL_get (ks := ks) 0 i hr hb
  rw [Nat.zero_add] at hg
  have ht : ((keptL ks 0 rs bs).take i).length = i := by rw [List.length_take, hk]; omega
  have hd : bs.drop i = b :: bs.drop (i + 1) := by
    rw [List.drop_eq_getElem_cons (by omega)]
    congr 1
    exact Option.some.inj ((List.getElem?_eq_getElem (by omega)).symm.trans hb)
  unfold mixL
  constructor
  · rw [take_snoc hg, hd, List.set_append_right _ _ (by omega), ht, Nat.sub_self, List.set_cons_zero, List.append_assoc]
    rfl
  · rw [List.getElem?_append_right (by omega), ht, Nat.sub_self, hd]
    rfl
theorem mixL_length {ks : List Nat} {rs : List Row} {bs : List Bool} {i : Nat} (hl : bs.length = rs.length) (hi : i ≤ rs.length) : (mixL ks rs bs i).length = rs.length := by
  unfold mixL
  rw [List.length_append, List.length_take, keptL_length 0 hl, List.length_drop]
  omega
theorem set_self {l : List Bool} {i : Nat} {b : Bool} (h : l[i]? = some b) : l.set i b = l := by
  apply List.ext_getElem?
  intro j
  rw [List.getElem?_set]
  split
  · rename_i e; subst e
    have := (List.getElem?_eq_some_iff.mp h).1
    rw [if_pos this, h]
  · rfl
theorem kept_ct (w : World) (fz : Led) (l : Addr) (vs : List Value) (n : Nat) (rs : List Row) (hl : (l, listOf vs.toArray n) ∈ fz) (hrs : RowsIn fz vs rs) (hlen : rs.length ≤ 99) (hc : Closed rs) :
    Ct w 149 [.ref l] fz 8 200 (fun tl x => ∃ lf bs n, x = .ref lf ∧ (lf, listOf (List.map Value.bool (keptL (readsL rs bs) 0 rs bs)).toArray n) ∈ tl ∧ bs.length = rs.length ∧ ∀ i, bs[i]? = some true ↔ Reach rs i) := by
  intro dp un gd cn cs ca ccd cl outer A₀ base h₀ L m news s p loose mean mg mb Q E B F X N T hk hsub hd hu ret
  have hlv : vs.length ≤ 99 := by rw [hrs.length]; exact hlen
  refine wpAny_call ?_
  k_dflt ktr_enter
  (try (refine gen_tk ?_; intro tk0))
  (try (rename Fr _ _ _ _ => F0; have F1 : Fr _ _ _ (fun y => List.lookup y [(Str.ofString "rows", .ref l)]) := F0; clear F0))
  k_steps
  (refine stop_out ?_; (with_reducible show wpAny _ _ (call (Value.ref 135) [_]) _ _ _); k_dflt (refine' ct_use0 (reached_ct _ _ _ _ _ _ ?c0 ?c1 ?c2 ?c3) ?k1 ?k2 ?k3 ?k4 ?k5 ?k6 ?k7 ?k8 ?k9 ?_; (case c0 => assumption); (case c1 => assumption); (case c2 => assumption); (case c3 => assumption); walk_at "sideC"); intro r' tl1 h1 tk1 F' N' o1 P'; obtain ⟨Df, bs, nf, e8, hm1, hbl, hbr⟩ := P'; subst e8)
  k_steps
  refine stop_out ?_
  rename_i h2 F9 N9
  refine' ct_use0 (reads_ct w (tl1 ++ news) l Df vs n nf rs bs (List.mem_append_right _ (hsub _ hl)) (List.mem_append_left _ hm1) (hrs.mono fun q hq => List.mem_append_right _ (hsub q hq)) hlen hbl) ?k0 ?k1 ?k2 N9 ?k4 ?k5 (fun q hq => hq) ?k8 ?k9 ?_
  (case k0 => assumption)
  (case k1 => k_asm)
  (case k2 => k_asm)
  (case k4 => k_asm)
  (case k5 => first | exact rfl | assumption)
  (case k8 => ktr_room)
  (case k9 => ktr_units)
  rintro rd tl2 h3 tk3 F8 N8 o2 ⟨ld, od, rfl, hmd, lo, hdi⟩
  have hq1 : Off Df (tl2 ++ (tl1.filter (fun q => q.1 != Df) ++ news)) := Off.append (Ord.off o2 (List.mem_append_left _ hm1)) (pull_off o1 hm1)
  have N7 : News _ _ h3 ((Df, listOf (bs.map Value.bool).toArray nf) :: (tl2 ++ (tl1.filter (fun q => q.1 != Df) ++ news))) := news_sub N8 fun q hq => by
    simp only [List.mem_cons, List.mem_append, List.mem_filter] at hq ⊢
    rcases hq with h | h | h | h
    · rw [h]; exact .inr (.inl hm1)
    · exact .inl h
    · exact .inr (.inl h.1)
    · exact .inr (.inr h)
  clear N8 N9 F9
  k_steps
  refine stop_out ?_
  have hlb : (bs.map Value.bool).length = bs.length := List.length_map ..
  refine turns_enum (σ := List Bool) (fm := tl2 ++ (tl1.filter (fun q => q.1 != Df) ++ news)) (fun c => [(Df, listOf (c.map Value.bool).toArray nf)]) [Df] (fun _ => []) [Str.ofString "at", Str.ofString "row"]
    (fun i c tl => tl = [] ∧ c = mixL (readsL rs bs) rs bs i) bs rfl (fun _ => rfl) (by k_asm) (by k_asm) ?o1 (List.mem_append_right _ (List.mem_append_right _ (hsub _ hl))) (List.forall_mem_nil _) ⟨rfl, by simp [mixL]⟩ ?turn ?done
  case o1 =>
    intro d hd'
    rw [List.mem_singleton.mp hd']
    exact hq1
  case turn =>
    rintro i T tt v cb tl lg u h tk hi hv hT ⟨rfl, hcb⟩ hord hlg hoff F1 N1
    (try dsimp only at hord F1 N1)
    (try dsimp only [List.cons_append, List.nil_append] at N1)
    have q1 := hoff Df (.head _)
    have hi' : i < rs.length := by rw [← hrs.length]; exact hi
    obtain ⟨r, hr⟩ : ∃ r, rs[i]? = some r := ⟨rs[i], by simp [hi']⟩
    obtain ⟨v', hv', hrv⟩ := hrs.get hr
    obtain rfl : v' = v := by rw [hv] at hv'; cases hv'; rfl
    obtain ⟨b, hb⟩ : ∃ b, bs[i]? = some b := ⟨bs[i]'(by omega), by simp [show i < bs.length by omega]⟩
    have hsub1 : ∀ q ∈ fz, q ∈ lg := fun q hq => hlg q (by simp [hsub q hq])
    have hmd' : (ld, od) ∈ lg := hlg _ (by simp [hmd])
    obtain ⟨hms, hmg⟩ := mixL_set (ks := readsL rs bs) hbl hr hb
    have hcl : cb.length = rs.length := by rw [hcb]; exact mixL_length hbl (by omega)
    rw [← hcb] at hms hmg
    have hset : (cb.map Value.bool).set i (.bool false) = (cb.set i false).map Value.bool := by rw [List.map_set]
    have same : keepR (readsL rs bs) i r b = b → cb = mixL (readsL rs bs) rs bs (i + 1) := fun e => by rw [hms, e, set_self hmg]
    have cut : keepR (readsL rs bs) i r b = false → cb.set i false = mixL (readsL rs bs) rs bs (i + 1) := fun e => by rw [hms, e]
    have hrv' := hrv
    clear hlg hoff F N hord hq1
    cases hrv
    case const a c d n1 n2 b0 t1 t2 t3 hm hm' =>
      by_cases hin : d ∈ readsL rs bs
      · k_steps
        exact tend_next cb [] (by k_asm) (news_sub (by assumption) (fun q hq => hq)) Ord.nil (by ((repeat refine List.forall_mem_cons.mpr ⟨rfl, ?_⟩); exact List.forall_mem_nil _)) (by (intro z hz1 hz2; repeat (first | exact fmap_off hz1 hz2 | exact rfl | exact if_neg (fun e => Bool.false_ne_true (hz2.symm.trans e)) | refine (if_neg (ne_stored hz2 (by decide +kernel))).trans ?_ | refine (if_neg (hz1 _ (.head _))).trans ?_ | refine (if_neg (hz1 _ (.tail _ (.head _)))).trans ?_ | refine (if_neg (hz1 _ (.tail _ (.tail _ (.head _))))).trans ?_ | refine (fmap_off (ps := []) (List.forall_mem_nil _) (sub_contains hz2 (by decide +kernel))).trans ?_))) ⟨rfl, same (by simp [keepR, hin])⟩
      · k_steps
        rename News _ _ _ _ => N5
        rw [hset] at N5
        exact tend_next (cb.set i false) [] (by k_asm) N5 Ord.nil (by ((repeat refine List.forall_mem_cons.mpr ⟨rfl, ?_⟩); exact List.forall_mem_nil _)) (by (intro z hz1 hz2; repeat (first | exact fmap_off hz1 hz2 | exact rfl | exact if_neg (fun e => Bool.false_ne_true (hz2.symm.trans e)) | refine (if_neg (ne_stored hz2 (by decide +kernel))).trans ?_ | refine (if_neg (hz1 _ (.head _))).trans ?_ | refine (if_neg (hz1 _ (.tail _ (.head _)))).trans ?_ | refine (if_neg (hz1 _ (.tail _ (.tail _ (.head _))))).trans ?_ | refine (fmap_off (ps := []) (List.forall_mem_nil _) (sub_contains hz2 (by decide +kernel))).trans ?_))) ⟨rfl, cut (by simp [keepR, hin])⟩
    case move a d sr n1 t1 t2 t3 hm =>
      by_cases hin : d ∈ readsL rs bs
      · k_steps
        exact tend_next cb [] (by k_asm) (news_sub (by assumption) (fun q hq => hq)) Ord.nil (by ((repeat refine List.forall_mem_cons.mpr ⟨rfl, ?_⟩); exact List.forall_mem_nil _)) (by (intro z hz1 hz2; repeat (first | exact fmap_off hz1 hz2 | exact rfl | exact if_neg (fun e => Bool.false_ne_true (hz2.symm.trans e)) | refine (if_neg (ne_stored hz2 (by decide +kernel))).trans ?_ | refine (if_neg (hz1 _ (.head _))).trans ?_ | refine (if_neg (hz1 _ (.tail _ (.head _)))).trans ?_ | refine (if_neg (hz1 _ (.tail _ (.tail _ (.head _))))).trans ?_ | refine (fmap_off (ps := []) (List.forall_mem_nil _) (sub_contains hz2 (by decide +kernel))).trans ?_))) ⟨rfl, same (by simp [keepR, hin])⟩
      · k_steps
        rename News _ _ _ _ => N5
        rw [hset] at N5
        exact tend_next (cb.set i false) [] (by k_asm) N5 Ord.nil (by ((repeat refine List.forall_mem_cons.mpr ⟨rfl, ?_⟩); exact List.forall_mem_nil _)) (by (intro z hz1 hz2; repeat (first | exact fmap_off hz1 hz2 | exact rfl | exact if_neg (fun e => Bool.false_ne_true (hz2.symm.trans e)) | refine (if_neg (ne_stored hz2 (by decide +kernel))).trans ?_ | refine (if_neg (hz1 _ (.head _))).trans ?_ | refine (if_neg (hz1 _ (.tail _ (.head _)))).trans ?_ | refine (if_neg (hz1 _ (.tail _ (.tail _ (.head _))))).trans ?_ | refine (fmap_off (ps := []) (List.forall_mem_nil _) (sub_contains hz2 (by decide +kernel))).trans ?_))) ⟨rfl, cut (by simp [keepR, hin])⟩
    case goto a g n1 t1 t2 hm =>
      k_steps
      · rename ((_ : Int) = (_ : Int)) => he
        have he' : g = i + 1 := by omega
        rename News _ _ _ _ => N5
        rw [hset] at N5
        exact tend_next (cb.set i false) [] (by k_asm) N5 Ord.nil (by ((repeat refine List.forall_mem_cons.mpr ⟨rfl, ?_⟩); exact List.forall_mem_nil _)) (by (intro z hz1 hz2; repeat (first | exact fmap_off hz1 hz2 | exact rfl | exact if_neg (fun e => Bool.false_ne_true (hz2.symm.trans e)) | refine (if_neg (ne_stored hz2 (by decide +kernel))).trans ?_ | refine (if_neg (hz1 _ (.head _))).trans ?_ | refine (if_neg (hz1 _ (.tail _ (.head _)))).trans ?_ | refine (if_neg (hz1 _ (.tail _ (.tail _ (.head _))))).trans ?_ | refine (fmap_off (ps := []) (List.forall_mem_nil _) (sub_contains hz2 (by decide +kernel))).trans ?_))) ⟨rfl, cut (by simp [keepR, he'])⟩
      · rename ((_ : Int) ≠ (_ : Int)) => he
        have he' : ¬ g = i + 1 := by omega
        exact tend_next cb [] (by k_asm) (news_sub (by assumption) (fun q hq => hq)) Ord.nil (by ((repeat refine List.forall_mem_cons.mpr ⟨rfl, ?_⟩); exact List.forall_mem_nil _)) (by (intro z hz1 hz2; repeat (first | exact fmap_off hz1 hz2 | exact rfl | exact if_neg (fun e => Bool.false_ne_true (hz2.symm.trans e)) | refine (if_neg (ne_stored hz2 (by decide +kernel))).trans ?_ | refine (if_neg (hz1 _ (.head _))).trans ?_ | refine (if_neg (hz1 _ (.tail _ (.head _)))).trans ?_ | refine (if_neg (hz1 _ (.tail _ (.tail _ (.head _))))).trans ?_ | refine (fmap_off (ps := []) (List.forall_mem_nil _) (sub_contains hz2 (by decide +kernel))).trans ?_))) ⟨rfl, same (by simp [keepR, he'])⟩
    case jif a r0 g n1 t1 t2 t3 hm =>
      k_steps
      exact tend_next cb [] (by k_asm) (news_sub (by assumption) (fun q hq => hq)) Ord.nil (by ((repeat refine List.forall_mem_cons.mpr ⟨rfl, ?_⟩); exact List.forall_mem_nil _)) (by (intro z hz1 hz2; repeat (first | exact fmap_off hz1 hz2 | exact rfl | exact if_neg (fun e => Bool.false_ne_true (hz2.symm.trans e)) | refine (if_neg (ne_stored hz2 (by decide +kernel))).trans ?_ | refine (if_neg (hz1 _ (.head _))).trans ?_ | refine (if_neg (hz1 _ (.tail _ (.head _)))).trans ?_ | refine (if_neg (hz1 _ (.tail _ (.tail _ (.head _))))).trans ?_ | refine (fmap_off (ps := []) (List.forall_mem_nil _) (sub_contains hz2 (by decide +kernel))).trans ?_))) ⟨rfl, same (by simp [keepR])⟩
    case ret a s0 n1 t1 t2 hm =>
      k_steps
      exact tend_next cb [] (by k_asm) (news_sub (by assumption) (fun q hq => hq)) Ord.nil (by ((repeat refine List.forall_mem_cons.mpr ⟨rfl, ?_⟩); exact List.forall_mem_nil _)) (by (intro z hz1 hz2; repeat (first | exact fmap_off hz1 hz2 | exact rfl | exact if_neg (fun e => Bool.false_ne_true (hz2.symm.trans e)) | refine (if_neg (ne_stored hz2 (by decide +kernel))).trans ?_ | refine (if_neg (hz1 _ (.head _))).trans ?_ | refine (if_neg (hz1 _ (.tail _ (.head _)))).trans ?_ | refine (if_neg (hz1 _ (.tail _ (.tail _ (.head _))))).trans ?_ | refine (fmap_off (ps := []) (List.forall_mem_nil _) (sub_contains hz2 (by decide +kernel))).trans ?_))) ⟨rfl, same (by simp [keepR])⟩
  case done =>
    rintro cb tl u h tk ⟨rfl, hcb⟩ hord F1 N1
    (try dsimp only at hord F1 N1)
    (try dsimp only [List.cons_append, List.nil_append] at N1)
    have hcb2 : cb = keptL (readsL rs bs) 0 rs bs := by
      rw [hcb, mixL, List.take_of_length_le (by rw [keptL_length 0 hbl, hrs.length]; exact Nat.le_refl _), List.drop_of_length_le (by rw [hrs.length]; omega), List.append_nil]
    subst hcb2
    k_steps
    refine ret _ ((Df, _) :: (tl2 ++ tl1.filter (fun q => q.1 != Df))) _ _ (by k_asm) (news_sub (by assumption) ?_) ?_ ⟨Df, bs, nf, rfl, .head _, hbl, hbr⟩
    · intro q hq
      simpa using hq
    · exact Ord.cons (allLt_of fun q hq => o1 q hq _ hm1) (Ord.append (o2.sub fun q hq => List.mem_append_right _ hq) (pull_ord o1))
end Mine

namespace Mine
section
variable {prog : Program} {w : World} {A : Around} {E : Value → Shared → Prop} {s : Shared} {h₀ : Heap} {L : Addr} {m : Str → Option Value} {news : Led}
theorem ne_nil_G {l b : Addr} {vs : List Value} {ns : List Nat} {n n2 : Nat} {Q : Value → Shared → Prop} (N : News h₀ L s.heap news) (hl : (l, listOf vs.toArray n) ∈ news) (hb : (b, listOf #[] n2) ∈ news) (hi : IntsV vs ns) (hne : ns = []) (hu : A.units + 64 < cLine)
    (h : Q (.bool false) s) : wpAny (model prog w) A (compareOp .NotEq (.ref l) (.ref b)) Q E s :=
  ne_nil_led N hl hb hi hu (by subst hne; exact h)
end
end Mine
-- MACROS
local macro_rules | `(tactic| walk_at "compareOp NotEq ref ref") => `(tactic| (k_here; k_dflt (first | (refine' ne_nil_T ?N ?l ?b ?i ?e ?u ?_; (case N => k_asm); (case i | e => with_reducible assumption); (case l | b => k_mem); (case u => ktr_units)) | (refine' ne_nil_G ?N ?l ?b ?i ?e ?u ?_; (case N => k_asm); (case i | e => with_reducible assumption); (case l | b => k_mem); (case u => ktr_units)) | (refine' ne_nil_F ?N ?l ?b ?u ?_; (case N => k_asm); (case l | b => k_mem); (case u => ktr_units)))))
local macro_rules | `(tactic| k_all) => `(tactic| first | (with_reducible exact off_ne (by assumption)) | (with_reducible assumption) | ((with_reducible refine off_append ?_ ?_) <;> k_all) | exact off_ne (Ord.off (by with_reducible assumption) (by walk_at "memN")) | exact Off.nil | (refine off_cons ?_ ?_; (k_ne); k_all) | exact off_lt (by walk_at "lt") | (refine off_append ?_ ?_ <;> k_all))
-- END
namespace Mine
theorem tab_lt {c : TB} {news : Led} {L : Addr} (l0 : ∀ p ∈ tabs c ++ news, p.1 < L) : @LT.lt Nat _ 123 L ∧ @LT.lt Nat _ 158 L ∧ AllLt (L + 1) news :=
  ⟨l0 _ (.head _), l0 _ (.tail _ (.head _)), allLt_succ (allLt_of fun q hq => l0 q (List.mem_append_right _ hq))⟩
theorem allLt_app_r {d : Addr} : ∀ {a b : Led}, AllLt d (a ++ b) → AllLt d b
  | [], _, h => h
  | _ :: _, _, h => allLt_app_r h.2
theorem rot5 {h₀ h : Heap} {L : Addr} {x y z t1 t2 : Addr × Obj} {r : Led} (N : News h₀ L h (x :: y :: z :: t1 :: t2 :: r)) : News h₀ L h (t1 :: t2 :: y :: z :: r) := news_sub N fun q hq => by
  exact sub_at hq (by walk_at "sub")
theorem drop_mid {h₀ h : Heap} {L : Addr} {t1 t2 t3 y : Addr × Obj} {a tg lg : Led} (N : News h₀ L h (t1 :: t2 :: t3 :: (a ++ (y :: (tg ++ lg))))) : News h₀ L h (t1 :: t2 :: t3 :: (a ++ lg)) := news_sub N fun q hq => by
  exact sub_at hq (by walk_at "sub")
theorem drop_mid2 {h₀ h : Heap} {L : Addr} {t1 t2 t3 x y : Addr × Obj} {tg lg : Led} (N : News h₀ L h (x :: t1 :: t2 :: t3 :: y :: (tg ++ lg))) : News h₀ L h (t1 :: t2 :: t3 :: ([] ++ lg)) := news_sub N fun q hq => by
  exact sub_at hq (by walk_at "sub")
theorem news_snd {h₀ h : Heap} {L a : Addr} {x : Addr × Obj} {o o' : Obj} {l : Led} (N : News h₀ L h (x :: (a, o) :: l)) (e : o = o') : News h₀ L h (x :: (a, o') :: l) := e ▸ N
theorem IntsV.at {vs : List Value} {ns : List Nat} (h : IntsV vs ns) : ∀ {i x : Nat}, ns[i]? = some x → ∃ t, vs[i]? = some (.int (x : Int) t) := by
  induction h with
  | nil => intro i x e; simp at e
  | @cons t a vs ns h ih =>
    intro i x e
    cases i with
    | zero =>
      have e' : t = x := by simpa using e
      subst e'
      exact ⟨a, rfl⟩
    | succ i => obtain ⟨t', h1⟩ := ih (i := i) (x := x) (by simpa using e); exact ⟨t', by simpa using h1⟩
noncomputable def cutL (φ : Nat → Nat) : List Row → List Bool → List Row
  | r :: rs, b :: bs => (if b then [turnR φ r] else []) ++ cutL φ rs bs
  | _, _ => []
theorem cutL_take {φ : Nat → Nat} : ∀ {rs : List Row} {bs : List Bool} {i : Nat} {r : Row} {b : Bool}, rs[i]? = some r → bs[i]? = some b →
    cutL φ (rs.take (i + 1)) (bs.take (i + 1)) = cutL φ (rs.take i) (bs.take i) ++ (if b then [turnR φ r] else [])
  | [], _, _, _, _, h, _ => by simp at h
  | _ :: _, [], _, _, _, _, h => by simp at h
  | r' :: rs, b' :: bs, 0, r, b, h, h' => by
    have e : r' = r := by simpa using h
    have e' : b' = b := by simpa using h'
    subst e e'
    simp [cutL]
  | r' :: rs, b' :: bs, i + 1, r, b, h, h' => by
    have ih := cutL_take (φ := φ) (rs := rs) (bs := bs) (i := i) (r := r) (b := b) (by simpa using h) (by simpa using h')
    simp only [List.take_succ_cons, cutL, ih, List.append_assoc]
theorem cutL_len {φ : Nat → Nat} : ∀ (rs : List Row) (bs : List Bool), (cutL φ rs bs).length ≤ rs.length
  | [], _ => by simp [cutL]
  | _ :: _, [] => by simp [cutL]
  | r :: rs, b :: bs => by
    have := cutL_len (φ := φ) rs bs
    simp only [cutL, List.length_append, List.length_cons]
    cases b <;> simp <;> omega
theorem placesL_length : ∀ (bs : List Bool) (k : Nat), (placesL k bs).length = bs.length
  | [], _ => rfl
  | b :: bs, k => by simp [placesL, placesL_length bs]
noncomputable def placeF (bs : List Bool) (g : Nat) : Nat := (placesL 0 bs).getD g 0
noncomputable def cut (rs : List Row) (bs : List Bool) : List Row := cutL (placeF bs) rs bs
set_option maxHeartbeats 8000000 in
theorem cut_ct (w : World) (fz : Led) (l lk : Addr) (vs : List Value) (n nk : Nat) (rs : List Row) (bs : List Bool) (hl : (l, listOf vs.toArray n) ∈ fz) (hlk : (lk, listOf (bs.map Value.bool).toArray nk) ∈ fz) (hrs : RowsIn fz vs rs) (hlen : rs.length ≤ 99) (hbs : bs.length = rs.length) (hcl : ∀ r ∈ rs, ∀ g ∈ goals r, g < rs.length) (c : TB) (hc : TOk fz c) :
    CtM w 163 [.ref l, .ref lk] fz 6 150 c (fun c' tl x => ∃ lf vs' n, x = .ref lf ∧ (lf, listOf vs'.toArray n) ∈ tl ∧ RowsIn (tl ++ fz) vs' (cut rs bs) ∧ TOk (tl ++ fz) c') := by
  intro dp un gd cn cs ca ccd cl outer A₀ base h₀ L m news s p loose mean mg mb Q E B F X N T hk hsub ho1 ho2 hC1 hC2 hd hu ret
  have hlv : vs.length ≤ 99 := by rw [hrs.length]; exact hlen
  have hlm : (bs.map Value.bool).length ≤ 99 := by rw [List.length_map]; omega
  have hbs99 : bs.length ≤ 99 := by omega
  have hsk : SeqIn fz lk (bs.map Value.bool) := ⟨nk, .inl hlk⟩
  refine wpAny_call ?_
  k_dflt ((refine' code_defC ?k1 ?k2 ?k3 ?k4 ?k5 ?kA ?kF ?kK ?k6 ?k7 ?k8 ?k9 ?kB ?kD ?_ ?c2 ?c3 ?c4; (case kA => exact rfl); (case kF => exact rfl); (case kK => first | exact rfl | assumption); (case k1 => k_asm); (case k2 => k_asm); (case k3 => k_asm); (case k4 => k_asm); (case k5 => k_asm); (case k6 => k_is); (case k7 => k_is); (case k8 => ktr_room); (case k9 => exact BindsTo.of_eq rfl); (case kB => exact rfl); (case kD => decide +kernel); (case c2 => exact rfl); (case c3 => exact rfl); (case c4 => exact rfl); k_whole; intro g9 L9 h7 tk9 cells' FG9 F' N' Y' B9 X9 T9 l0; (try k_lt l0); k_cells Y'; (try dsimp only [List.cons_append, List.nil_append] at N'); (try dsimp only); (try k_fold)))
  (try (refine gen_tk ?_; intro tk0))
  rename (∀ p ∈ tabs c ++ news, p.1 < _) => l0
  have l05 := tab_lt l0
  k_steps
  (refine stop_out ?_; (with_reducible show wpAny _ _ (call (Value.ref 156) [_]) _ _ _); k_dflt (refine' ct_use3 (places_ct _ _ _ _ _ ?c0 ?c1) ?k1 ?k2 ?k3 ?k4 ?k5 ?k6 ?k7 ?k8 ?k9 ?_; (case c0 => assumption); (case c1 => assumption); walk_at "sideC"); intro r' tl1 h1 tk1 F' N' oo P'; obtain ⟨lp, vsp, np, e8, hmp, hip⟩ := P'; subst e8)
  k_steps
  refine stop_out ?_
  rename_i o0 d0 Df h2 l1 Dt h3 l2 h4 h5 o9 d8 h6 F9 N9
  have l91 : AllLt Df (tabs c ++ news) := ⟨l1.2.1, l1.2.2.1, allLt_app_r l1.2.2.2⟩
  have l92 : AllLt (L9 + 1 : Nat) (tabs c ++ news) := allLt_succ (allLt_of l0)
  have hvp : vsp.length = rs.length := by rw [hip.length, placesL_length, hbs]
  have hvx : ∀ g < rs.length, ∃ t, vsp[g]? = some (.int (placeF bs g : Int) t) := fun g hg => hip.at (by
    have : g < (placesL 0 bs).length := by rw [placesL_length, hbs]; exact hg
    simp [placeF, List.getD_eq_getElem?_getD, List.getElem?_eq_getElem this])
  have hoc : Off (L9 + 1 : Nat) tl1 := Ord.off oo (.head _)
  have ho123 : Off 123 tl1 := Ord.off oo (.tail _ (.head _))
  have ho158 : Off 158 tl1 := Ord.off oo (.tail _ (.tail _ (.head _)))
  refine turns_enum (σ := TB × List Value × Nat) (fm := ((L9 + 1 : Nat), o9) :: (tl1 ++ news)) (fun c => [(123, tabObj (tA c.1.1)), (158, tabObj (tB c.1.2)), (Df, listOf c.2.1.toArray c.2.2)]) [123, 158, Df] (fun _ => []) [Str.ofString "at", Str.ofString "row"]
    (fun i c tl => RowsIn (tl ++ ((L9 + 1 : Nat), o9) :: (tl1 ++ fz)) c.2.1 (cutL (placeF bs) (rs.take i) (bs.take i)) ∧ TOk (tl ++ ((L9 + 1 : Nat), o9) :: (tl1 ++ fz)) c.1) (c, [], 0) rfl (fun _ => rfl) (by k_asm) (rot5 N9) ?o1 (List.mem_cons_of_mem _ (List.mem_append_right _ (hsub _ hl))) (List.forall_mem_nil _) ⟨.nil, hc.mono fun q hq => sub_at hq (by walk_at "sub")⟩ ?turn ?done
  case o1 =>
    intro d hd'
    simp only [List.mem_cons, List.not_mem_nil, or_false] at hd'
    rcases hd' with rfl | rfl | rfl
    · exact off_cons (by k_ne) (by k_all)
    · exact off_cons (by k_ne) (by k_all)
    · exact off_cons (by k_ne) (off_lt l1.2.2.2)
  case turn =>
    rintro i T tt v ⟨⟨tA1, tB1⟩, ws, nw⟩ tl lg u h tk hi hv hT ⟨hw, htk⟩ hord hlg hoff F1 N1
    (try dsimp only at hw htk hord F1 N1)
    (try dsimp only [List.cons_append, List.nil_append] at N1)
    have hlg1 : ∀ q ∈ tl ++ ((L9 + 1 : Nat), o9) :: (tl1 ++ fz), q ∈ lg := fun q hq => hlg q (by
      exact sub_at hq (by walk_at "sub"))
    have hlg2 : (((L9 + 1 : Nat), o9) : Addr × Obj) ∈ lg := hlg1 _ (by walk_at "memS")
    have hsub1 : ∀ q ∈ fz, q ∈ lg := fun q hq => hlg1 q (by walk_at "memS")
    have q1 := hoff 123 (.head _)
    have q2 := hoff 158 (.tail _ (.head _))
    have q3 := hoff Df (.tail _ (.tail _ (.head _)))
    have l5 : @LT.lt Nat _ 123 Df ∧ @LT.lt Nat _ 158 Df ∧ True := ⟨l1.2.1, l1.2.2.1, trivial⟩
    have hi' : i < rs.length := by rw [← hrs.length]; exact hi
    obtain ⟨r, hr⟩ : ∃ r, rs[i]? = some r := ⟨rs[i], by simp [hi']⟩
    obtain ⟨v', hv', hrv⟩ := hrs.get hr
    obtain rfl : v' = v := by rw [hv] at hv'; cases hv'; rfl
    obtain ⟨b, hb⟩ : ∃ b, bs[i]? = some b := ⟨bs[i]'(by omega), by simp [show i < bs.length by omega]⟩
    have hbv : (bs.map Value.bool)[i]? = some (.bool b) := by simp [hb]
    have hwl : ws.length ≤ 99 := by rw [hw.length]; have := cutL_len (φ := placeF bs) (rs.take i) (bs.take i); rw [List.length_take] at this; omega
    have hrv' := hrv
    have hrm := List.mem_of_getElem? hr
    have htake := cutL_take (φ := placeF bs) hr hb
    clear hlg hoff F N F9 N9 l0 hord
    cases b with
    | false =>
      k_steps
      exact tend_next ((tA1, tB1), ws, nw) [] (by k_asm) (by k_asm) Ord.nil (by ((repeat refine List.forall_mem_cons.mpr ⟨rfl, ?_⟩); exact List.forall_mem_nil _)) (by (intro z hz1 hz2; repeat (first | exact fmap_off hz1 hz2 | exact rfl | exact if_neg (fun e => Bool.false_ne_true (hz2.symm.trans e)) | refine (if_neg (ne_stored hz2 (by decide +kernel))).trans ?_ | refine (if_neg (hz1 _ (.head _))).trans ?_ | refine (if_neg (hz1 _ (.tail _ (.head _)))).trans ?_ | refine (if_neg (hz1 _ (.tail _ (.tail _ (.head _))))).trans ?_ | refine (fmap_off (ps := []) (List.forall_mem_nil _) (sub_contains hz2 (by decide +kernel))).trans ?_))) ⟨by rw [htake]; simpa using hw, htk⟩
    | true =>
      simp only [if_true] at htake
      obtain ⟨av, rfl⟩ := hrv.isRef
      by_cases hg0 : goals r = []
      · k_steps
        repeat' ((refine stop_out ?_; (with_reducible show wpAny _ _ (call (Value.ref 101) [_]) _ _ _); k_dflt (refine' ct_use3 (goals_ct _ _ _ _ ?c0) ?k1 ?k2 ?k3 ?k4 ?k5 ?k6 ?k7 ?k8 ?k9 ?_; (case c0 => assumption); walk_at "sideC"); intro r' tl' h' tk' F' N' o' P'; obtain ⟨lg', vsg', ng', tg', e9, e8, hg'⟩ := P'; subst e9; (have hmg' := List.Mem.head (a := ((lg', listOf vsg'.toArray ng') : Addr × Obj)) tg'); (have hgl' := Nat.le_trans (Nat.le_of_eq hg'.length) (goals_len _)); subst e8); k_steps)
        exact tend_next ((tA1, tB1), ws ++ [_], nw + 1) [] (by k_asm) (drop_mid2 (by assumption)) Ord.nil (by ((repeat refine List.forall_mem_cons.mpr ⟨rfl, ?_⟩); exact List.forall_mem_nil _)) (by (intro z hz1 hz2; repeat (first | exact fmap_off hz1 hz2 | exact rfl | exact if_neg (fun e => Bool.false_ne_true (hz2.symm.trans e)) | refine (if_neg (ne_stored hz2 (by decide +kernel))).trans ?_ | refine (if_neg (hz1 _ (.head _))).trans ?_ | refine (if_neg (hz1 _ (.tail _ (.head _)))).trans ?_ | refine (if_neg (hz1 _ (.tail _ (.tail _ (.head _))))).trans ?_ | refine (fmap_off (ps := []) (List.forall_mem_nil _) (sub_contains hz2 (by decide +kernel))).trans ?_))) ⟨by rw [htake, turn_none hg0]; exact hw.snoc (hrv'.mono fun q hq => sub_at hq (by walk_at "sub")), htk⟩
      · have hg1 : goals r ≠ [] := hg0
        clear hg0
        cases tB1 with
        | none =>
          k_steps
          repeat' ((refine stop_out ?_; (with_reducible show wpAny _ _ (call (Value.ref 101) [_]) _ _ _); k_dflt (refine' ct_use3 (goals_ct _ _ _ _ ?c0) ?k1 ?k2 ?k3 ?k4 ?k5 ?k6 ?k7 ?k8 ?k9 ?_; (case c0 => assumption); walk_at "sideC"); intro r' tl' h' tk' F' N' o' P'; obtain ⟨lg', vsg', ng', tg', e9, e8, hg'⟩ := P'; subst e9; (have hmg' := List.Mem.head (a := ((lg', listOf vsg'.toArray ng') : Addr × Obj)) tg'); (have hgl' := Nat.le_trans (Nat.le_of_eq hg'.length) (goals_len _)); subst e8); k_steps)
          refine stop_out ?_
          rename_i f1 c1 oc1 vs1 tt1 ct1 h11 k11 F11 N11 d11 d12 l11 l12 f2 c2 oc2 vs2 tt2 ct2 h21 k21 F21 N21 d21 d22 l21 l22
          obtain ⟨fz', hfz', m1, m2, m3, m4, hbs, hfs⟩ := led_four N21 (tl ++ ((L9 + 1 : Nat), o9) :: (tl1 ++ fz)) (fun q hq => List.mem_append_right _ (hlg1 q hq))
          have mcell : (((L9 + 1 : Nat), o9) : Addr × Obj) ∈ fz' := hbs _ (by walk_at "memS")
          have hsp : SeqIn fz' lp vsp := ⟨np, .inl (hbs _ (by walk_at "memS"))⟩
          have hfz2 : ∀ q ∈ fz, q ∈ fz' := fun q hq => hbs _ (by walk_at "memS")
          have hreg : ∀ (n : Nat) (t : Tok), Ct w f1 [.int (n : Int) t] fz' 1 16 (fun tl x => tl = [] ∧ x = .int (n : Int) t) := by
            ((repeat (with_reducible rename News _ _ _ _ => hkx; clear hkx)); (repeat (with_reducible rename Fr _ _ _ _ => hkx; clear hkx)); (repeat (with_reducible rename Below _ _ _ _ => hkx; clear hkx)); (repeat (with_reducible rename Top _ _ _ _ _ _ => hkx; clear hkx)); (repeat (with_reducible rename Heap.In _ _ => hkx; clear hkx)); (repeat (with_reducible rename Ord _ _ => hkx; clear hkx)); (repeat (with_reducible rename Off _ _ => hkx; clear hkx)); (repeat (with_reducible rename AllLt _ _ => hkx; clear hkx)); (repeat (with_reducible rename CodeHd _ _ _ => hkx; clear hkx)); (repeat (with_reducible rename TOk _ _ => hkx; clear hkx)); (repeat (with_reducible rename RowIn _ _ _ => hkx; clear hkx)); (repeat (with_reducible rename (_ ∧ _) => hkx; clear hkx)); (repeat (with_reducible rename ((_ : Nat) < _) => hkx; clear hkx)))
            intro n t dp un gd cn cs ca ccd cl outer A₀ base h₀ L m news s p loose mean mg mb Q E B F X N T hk hsub hd hu ret
            refine wpAny_call ?_
            k_dflt ((refine' kla_code ?k1 ?k2 ?k3 ?k4 ?k5 ?kA ?kF ?kK ?k6 ?k7 ?k8 ?k9 ?kB ?_ ?c2 ?c3 ?c4 ?c5; (case kA => exact rfl); (case kF => exact rfl); (case kK => first | exact rfl | assumption); (case k1 => k_asm); (case k2 => k_asm); (case k3 => k_asm); (case k4 => k_asm); (case k5 => k_asm); (case k6 => k_mem); (case k7 => exact codeRec_news (by k_asm) (by k_mem) (by assumption) (by assumption)); (case k8 => ktr_room); (case k9 => exact rfl); (case c5 => decide); (case kB => exact locs rfl); (case c2 => exact rfl); (case c3 => exact rfl); (case c4 => exact rfl); k_whole; intro g' L' h' FG' F' N' B' X' T'; (try dsimp only); (try k_fold)))
            k_steps
            exact ret _ [] _ _ (by k_asm) (by k_asm) Ord.nil ⟨rfl, rfl⟩
          have hgoal : ∀ g < rs.length, ∀ t : Tok, Ct w f2 [.int (g : Int) t] fz' 2 40 (fun tl x => tl = [] ∧ ∃ t', x = .int (placeF bs g : Int) t') := by
            ((repeat (with_reducible rename News _ _ _ _ => hkx; clear hkx)); (repeat (with_reducible rename Fr _ _ _ _ => hkx; clear hkx)); (repeat (with_reducible rename Below _ _ _ _ => hkx; clear hkx)); (repeat (with_reducible rename Top _ _ _ _ _ _ => hkx; clear hkx)); (repeat (with_reducible rename Heap.In _ _ => hkx; clear hkx)); (repeat (with_reducible rename Ord _ _ => hkx; clear hkx)); (repeat (with_reducible rename Off _ _ => hkx; clear hkx)); (repeat (with_reducible rename AllLt _ _ => hkx; clear hkx)); (repeat (with_reducible rename CodeHd _ _ _ => hkx; clear hkx)); (repeat (with_reducible rename TOk _ _ => hkx; clear hkx)); (repeat (with_reducible rename RowIn _ _ _ => hkx; clear hkx)); (repeat (with_reducible rename (_ ∧ _) => hkx; clear hkx)); (repeat (with_reducible rename ((_ : Nat) < _) => hkx; clear hkx)))
            intro g hg t dp un gd cn cs ca ccd cl outer A₀ base h₀ L m news s p loose mean mg mb Q E B F X N T hk hsub hd hu ret
            obtain ⟨tg9, hvg⟩ := hvx g hg
            have hvl9 : vsp.length ≤ 99 := by omega
            refine wpAny_call ?_
            k_dflt ((refine' kla_code ?k1 ?k2 ?k3 ?k4 ?k5 ?kA ?kF ?kK ?k6 ?k7 ?k8 ?k9 ?kB ?_ ?c2 ?c3 ?c4 ?c5; (case kA => exact rfl); (case kF => exact rfl); (case kK => first | exact rfl | assumption); (case k1 => k_asm); (case k2 => k_asm); (case k3 => k_asm); (case k4 => k_asm); (case k5 => k_asm); (case k6 => k_mem); (case k7 => exact codeRec_news (by k_asm) (by k_mem) (by assumption) (by assumption)); (case k8 => ktr_room); (case k9 => exact rfl); (case c5 => decide); (case kB => exact locs rfl); (case c2 => exact rfl); (case c3 => exact rfl); (case c4 => exact rfl); k_whole; intro g' L' h' FG' F' N' B' X' T'; (try dsimp only); (try k_fold)))
            walk1
            (k_dflt (refine' nameX_F ?N ?c ?m ?d ?_ ?a ?b; (case a => rfl); (case b => rfl); (case N => k_asm); (case c => rfl); (case m => k_mem); (case d => k_asm); k_whole))
            k_steps
            exact ret _ [] _ _ (by k_asm) (by k_asm) Ord.nil ⟨rfl, _, rfl⟩
          refine' ct_use0 (turned_ct w fz' _ _ (hrv'.mono hfz2) hg1 f1 f2 ?m1 ?m2 (placeF bs) hreg (fun g hg => hgoal g (hcl _ hrm g hg))) ?k0 ?k1 ?k2 N21 ?k4 ?k5 hfs ?k8 ?k9 ?_
          (case m1 => assumption)
          (case m2 => assumption)
          (case k0 => assumption)
          (case k1 => k_asm)
          (case k2 => k_asm)
          (case k4 => k_asm)
          (case k5 => first | exact rfl | assumption)
          (case k8 => ktr_room)
          (case k9 => ktr_units)
          intro rr tr hr9 kr Fr9 Nr or Pr
          have Nq := drop_mid (news_snd (o' := tabObj (tB (some (c1, c2)))) (led_back4 Nr) (by first | exact rfl | simp [tB]))
          clear Nr N21 N11 hreg hgoal
          have hoD : Off Df tr := Ord.off or (by walk_at "memN")
          k_steps
          have a1 : AllLt c1 ((123, tabObj (tA tA1)) :: (158, tabObj (tB none)) :: (Df, listOf ws.toArray nw) :: lg) := ⟨l11.2.1, l11.2.2.1, l11.2.2.2.1, allLt_app_r l11.2.2.2.2⟩
          have a3 : AllLt c2 ((123, tabObj (tA tA1)) :: (158, tabObj (tB none)) :: (Df, listOf ws.toArray nw) :: lg) := ⟨l21.2.2.2.1, l21.2.2.2.2.1, l21.2.2.2.2.2.1, allLt_app_r l21.2.2.2.2.2.2⟩
          refine tend_next ((tA1, some (c1, c2)), ws ++ [rr], nw + 1) (tr ++ [_, _, _, _]) (by k_asm) (by assumption) ?_ (by ((repeat refine List.forall_mem_cons.mpr ⟨rfl, ?_⟩); exact List.forall_mem_nil _)) (by (intro z hz1 hz2; repeat (first | exact fmap_off hz1 hz2 | exact rfl | exact if_neg (fun e => Bool.false_ne_true (hz2.symm.trans e)) | refine (if_neg (ne_stored hz2 (by decide +kernel))).trans ?_ | refine (if_neg (hz1 _ (.head _))).trans ?_ | refine (if_neg (hz1 _ (.tail _ (.head _)))).trans ?_ | refine (if_neg (hz1 _ (.tail _ (.tail _ (.head _))))).trans ?_ | refine (fmap_off (ps := []) (List.forall_mem_nil _) (sub_contains hz2 (by decide +kernel))).trans ?_))) ?_
          · exact Ord.append (or.subA fun q hq => by
              simp only [List.mem_append, List.mem_cons, List.not_mem_nil, or_false] at hq
              rcases hq with (h | h | h) | h
              · exact ⟨q, by simp [h], rfl⟩
              · exact ⟨_, .tail _ (.tail _ (.tail _ (.tail _ (.tail _ (.tail _ (.head _)))))), by rw [h]⟩
              · exact ⟨q, by simp [h], rfl⟩
              · exact ⟨q, by simp [h], rfl⟩) (Ord.cons (allLt_mono l22 a3) (Ord.cons a3 (Ord.cons (allLt_mono l12 a1) (Ord.cons a1 Ord.nil))))
          · subst hfz'
            refine ⟨?_, ?_⟩
            · rw [htake]
              refine RowsIn.snoc (hw.mono fun q hq => ?_) (Pr.mono fun q hq => ?_)
              · exact sub_at hq (by walk_at "sub")
              · exact sub_at hq (by walk_at "sub")
            · refine ⟨fun a b e => ?_, fun a b e => ?_⟩
              · exact ⟨(htk.1 a b e).1.mono fun q hq => by
                  exact sub_at hq (by walk_at "sub"), (htk.1 a b e).2.mono fun q hq => by
                  exact sub_at hq (by walk_at "sub")⟩
              · cases e
                exact ⟨⟨_, _, _, by simp, d11, d12⟩, ⟨_, _, _, by simp, d21, d22⟩⟩
        | some ab =>
          obtain ⟨c1, c2⟩ := ab
          k_steps
          repeat' ((refine stop_out ?_; (with_reducible show wpAny _ _ (call (Value.ref 101) [_]) _ _ _); k_dflt (refine' ct_use3 (goals_ct _ _ _ _ ?c0) ?k1 ?k2 ?k3 ?k4 ?k5 ?k6 ?k7 ?k8 ?k9 ?_; (case c0 => assumption); walk_at "sideC"); intro r' tl' h' tk' F' N' o' P'; obtain ⟨lg', vsg', ng', tg', e9, e8, hg'⟩ := P'; subst e9; (have hmg' := List.Mem.head (a := ((lg', listOf vsg'.toArray ng') : Addr × Obj)) tg'); (have hgl' := Nat.le_trans (Nat.le_of_eq hg'.length) (goals_len _)); subst e8); k_steps)
          refine stop_out ?_
          rename_i f1 ct1 h11 k11 F11 N11 l11 f2 ct2 h21 k21 F21 N21 l21
          obtain ⟨fz', hfz', m1, m3, hbs, hfs⟩ := led_two N21 (tl ++ ((L9 + 1 : Nat), o9) :: (tl1 ++ fz)) (fun q hq => List.mem_append_right _ (hlg1 q hq))
          obtain ⟨⟨oc1, vs1, tt1, m2', d11, d12⟩, ⟨oc2, vs2, tt2, m4', d21, d22⟩⟩ := htk.2 c1 c2 rfl
          have m2 := hbs _ m2'
          have m4 := hbs _ m4'
          clear m2' m4'
          have mcell : (((L9 + 1 : Nat), o9) : Addr × Obj) ∈ fz' := hbs _ (by walk_at "memS")
          have hsp : SeqIn fz' lp vsp := ⟨np, .inl (hbs _ (by walk_at "memS"))⟩
          have hfz2 : ∀ q ∈ fz, q ∈ fz' := fun q hq => hbs _ (by walk_at "memS")
          have hreg : ∀ (n : Nat) (t : Tok), Ct w f1 [.int (n : Int) t] fz' 1 16 (fun tl x => tl = [] ∧ x = .int (n : Int) t) := by
            ((repeat (with_reducible rename News _ _ _ _ => hkx; clear hkx)); (repeat (with_reducible rename Fr _ _ _ _ => hkx; clear hkx)); (repeat (with_reducible rename Below _ _ _ _ => hkx; clear hkx)); (repeat (with_reducible rename Top _ _ _ _ _ _ => hkx; clear hkx)); (repeat (with_reducible rename Heap.In _ _ => hkx; clear hkx)); (repeat (with_reducible rename Ord _ _ => hkx; clear hkx)); (repeat (with_reducible rename Off _ _ => hkx; clear hkx)); (repeat (with_reducible rename AllLt _ _ => hkx; clear hkx)); (repeat (with_reducible rename CodeHd _ _ _ => hkx; clear hkx)); (repeat (with_reducible rename TOk _ _ => hkx; clear hkx)); (repeat (with_reducible rename RowIn _ _ _ => hkx; clear hkx)); (repeat (with_reducible rename (_ ∧ _) => hkx; clear hkx)); (repeat (with_reducible rename ((_ : Nat) < _) => hkx; clear hkx)))
            intro n t dp un gd cn cs ca ccd cl outer A₀ base h₀ L m news s p loose mean mg mb Q E B F X N T hk hsub hd hu ret
            refine wpAny_call ?_
            k_dflt ((refine' kla_code ?k1 ?k2 ?k3 ?k4 ?k5 ?kA ?kF ?kK ?k6 ?k7 ?k8 ?k9 ?kB ?_ ?c2 ?c3 ?c4 ?c5; (case kA => exact rfl); (case kF => exact rfl); (case kK => first | exact rfl | assumption); (case k1 => k_asm); (case k2 => k_asm); (case k3 => k_asm); (case k4 => k_asm); (case k5 => k_asm); (case k6 => k_mem); (case k7 => exact codeRec_news (by k_asm) (by k_mem) (by assumption) (by assumption)); (case k8 => ktr_room); (case k9 => exact rfl); (case c5 => decide); (case kB => exact locs rfl); (case c2 => exact rfl); (case c3 => exact rfl); (case c4 => exact rfl); k_whole; intro g' L' h' FG' F' N' B' X' T'; (try dsimp only); (try k_fold)))
            k_steps
            exact ret _ [] _ _ (by k_asm) (by k_asm) Ord.nil ⟨rfl, rfl⟩
          have hgoal : ∀ g < rs.length, ∀ t : Tok, Ct w f2 [.int (g : Int) t] fz' 2 40 (fun tl x => tl = [] ∧ ∃ t', x = .int (placeF bs g : Int) t') := by
            ((repeat (with_reducible rename News _ _ _ _ => hkx; clear hkx)); (repeat (with_reducible rename Fr _ _ _ _ => hkx; clear hkx)); (repeat (with_reducible rename Below _ _ _ _ => hkx; clear hkx)); (repeat (with_reducible rename Top _ _ _ _ _ _ => hkx; clear hkx)); (repeat (with_reducible rename Heap.In _ _ => hkx; clear hkx)); (repeat (with_reducible rename Ord _ _ => hkx; clear hkx)); (repeat (with_reducible rename Off _ _ => hkx; clear hkx)); (repeat (with_reducible rename AllLt _ _ => hkx; clear hkx)); (repeat (with_reducible rename CodeHd _ _ _ => hkx; clear hkx)); (repeat (with_reducible rename TOk _ _ => hkx; clear hkx)); (repeat (with_reducible rename RowIn _ _ _ => hkx; clear hkx)); (repeat (with_reducible rename (_ ∧ _) => hkx; clear hkx)); (repeat (with_reducible rename ((_ : Nat) < _) => hkx; clear hkx)))
            intro g hg t dp un gd cn cs ca ccd cl outer A₀ base h₀ L m news s p loose mean mg mb Q E B F X N T hk hsub hd hu ret
            obtain ⟨tg9, hvg⟩ := hvx g hg
            have hvl9 : vsp.length ≤ 99 := by omega
            refine wpAny_call ?_
            k_dflt ((refine' kla_code ?k1 ?k2 ?k3 ?k4 ?k5 ?kA ?kF ?kK ?k6 ?k7 ?k8 ?k9 ?kB ?_ ?c2 ?c3 ?c4 ?c5; (case kA => exact rfl); (case kF => exact rfl); (case kK => first | exact rfl | assumption); (case k1 => k_asm); (case k2 => k_asm); (case k3 => k_asm); (case k4 => k_asm); (case k5 => k_asm); (case k6 => k_mem); (case k7 => exact codeRec_news (by k_asm) (by k_mem) (by assumption) (by assumption)); (case k8 => ktr_room); (case k9 => exact rfl); (case c5 => decide); (case kB => exact locs rfl); (case c2 => exact rfl); (case c3 => exact rfl); (case c4 => exact rfl); k_whole; intro g' L' h' FG' F' N' B' X' T'; (try dsimp only); (try k_fold)))
            walk1
            (k_dflt (refine' nameX_F ?N ?c ?m ?d ?_ ?a ?b; (case a => rfl); (case b => rfl); (case N => k_asm); (case c => rfl); (case m => k_mem); (case d => k_asm); k_whole))
            k_steps
            exact ret _ [] _ _ (by k_asm) (by k_asm) Ord.nil ⟨rfl, _, rfl⟩
          refine' ct_use0 (turned_ct w fz' _ _ (hrv'.mono hfz2) hg1 f1 f2 ?m1 ?m2 (placeF bs) hreg (fun g hg => hgoal g (hcl _ hrm g hg))) ?k0 ?k1 ?k2 N21 ?k4 ?k5 hfs ?k8 ?k9 ?_
          (case m1 => assumption)
          (case m2 => assumption)
          (case k0 => assumption)
          (case k1 => k_asm)
          (case k2 => k_asm)
          (case k4 => k_asm)
          (case k5 => first | exact rfl | assumption)
          (case k8 => ktr_room)
          (case k9 => ktr_units)
          intro rr tr hr9 kr Fr9 Nr or Pr
          have Nq := drop_mid (led_back2 Nr)
          clear Nr N21 N11 hreg hgoal
          have hoD : Off Df tr := Ord.off or (by walk_at "memN")
          k_steps
          have a1 : AllLt f1 ((123, tabObj (tA tA1)) :: (158, tabObj (tB (some (c1, c2)))) :: (Df, listOf ws.toArray nw) :: lg) := ⟨l11.2.1, l11.2.2.1, l11.2.2.2.1, allLt_app_r l11.2.2.2.2⟩
          have a3 : AllLt f2 ((123, tabObj (tA tA1)) :: (158, tabObj (tB (some (c1, c2)))) :: (Df, listOf ws.toArray nw) :: lg) := ⟨l21.2.2.1, l21.2.2.2.1, l21.2.2.2.2.1, allLt_app_r l21.2.2.2.2.2⟩
          refine tend_next ((tA1, some (c1, c2)), ws ++ [rr], nw + 1) (tr ++ [_, _]) (by k_asm) (by assumption) ?_ (by ((repeat refine List.forall_mem_cons.mpr ⟨rfl, ?_⟩); exact List.forall_mem_nil _)) (by (intro z hz1 hz2; repeat (first | exact fmap_off hz1 hz2 | exact rfl | exact if_neg (fun e => Bool.false_ne_true (hz2.symm.trans e)) | refine (if_neg (ne_stored hz2 (by decide +kernel))).trans ?_ | refine (if_neg (hz1 _ (.head _))).trans ?_ | refine (if_neg (hz1 _ (.tail _ (.head _)))).trans ?_ | refine (if_neg (hz1 _ (.tail _ (.tail _ (.head _))))).trans ?_ | refine (fmap_off (ps := []) (List.forall_mem_nil _) (sub_contains hz2 (by decide +kernel))).trans ?_))) ?_
          · exact Ord.append (or.sub fun q hq => by
              exact sub_at hq (by walk_at "sub")) (Ord.cons a3 (Ord.cons a1 Ord.nil))
          · subst hfz'
            refine ⟨?_, ?_⟩
            · rw [htake]
              refine RowsIn.snoc (hw.mono fun q hq => ?_) (Pr.mono fun q hq => ?_)
              · exact sub_at hq (by walk_at "sub")
              · exact sub_at hq (by walk_at "sub")
            · exact htk.mono fun q hq => by
                exact sub_at hq (by walk_at "sub")
  case done =>
    rintro ⟨c', ws, nw⟩ tl u h tk ⟨hw, htk⟩ hord F1 N1
    (try dsimp only at hw htk hord F1 N1)
    (try dsimp only [List.cons_append, List.nil_append] at N1)
    k_steps
    rw [List.take_of_length_le (by rw [hrs.length]; exact Nat.le_refl _), List.take_of_length_le (by rw [hrs.length]; omega)] at hw
    refine ret _ c' (tl ++ (Df, listOf ws.toArray nw) :: (tl1 ++ [((L9 + 1 : Nat), o9)])) _ _ (by k_asm) (news_sub (by assumption) ?_) ?_ ⟨Df, ws, nw, rfl, by simp, hw.mono ?_, htk.mono ?_⟩
    · intro q hq
      exact sub_at hq (by walk_at "sub")
    · refine Ord.append (hord.sub fun q hq => ?_) (Ord.cons l91 (Ord.append (oo.sub fun q hq => ?_) (Ord.cons l92 Ord.nil)))
      · exact sub_at hq (by walk_at "sub")
      · exact sub_at hq (by walk_at "sub")
    all_goals (
      intro q hq
      exact sub_at hq (by walk_at "sub"))
end Mine

namespace Mine
noncomputable abbrev Reg := Nat → Bool
noncomputable def upd (g : Reg) (d : Nat) (b : Bool) : Reg := fun x => if x = d then b else g x
noncomputable def go (rs : List Row) : Nat → Nat → Reg → Option Bool
  | 0, _, _ => none
  | k + 1, a, g => match rs[a]? with
    | none => none
    | some (.ret s) => some (g s)
    | some (.goto t) => go rs k t g
    | some (.jif r t) => go rs k (if g r then a + 1 else t) g
    | some (.const d b) => go rs k (a + 1) (upd g d b)
    | some (.move d s) => go rs k (a + 1) (upd g d (g s))
theorem go_succ (rs : List Row) (k a : Nat) (g : Reg) : go rs (k + 1) a g = match rs[a]? with
    | none => none
    | some (.ret s) => some (g s)
    | some (.goto t) => go rs k t g
    | some (.jif r t) => go rs k (if g r then a + 1 else t) g
    | some (.const d b) => go rs k (a + 1) (upd g d b)
    | some (.move d s) => go rs k (a + 1) (upd g d (g s)) := rfl
theorem go_mono1 {rs : List Row} : ∀ {k a : Nat} {g : Reg} {b : Bool}, go rs k a g = some b → go rs (k + 1) a g = some b
  | 0, _, _, _, h => by simp [go] at h
  | k + 1, a, g, b, h => by
    rw [go_succ] at h ⊢
    cases hr : rs[a]? with
    | none => rw [hr] at h; exact h
    | some r =>
      rw [hr] at h
      cases r with
      | ret s => exact h
      | goto t => exact go_mono1 h
      | jif r t => exact go_mono1 h
      | const d b => exact go_mono1 h
      | move d s => exact go_mono1 h
theorem go_mono {rs : List Row} {k k' a : Nat} {g : Reg} {b : Bool} (h : go rs k a g = some b) (hk : k ≤ k') : go rs k' a g = some b := by
  induction hk with
  | refl => exact h
  | step _ ih => exact go_mono1 ih
noncomputable def Comes (rs : List Row) (a : Nat) (g : Reg) (b : Bool) : Prop := ∃ k, go rs k a g = some b
-- ahead along the jumps
theorem go_last {rs : List Row} {g : Reg} {b : Bool} : ∀ (m : Nat) {k t : Nat}, go rs k t g = some b → ∃ k', k' ≤ k ∧ go rs k' (lastGoal rs m t) g = some b
  | 0, k, t, h => ⟨k, Nat.le_refl _, h⟩
  | m + 1, k, t, h => by
    unfold lastGoal
    cases hr : rs[t]? with
    | none => exact ⟨k, Nat.le_refl _, h⟩
    | some r =>
      cases r with
      | goto t' =>
        simp only
        split
        · exact ⟨k, Nat.le_refl _, h⟩
        · cases k with
          | zero => simp [go] at h
          | succ k =>
            rw [go_succ, hr] at h
            obtain ⟨k', h1, h2⟩ := go_last m h
            exact ⟨k', by omega, h2⟩
      | _ => exact ⟨k, Nat.le_refl _, h⟩
theorem comes_last {rs : List Row} {g : Reg} {b : Bool} : ∀ (m : Nat) {t : Nat}, Comes rs (lastGoal rs m t) g b → Comes rs t g b
  | 0, t, h => h
  | m + 1, t, h => by
    unfold lastGoal at h
    cases hr : rs[t]? with
    | none => rw [hr] at h; exact h
    | some r =>
      rw [hr] at h
      cases r with
      | goto t' =>
        simp only at h
        split at h
        · exact h
        · obtain ⟨k, hk⟩ := comes_last m h
          exact ⟨k + 1, by rw [go_succ, hr]; exact hk⟩
      | _ => exact h
theorem led_get {rs : List Row} {i : Nat} : (led rs)[i]? = rs[i]?.map (turnR (lastGoal rs rs.length)) := by simp [led]
theorem led_comes1 {rs : List Row} : ∀ {k a : Nat} {g : Reg} {b : Bool}, go rs k a g = some b → Comes (led rs) a g b := by
  intro k
  induction k using Nat.strongRecOn with
  | ind k ih =>
    intro a g b h
    cases k with
    | zero => simp [go] at h
    | succ k =>
      rw [go_succ] at h
      cases hr : rs[a]? with
      | none => rw [hr] at h; simp at h
      | some r =>
        rw [hr] at h
        have hl : (led rs)[a]? = some (turnR (lastGoal rs rs.length) r) := by rw [led_get, hr]; rfl
        cases r with
        | ret s => exact ⟨1, by rw [go_succ, hl]; exact h⟩
        | goto t =>
          obtain ⟨k', h1, h2⟩ := go_last rs.length h
          obtain ⟨j, hj⟩ := ih k' (by omega) h2
          exact ⟨j + 1, by rw [go_succ, hl]; exact hj⟩
        | jif x t =>
          simp only at h
          cases hx : g x with
          | true =>
            rw [hx, if_pos rfl] at h
            obtain ⟨j, hj⟩ := ih k (by omega) h
            exact ⟨j + 1, by rw [go_succ, hl]; simp only [turnR, hx, if_true]; exact hj⟩
          | false =>
            rw [hx] at h
            simp only [Bool.false_eq_true, if_false] at h
            obtain ⟨k', h1, h2⟩ := go_last rs.length h
            obtain ⟨j, hj⟩ := ih k' (by omega) h2
            exact ⟨j + 1, by rw [go_succ, hl]; simp only [turnR, hx, Bool.false_eq_true, if_false]; exact hj⟩
        | const d c =>
          obtain ⟨j, hj⟩ := ih k (by omega) h
          exact ⟨j + 1, by rw [go_succ, hl]; exact hj⟩
        | move d s =>
          obtain ⟨j, hj⟩ := ih k (by omega) h
          exact ⟨j + 1, by rw [go_succ, hl]; exact hj⟩
theorem led_comes2 {rs : List Row} : ∀ {k a : Nat} {g : Reg} {b : Bool}, go (led rs) k a g = some b → Comes rs a g b
  | 0, _, _, _, h => by simp [go] at h
  | k + 1, a, g, b, h => by
    rw [go_succ] at h
    cases hr : rs[a]? with
    | none => rw [led_get, hr] at h; simp at h
    | some r =>
      have hl : (led rs)[a]? = some (turnR (lastGoal rs rs.length) r) := by rw [led_get, hr]; rfl
      rw [hl] at h
      cases r with
      | ret s => exact ⟨1, by rw [go_succ, hr]; exact h⟩
      | goto t =>
        obtain ⟨j, hj⟩ := comes_last rs.length (led_comes2 h)
        exact ⟨j + 1, by rw [go_succ, hr]; exact hj⟩
      | jif x t =>
        simp only [turnR] at h
        cases hx : g x with
        | true =>
          rw [hx, if_pos rfl] at h
          obtain ⟨j, hj⟩ := led_comes2 h
          exact ⟨j + 1, by rw [go_succ, hr]; simp only [hx, if_true]; exact hj⟩
        | false =>
          rw [hx] at h
          simp only [Bool.false_eq_true, if_false] at h
          obtain ⟨j, hj⟩ := comes_last rs.length (led_comes2 h)
          exact ⟨j + 1, by rw [go_succ, hr]; simp only [hx, Bool.false_eq_true, if_false]; exact hj⟩
      | const d c =>
        obtain ⟨j, hj⟩ := led_comes2 h
        exact ⟨j + 1, by rw [go_succ, hr]; exact hj⟩
      | move d s =>
        obtain ⟨j, hj⟩ := led_comes2 h
        exact ⟨j + 1, by rw [go_succ, hr]; exact hj⟩
theorem led_comes {rs : List Row} {a : Nat} {g : Reg} {b : Bool} : Comes (led rs) a g b ↔ Comes rs a g b :=
  ⟨fun ⟨_, h⟩ => led_comes2 h, fun ⟨_, h⟩ => led_comes1 h⟩
-- the code's whole
theorem last_lt {rs : List Row} (hc : Closed rs) : ∀ (m : Nat) {t : Nat}, t < rs.length → lastGoal rs m t < rs.length
  | 0, t, h => h
  | m + 1, t, h => by
    unfold lastGoal
    cases hr : rs[t]? with
    | none => exact h
    | some r =>
      cases r with
      | goto t' =>
        simp only
        split
        · exact h
        · exact last_lt hc m (hc.2 t _ hr t' (by simp [follows, ends, goals]))
      | _ => exact h
theorem led_len (rs : List Row) : (led rs).length = rs.length := by simp [led]
theorem led_closed {rs : List Row} (hc : Closed rs) : Closed (led rs) := by
  refine ⟨by rw [led_len]; exact hc.1, fun i r hr j hj => ?_⟩
  rw [led_len]
  rw [led_get] at hr
  obtain ⟨r0, h0, rfl⟩ := Option.map_eq_some_iff.mp hr
  have h1 := hc.2 i r0 h0
  cases r0 with
  | goto g =>
    have : j = lastGoal rs rs.length g := by simpa [follows, ends, goals, turnR] using hj
    rw [this]; exact last_lt hc _ (h1 g (by simp [follows, ends, goals]))
  | jif x g =>
    have : j = i + 1 ∨ j = lastGoal rs rs.length g := by simpa [follows, ends, goals, turnR] using hj
    rcases this with e | e
    · rw [e]; exact h1 _ (by simp [follows, ends, goals])
    · rw [e]; exact last_lt hc _ (h1 g (by simp [follows, ends, goals]))
  | const d b => exact h1 j hj
  | move d s => exact h1 j hj
  | ret s => exact h1 j hj
end Mine
namespace Mine
theorem count_take {bs : List Bool} {i : Nat} {b : Bool} (h : bs[i]? = some b) : (bs.take (i + 1)).count true = (bs.take i).count true + (if b then 1 else 0) := by
  rw [List.take_add_one, h, List.count_append]
  cases b <;> simp
theorem placesL_get : ∀ {bs : List Bool} {k i : Nat}, i < bs.length → (placesL k bs)[i]? = some (k + (bs.take i).count true)
  | [], _, _, h => by simp at h
  | b :: bs, k, 0, _ => by simp [placesL]
  | b :: bs, k, i + 1, h => by
    have := placesL_get (bs := bs) (k := k + (if b then 1 else 0)) (i := i) (by simpa using h)
    simp only [placesL, List.getElem?_cons_succ, this, List.take_succ_cons]
    cases b <;> simp <;> omega
theorem placeF_eq {bs : List Bool} {i : Nat} (h : i < bs.length) : placeF bs i = (bs.take i).count true := by
  simp [placeF, List.getD_eq_getElem?_getD, placesL_get h]
theorem cutL_get {φ : Nat → Nat} : ∀ {rs : List Row} {K : List Bool} {i : Nat} {r : Row}, rs[i]? = some r → K[i]? = some true → (cutL φ rs K)[(K.take i).count true]? = some (turnR φ r)
  | [], _, _, _, h, _ => by simp at h
  | _ :: _, [], _, _, _, h => by simp at h
  | r' :: rs, b' :: K, 0, r, h, h' => by
    have e : r' = r := by simpa using h
    have e' : b' = true := by simpa using h'
    subst e e'
    simp [cutL]
  | r' :: rs, b' :: K, i + 1, r, h, h' => by
    have ih := cutL_get (φ := φ) (rs := rs) (K := K) (i := i) (r := r) (by simpa using h) (by simpa using h')
    cases b' with
    | true => simpa [cutL] using ih
    | false => simpa [cutL] using ih
theorem cutL_length {φ : Nat → Nat} : ∀ {rs : List Row} {K : List Bool}, K.length = rs.length → (cutL φ rs K).length = K.count true
  | [], [], _ => rfl
  | [], _ :: _, h => by simp at h
  | _ :: _, [], h => by simp at h
  | r :: rs, b :: K, h => by
    have := cutL_length (φ := φ) (rs := rs) (K := K) (by simpa using h)
    cases b <;> simp [cutL, this, Nat.add_comm]
theorem cutL_from {φ : Nat → Nat} : ∀ {rs : List Row} {K : List Bool} {j : Nat} {r : Row}, (cutL φ rs K)[j]? = some r → ∃ i r0, rs[i]? = some r0 ∧ K[i]? = some true ∧ (K.take i).count true = j ∧ r = turnR φ r0
  | [], _, _, _, h => by simp [cutL] at h
  | _ :: _, [], _, _, h => by simp [cutL] at h
  | r' :: rs, b' :: K, j, r, h => by
    cases b' with
    | true =>
      cases j with
      | zero => exact ⟨0, r', rfl, rfl, rfl, by simpa [cutL] using h.symm⟩
      | succ j =>
        obtain ⟨i, r0, h1, h2, h3, h4⟩ := cutL_from (φ := φ) (rs := rs) (K := K) (j := j) (r := r) (by simpa [cutL] using h)
        exact ⟨i + 1, r0, by simpa using h1, by simpa using h2, by simp [h3], h4⟩
    | false =>
      obtain ⟨i, r0, h1, h2, h3, h4⟩ := cutL_from (φ := φ) (rs := rs) (K := K) (j := j) (r := r) (by simpa [cutL] using h)
      exact ⟨i + 1, r0, by simpa using h1, by simpa using h2, by simp [h3], h4⟩
theorem readsL_mem : ∀ {rs : List Row} {bs : List Bool} {i : Nat} {r : Row}, rs[i]? = some r → bs[i]? = some true → ∀ x ∈ uses r, x ∈ readsL rs bs
  | [], _, _, _, h, _ => by simp at h
  | _ :: _, [], _, _, _, h => by simp at h
  | r' :: rs, b' :: bs, 0, r, h, h' => by
    have e : r' = r := by simpa using h
    have e' : b' = true := by simpa using h'
    subst e e'
    intro x hx
    simp [readsL, hx]
  | r' :: rs, b' :: bs, i + 1, r, h, h' => by
    intro x hx
    have ih := readsL_mem (rs := rs) (bs := bs) (i := i) (r := r) (by simpa using h) (by simpa using h') x hx
    simp [readsL, ih]
theorem keepR_false {ks : List Nat} {i : Nat} (r : Row) : keepR ks i r false = false := by cases r <;> simp [keepR]
/-- which rows are reached, as kept_rows finds it -/
noncomputable def RB (rs : List Row) (bs : List Bool) : Prop := bs.length = rs.length ∧ ∀ i : Nat, bs[i]? = some true ↔ Reach rs i
theorem RB.uniq {rs : List Row} {a b : List Bool} (x : RB rs a) (y : RB rs b) : a = b := by
  apply List.ext_getElem (x.1.trans y.1.symm)
  intro i h1 h2
  have := (x.2 i).trans (y.2 i).symm
  rw [List.getElem?_eq_getElem h1, List.getElem?_eq_getElem h2] at this
  cases ha : a[i] <;> cases hb : b[i] <;> simp [ha, hb] at this ⊢
noncomputable abbrev keepL (rs : List Row) (bs : List Bool) : List Bool := keptL (readsL rs bs) 0 rs bs
noncomputable abbrev shrunk (rs : List Row) (bs : List Bool) : List Row := cut rs (keepL rs bs)
section
variable {rs : List Row} {bs : List Bool}
theorem reach_lt (hc : Closed rs) {i : Nat} (h : Reach rs i) : i < rs.length := by
  cases h with
  | zero => exact hc.1
  | step _ h1 h2 => exact hc.2 _ _ h1 _ h2
theorem keep_get (hb : RB rs bs) {i : Nat} {r : Row} (h : rs[i]? = some r) (hr : Reach rs i) : (keepL rs bs)[i]? = some (keepR (readsL rs bs) i r true) := by
  have := keptL_get (ks := readsL rs bs) 0 i h ((hb.2 i).mpr hr)
  simpa using this
theorem keep_true (hb : RB rs bs) {i : Nat} (h : (keepL rs bs)[i]? = some true) : ∃ r, rs[i]? = some r ∧ Reach rs i ∧ keepR (readsL rs bs) i r true = true := by
  have hl := keptL_length (ks := readsL rs bs) 0 hb.1
  have hi : i < rs.length := by rw [← hl]; exact (List.getElem?_eq_some_iff.mp h).1
  have hr : rs[i]? = some rs[i] := List.getElem?_eq_getElem hi
  have hbi : bs[i]? = some (bs[i]'(by rw [hb.1]; exact hi)) := List.getElem?_eq_getElem _
  have := keptL_get (ks := readsL rs bs) 0 i hr hbi
  rw [show keptL (readsL rs bs) 0 rs bs = keepL rs bs from rfl, h] at this
  have h2 : keepR (readsL rs bs) i rs[i] (bs[i]'(by rw [hb.1]; exact hi)) = true := by simpa using this.symm
  have hbt : bs[i]'(by rw [hb.1]; exact hi) = true := by
    cases hh : bs[i]'(by rw [hb.1]; exact hi) with
    | true => rfl
    | false => rw [hh, keepR_false] at h2; simp at h2
  exact ⟨rs[i], hr, (hb.2 i).mp (by rw [hbi, hbt]), by rw [hbt] at h2; exact h2⟩
theorem keep_len (hb : RB rs bs) : (keepL rs bs).length = rs.length := keptL_length 0 hb.1
/-- a row that is dropped falls to the next -/
theorem dropped (hb : RB rs bs) {i : Nat} {r : Row} (h : rs[i]? = some r) (hr : Reach rs i) (hk : (keepL rs bs)[i]? = some false) :
    Reach rs (i + 1) ∧ (r = .goto (i + 1) ∨ (∃ d b, r = .const d b ∧ d ∉ readsL rs bs) ∨ (∃ d s, r = .move d s ∧ d ∉ readsL rs bs)) := by
  rw [keep_get hb h hr] at hk
  cases r with
  | goto g =>
    have e : g = i + 1 := by simpa [keepR] using hk
    subst e
    exact ⟨.step hr h (by simp [follows, ends, goals]), .inl rfl⟩
  | jif x g => simp [keepR] at hk
  | ret s => simp [keepR] at hk
  | const d b => exact ⟨.step hr h (by simp [follows, ends, goals]), .inr (.inl ⟨d, b, rfl, by simpa [keepR] using hk⟩)⟩
  | move d s => exact ⟨.step hr h (by simp [follows, ends, goals]), .inr (.inr ⟨d, s, rfl, by simpa [keepR] using hk⟩)⟩
theorem place_next (hc : Closed rs) (hb : RB rs bs) {i : Nat} {b : Bool} (hr : Reach rs (i + 1)) (hk : (keepL rs bs)[i]? = some b) : placeF (keepL rs bs) (i + 1) = placeF (keepL rs bs) i + (if b then 1 else 0) := by
  have h1 := reach_lt hc hr
  have hl := keep_len hb
  rw [placeF_eq (by omega), placeF_eq (by omega), count_take hk]
theorem kept_row (hc : Closed rs) (hb : RB rs bs) {i : Nat} {r : Row} (h : rs[i]? = some r) (hr : Reach rs i) (hk : (keepL rs bs)[i]? = some true) : (shrunk rs bs)[placeF (keepL rs bs) i]? = some (turnR (placeF (keepL rs bs)) r) := by
  rw [placeF_eq (by rw [keep_len hb]; exact reach_lt hc hr)]
  exact cutL_get h hk
theorem keep_some (hc : Closed rs) (hb : RB rs bs) {i : Nat} (hr : Reach rs i) : ∃ b, (keepL rs bs)[i]? = some b :=
  ⟨_, List.getElem?_eq_getElem (by rw [keep_len hb]; exact reach_lt hc hr)⟩
noncomputable def Agree (R : List Nat) (g g' : Reg) : Prop := ∀ x ∈ R, g x = g' x
theorem Agree.upd {R : List Nat} {g g' : Reg} (h : Agree R g g') (d : Nat) (b : Bool) : Agree R (upd g d b) (upd g' d b) := fun x hx => by
  unfold Mine.upd; split
  · rfl
  · exact h x hx
theorem Agree.drop {R : List Nat} {g g' : Reg} (h : Agree R g g') {d : Nat} {b : Bool} (hd : d ∉ R) : Agree R (Mine.upd g d b) g' := fun x hx => by
  unfold Mine.upd; split
  · rename_i e; subst e; exact absurd hx hd
  · exact h x hx
theorem cut_comes1 (hc : Closed rs) (hb : RB rs bs) : ∀ {k i : Nat} {g g' : Reg} {b : Bool}, Reach rs i → Agree (readsL rs bs) g g' → go rs k i g = some b → Comes (shrunk rs bs) (placeF (keepL rs bs) i) g' b
  | 0, _, _, _, _, _, _, h => by simp [go] at h
  | k + 1, i, g, g', b, hr, ha, h => by
    have hi := reach_lt hc hr
    obtain ⟨r, hri⟩ : ∃ r, rs[i]? = some r := ⟨_, List.getElem?_eq_getElem hi⟩
    obtain ⟨kb, hk⟩ := keep_some hc hb hr
    rw [go_succ, hri] at h
    cases kb with
    | true =>
      have hq := kept_row hc hb hri hr hk
      have hu := readsL_mem hri ((hb.2 i).mpr hr)
      have nx := fun h => place_next (b := true) hc hb (i := i) h hk
      simp only [if_true] at nx
      cases r with
      | ret s =>
        exact ⟨1, by rw [go_succ, hq]; simp only [turnR]; rw [← h]; simp only; rw [ha s (hu s (by simp [uses]))]⟩
      | goto t =>
        obtain ⟨j, hj⟩ := cut_comes1 hc hb (.step hr hri (by simp [follows, ends, goals])) ha h
        exact ⟨j + 1, by rw [go_succ, hq]; exact hj⟩
      | jif x t =>
        have hx := ha x (hu x (by simp [uses]))
        simp only at h
        cases hg : g x with
        | true =>
          rw [hg, if_pos rfl] at h
          have hr1 : Reach rs (i + 1) := .step hr hri (by simp [follows, ends, goals])
          obtain ⟨j, hj⟩ := cut_comes1 hc hb hr1 ha h
          rw [nx hr1] at hj
          exact ⟨j + 1, by rw [go_succ, hq]; simp only [turnR, ← hx, hg, if_true]; exact hj⟩
        | false =>
          rw [hg] at h
          simp only [Bool.false_eq_true, if_false] at h
          obtain ⟨j, hj⟩ := cut_comes1 hc hb (.step hr hri (by simp [follows, ends, goals])) ha h
          exact ⟨j + 1, by rw [go_succ, hq]; simp only [turnR, ← hx, hg, Bool.false_eq_true, if_false]; exact hj⟩
      | const d c =>
        have hr1 : Reach rs (i + 1) := .step hr hri (by simp [follows, ends, goals])
        obtain ⟨j, hj⟩ := cut_comes1 hc hb hr1 (ha.upd d c) h
        rw [nx hr1] at hj
        exact ⟨j + 1, by rw [go_succ, hq]; exact hj⟩
      | move d s =>
        have hr1 : Reach rs (i + 1) := .step hr hri (by simp [follows, ends, goals])
        have hs := ha s (hu s (by simp [uses]))
        obtain ⟨j, hj⟩ := cut_comes1 hc hb hr1 (ha.upd d (g s)) h
        rw [nx hr1] at hj
        exact ⟨j + 1, by rw [go_succ, hq]; simp only [turnR]; rw [← hs]; exact hj⟩
    | false =>
      obtain ⟨hr1, hcase⟩ := dropped hb hri hr hk
      have nx := place_next (b := false) hc hb hr1 hk
      simp only [Bool.false_eq_true, if_false, Nat.add_zero] at nx
      rcases hcase with rfl | ⟨d, c, rfl, hd⟩ | ⟨d, s, rfl, hd⟩
      · rw [← nx]; exact cut_comes1 hc hb hr1 ha h
      · rw [← nx]; exact cut_comes1 hc hb hr1 (ha.drop hd) h
      · rw [← nx]; exact cut_comes1 hc hb hr1 (ha.drop hd) h
theorem cut_comes2a (hc : Closed rs) (hb : RB rs bs) (k : Nat) (ih : ∀ k', k = k' + 1 → ∀ {i : Nat} {g g' : Reg} {b : Bool}, Reach rs i → Agree (readsL rs bs) g g' → go (shrunk rs bs) k' (placeF (keepL rs bs) i) g' = some b → Comes rs i g b) : ∀ (m : Nat) {i : Nat} {g g' : Reg} {b : Bool}, rs.length - i ≤ m → Reach rs i → Agree (readsL rs bs) g g' → go (shrunk rs bs) k (placeF (keepL rs bs) i) g' = some b → Comes rs i g b
  | 0, i, _, _, _, hm, hr, _, _ => by have := reach_lt hc hr; omega
  | m + 1, i, g, g', b, hm, hr, ha, h => by
    have hi := reach_lt hc hr
    obtain ⟨r, hri⟩ : ∃ r, rs[i]? = some r := ⟨_, List.getElem?_eq_getElem hi⟩
    obtain ⟨kb, hk⟩ := keep_some hc hb hr
    cases kb with
    | true =>
      cases k with
      | zero => simp [go] at h
      | succ k =>
        have hq := kept_row hc hb hri hr hk
        have hu := readsL_mem hri ((hb.2 i).mpr hr)
        have nx := fun h => place_next (b := true) hc hb (i := i) h hk
        simp only [if_true] at nx
        rw [go_succ, hq] at h
        cases r with
        | ret s =>
          exact ⟨1, by rw [go_succ, hri]; simp only [turnR] at h ⊢; rw [← h, ha s (hu s (by simp [uses]))]⟩
        | goto t =>
          obtain ⟨j, hj⟩ := ih k rfl (.step hr hri (by simp [follows, ends, goals])) ha h
          exact ⟨j + 1, by rw [go_succ, hri]; exact hj⟩
        | jif x t =>
          have hx := ha x (hu x (by simp [uses]))
          simp only [turnR, ← hx] at h
          cases hg : g x with
          | true =>
            rw [hg, if_pos rfl] at h
            have hr1 : Reach rs (i + 1) := .step hr hri (by simp [follows, ends, goals])
            rw [← nx hr1] at h
            obtain ⟨j, hj⟩ := ih k rfl hr1 ha h
            exact ⟨j + 1, by rw [go_succ, hri]; simp only [hg, if_true]; exact hj⟩
          | false =>
            rw [hg] at h
            simp only [Bool.false_eq_true, if_false] at h
            obtain ⟨j, hj⟩ := ih k rfl (.step hr hri (by simp [follows, ends, goals])) ha h
            exact ⟨j + 1, by rw [go_succ, hri]; simp only [hg, Bool.false_eq_true, if_false]; exact hj⟩
        | const d c =>
          have hr1 : Reach rs (i + 1) := .step hr hri (by simp [follows, ends, goals])
          simp only [turnR] at h
          rw [← nx hr1] at h
          obtain ⟨j, hj⟩ := ih k rfl hr1 (ha.upd d c) h
          exact ⟨j + 1, by rw [go_succ, hri]; exact hj⟩
        | move d s =>
          have hr1 : Reach rs (i + 1) := .step hr hri (by simp [follows, ends, goals])
          have hs := ha s (hu s (by simp [uses]))
          simp only [turnR] at h
          rw [← nx hr1, ← hs] at h
          obtain ⟨j, hj⟩ := ih k rfl hr1 (ha.upd d (g s)) h
          exact ⟨j + 1, by rw [go_succ, hri]; exact hj⟩
    | false =>
      obtain ⟨hr1, hcase⟩ := dropped hb hri hr hk
      have nx := place_next (b := false) hc hb hr1 hk
      simp only [Bool.false_eq_true, if_false, Nat.add_zero] at nx
      rw [← nx] at h
      rcases hcase with rfl | ⟨d, c, rfl, hd⟩ | ⟨d, s, rfl, hd⟩
      · obtain ⟨j, hj⟩ := cut_comes2a hc hb k ih m (by omega) hr1 ha h
        exact ⟨j + 1, by rw [go_succ, hri]; exact hj⟩
      · obtain ⟨j, hj⟩ := cut_comes2a hc hb k ih m (by omega) hr1 (ha.drop (b := c) hd) h
        exact ⟨j + 1, by rw [go_succ, hri]; exact hj⟩
      · obtain ⟨j, hj⟩ := cut_comes2a hc hb k ih m (by omega) hr1 (ha.drop (b := g s) hd) h
        exact ⟨j + 1, by rw [go_succ, hri]; exact hj⟩
theorem cut_comes2 (hc : Closed rs) (hb : RB rs bs) : ∀ (k m : Nat) {i : Nat} {g g' : Reg} {b : Bool}, rs.length - i ≤ m → Reach rs i → Agree (readsL rs bs) g g' → go (shrunk rs bs) k (placeF (keepL rs bs) i) g' = some b → Comes rs i g b
  | 0, m => cut_comes2a hc hb 0 (fun k' e => by cases e) m
  | k + 1, m => cut_comes2a hc hb (k + 1) (fun k' e => by
    cases e
    exact fun hr ha h => cut_comes2 hc hb k rs.length (Nat.sub_le _ _) hr ha h) m
theorem place_zero : placeF (keepL rs bs) 0 = 0 := by
  cases h : keepL rs bs with
  | nil => rfl
  | cons a l => rfl
theorem shrunk_comes (hc : Closed rs) (hb : RB rs bs) {g : Reg} {b : Bool} : Comes (shrunk rs bs) 0 g b ↔ Comes rs 0 g b := by
  constructor
  · rintro ⟨k, h⟩
    refine cut_comes2 hc hb k rs.length (Nat.sub_le _ _) .zero (fun _ _ => rfl) (by rw [place_zero]; exact h)
  · rintro ⟨k, h⟩
    have := cut_comes1 hc hb (g' := g) .zero (fun _ _ => rfl) h
    rwa [place_zero] at this
theorem count_ge {K : List Bool} {i : Nat} (h : K[i]? = some true) : (K.take i).count true < K.count true := by
  have hi := (List.getElem?_eq_some_iff.mp h).1
  have h2 : K.count true = (K.take (i + 1)).count true + (K.drop (i + 1)).count true := by rw [← List.count_append, List.take_append_drop]
  rw [count_take h] at h2
  simp only [if_true] at h2
  omega
theorem place_lt (hc : Closed rs) (hb : RB rs bs) : ∀ (m : Nat) {i : Nat}, rs.length - i ≤ m → Reach rs i → placeF (keepL rs bs) i < (shrunk rs bs).length
  | 0, i, hm, hr => by have := reach_lt hc hr; omega
  | m + 1, i, hm, hr => by
    have hi := reach_lt hc hr
    obtain ⟨r, hri⟩ : ∃ r, rs[i]? = some r := ⟨_, List.getElem?_eq_getElem hi⟩
    obtain ⟨kb, hk⟩ := keep_some hc hb hr
    cases kb with
    | true =>
      rw [placeF_eq (by rw [keep_len hb]; exact hi), show (shrunk rs bs).length = _ from cutL_length (keep_len hb)]
      exact count_ge hk
    | false =>
      obtain ⟨hr1, _⟩ := dropped hb hri hr hk
      have nx := place_next (b := false) hc hb hr1 hk
      simp only [Bool.false_eq_true, if_false, Nat.add_zero] at nx
      rw [← nx]
      exact place_lt hc hb m (by omega) hr1
theorem shrunk_closed (hc : Closed rs) (hb : RB rs bs) : Closed (shrunk rs bs) := by
  refine ⟨Nat.lt_of_le_of_lt (Nat.zero_le _) (place_lt hc hb rs.length (Nat.sub_le _ _) (.zero)), fun j r hj t ht => ?_⟩
  obtain ⟨i, r0, h1, h2, h3, rfl⟩ := cutL_from hj
  obtain ⟨_, h4, hr, _⟩ := keep_true hb h2
  have hp : placeF (keepL rs bs) i = j := by rw [placeF_eq (by rw [keep_len hb]; exact reach_lt hc hr)]; exact h3
  have lt : ∀ x, Reach rs x → placeF (keepL rs bs) x < (shrunk rs bs).length := fun x hx => place_lt hc hb rs.length (Nat.sub_le _ _) hx
  have stp : i + 1 ∈ follows r0 i → j + 1 < (shrunk rs bs).length := fun h => by
    have hr1 : Reach rs (i + 1) := .step hr h1 h
    have := lt _ hr1
    rw [place_next (b := true) hc hb hr1 h2, hp] at this
    exact this
  cases r0 with
  | goto g =>
    have : t = placeF (keepL rs bs) g := by simpa [follows, ends, goals, turnR] using ht
    rw [this]; exact lt _ (.step hr h1 (by simp [follows, ends, goals]))
  | jif x g =>
    have : t = j + 1 ∨ t = placeF (keepL rs bs) g := by simpa [follows, ends, goals, turnR] using ht
    rcases this with e | e
    · rw [e]; exact stp (by simp [follows, ends, goals])
    · rw [e]; exact lt _ (.step hr h1 (by simp [follows, ends, goals]))
  | const d b =>
    have : t = j + 1 := by simpa [follows, ends, goals, turnR] using ht
    rw [this]; exact stp (by simp [follows, ends, goals])
  | move d s =>
    have : t = j + 1 := by simpa [follows, ends, goals, turnR] using ht
    rw [this]; exact stp (by simp [follows, ends, goals])
  | ret s => simp [follows, ends, goals, turnR] at ht
end
end Mine
namespace Mine
noncomputable def isGoto : Row → Bool
  | .goto _ => true
  | _ => false
noncomputable def regOk : Row → Prop
  | .jif r _ => r < 4
  | .const d _ => d < 4
  | .move d s => d < 4 ∧ s < 4
  | .ret s => s < 4
  | .goto _ => True
theorem count_one {p : Row → Bool} : ∀ {l : List Row} {i : Nat} {r : Row}, l[i]? = some r → p r = true → 1 ≤ l.countP p := by
  intro l i r h hp
  exact List.countP_pos_iff.mpr ⟨r, List.mem_of_getElem? h, hp⟩
theorem count_two {p : Row → Bool} {l : List Row} {i j : Nat} {r s : Row} (hi : l[i]? = some r) (hj : l[j]? = some s) (hr : p r = true) (hs : p s = true) (hij : i < j) : 2 ≤ l.countP p := by
  rw [← List.take_append_drop j l, List.countP_append]
  have h1 : 1 ≤ (l.take j).countP p := count_one (i := i) (by rw [List.getElem?_take_of_lt hij]; exact hi) hr
  have h2 : 1 ≤ (l.drop j).countP p := count_one (i := 0) (by rw [List.getElem?_drop]; exact hj) hs
  omega
theorem count_three {p : Row → Bool} {l : List Row} {i j k : Nat} {r s t : Row} (hi : l[i]? = some r) (hj : l[j]? = some s) (hk : l[k]? = some t) (hr : p r = true) (hs : p s = true) (ht : p t = true) (hij : i < j) (hjk : j < k) : 3 ≤ l.countP p := by
  rw [← List.take_append_drop k l, List.countP_append]
  have h1 : 2 ≤ (l.take k).countP p := count_two (i := i) (j := j) (by rw [List.getElem?_take_of_lt (by omega)]; exact hi) (by rw [List.getElem?_take_of_lt hjk]; exact hj) hr hs hij
  have h2 : 1 ≤ (l.drop k).countP p := count_one (i := 0) (by rw [List.getElem?_drop]; exact hk) ht
  omega
/-- where a jump leads -/
noncomputable def jump (rs : List Row) (g : Nat) : Option Nat := match rs[g]? with
  | some (.goto t) => some t
  | _ => none
theorem jump_some {rs : List Row} {g t : Nat} : jump rs g = some t ↔ rs[g]? = some (.goto t) := by
  unfold jump
  cases rs[g]? with
  | none => simp
  | some r => cases r <;> simp
theorem few3 {rs : List Row} (hf : rs.countP isGoto ≤ 2) {i j k a b c : Nat} (hi : jump rs i = some a) (hj : jump rs j = some b) (hk : jump rs k = some c) (h1 : i ≠ j) (h2 : j ≠ k) (h3 : i ≠ k) : False := by
  rw [jump_some] at hi hj hk
  have p : ∀ t, isGoto (.goto t) = true := fun _ => rfl
  rcases Nat.lt_or_gt_of_ne h1 with h1 | h1 <;> rcases Nat.lt_or_gt_of_ne h2 with h2 | h2 <;> rcases Nat.lt_or_gt_of_ne h3 with h3 | h3
  · have := count_three hi hj hk (p _) (p _) (p _) h1 h2; omega
  · have := count_three hi hj hk (p _) (p _) (p _) h1 h2; omega
  · have := count_three hi hk hj (p _) (p _) (p _) h3 h2; omega
  · have := count_three hk hi hj (p _) (p _) (p _) h3 h1; omega
  · have := count_three hj hi hk (p _) (p _) (p _) h1 h3; omega
  · have := count_three hj hk hi (p _) (p _) (p _) h2 h3; omega
  · omega
  · have := count_three hk hj hi (p _) (p _) (p _) h2 h1; omega
theorem last_none {rs : List Row} {g : Nat} (h : jump rs g = none) : ∀ m, lastGoal rs m g = g
  | 0 => rfl
  | m + 1 => by
    unfold lastGoal
    unfold jump at h
    split <;> rename_i e
    · rw [e] at h; simp at h
    · rfl
theorem last_self {rs : List Row} {g : Nat} (h : jump rs g = some g) : ∀ m, lastGoal rs m g = g
  | 0 => rfl
  | m + 1 => by
    unfold lastGoal
    rw [jump_some] at h
    rw [h]
    simp
theorem last_step {rs : List Row} {g a : Nat} (h : jump rs g = some a) (hn : a ≠ g) (m : Nat) : lastGoal rs (m + 1) g = lastGoal rs m a := by
  rw [jump_some] at h
  show (match rs[g]? with
    | some (.goto g') => if g' = g then g else lastGoal rs m g'
    | _ => g) = _
  rw [h]
  simp [hn]
theorem last_ring {rs : List Row} : ∀ (m : Nat) {g a : Nat}, jump rs g = some a → jump rs a = some g → a ≠ g → lastGoal rs m g = if m % 2 = 0 then g else a
  | 0, _, _, _, _, _ => rfl
  | m + 1, g, a, h1, h2, hn => by
    rw [last_step h1 hn, last_ring m h2 h1 (fun e => hn e.symm)]
    by_cases h : m % 2 = 0
    · rw [if_pos h, if_neg (by omega)]
    · rw [if_neg h, if_pos (by omega)]
theorem jump_lt {rs : List Row} (hc : Closed rs) {g a : Nat} (h : jump rs g = some a) : a < rs.length := hc.2 g _ (jump_some.mp h) a (by simp [follows, ends, goals])
theorem jump_led {rs : List Row} {g : Nat} : jump (led rs) g = (jump rs g).map (lastGoal rs rs.length) := by
  unfold jump
  rw [led_get]
  cases rs[g]? with
  | none => rfl
  | some r => cases r <;> rfl
/-- the four ways of a jump, where there are two jumps at most -/
theorem ways {rs : List Row} (hf : rs.countP isGoto ≤ 2) (g : Nat) :
    jump rs g = none ∨ jump rs g = some g ∨ (∃ a, a ≠ g ∧ jump rs g = some a ∧ (jump rs a = none ∨ jump rs a = some a)) ∨ (∃ a, a ≠ g ∧ jump rs g = some a ∧ jump rs a = some g) ∨
      (∃ a b, a ≠ g ∧ b ≠ a ∧ b ≠ g ∧ jump rs g = some a ∧ jump rs a = some b ∧ jump rs b = none) := by
  cases h1 : jump rs g with
  | none => exact .inl rfl
  | some a =>
    by_cases e1 : a = g
    · exact .inr (.inl (by rw [e1]))
    · cases h2 : jump rs a with
      | none => exact .inr (.inr (.inl ⟨a, e1, rfl, .inl h2⟩))
      | some b =>
        by_cases e2 : b = a
        · exact .inr (.inr (.inl ⟨a, e1, rfl, .inr (by rw [h2, e2])⟩))
        · by_cases e3 : b = g
          · exact .inr (.inr (.inr (.inl ⟨a, e1, rfl, by rw [h2, e3]⟩)))
          · cases h3 : jump rs b with
            | none => exact .inr (.inr (.inr (.inr ⟨a, b, e1, e2, e3, rfl, h2, h3⟩)))
            | some c => exact (few3 hf h1 h2 h3 (fun e => e1 e.symm) (fun e => e2 e.symm) (fun e => e3 e.symm)).elim
theorem last_idem {rs : List Row} (hc : Closed rs) (hf : rs.countP isGoto ≤ 2) {g : Nat} (hg : g < rs.length) : lastGoal (led rs) rs.length (lastGoal rs rs.length g) = lastGoal rs rs.length g := by
  have nn : ∀ x, jump rs x = none → jump (led rs) x = none := fun x h => by rw [jump_led, h]; rfl
  have ss : ∀ x, jump rs x = some x → jump (led rs) x = some x := fun x h => by rw [jump_led, h]; simp [last_self h]
  rcases ways hf g with h | h | ⟨a, e1, h1, h2⟩ | ⟨a, e1, h1, h2⟩ | ⟨a, b, e1, e2, e3, h1, h2, h3⟩
  · rw [last_none h, last_none (nn _ h)]
  · rw [last_self h, last_self (ss _ h)]
  · have ha := jump_lt hc h1
    obtain ⟨m, hm⟩ : ∃ m, rs.length = m + 1 := ⟨rs.length - 1, by omega⟩
    rw [hm, last_step h1 e1]
    rcases h2 with h2 | h2
    · rw [last_none h2, last_none (nn _ h2)]
    · rw [last_self h2, last_self (ss _ h2)]
  · have hL := last_ring rs.length h1 h2 e1
    have hA := last_ring rs.length h2 h1 (fun e => e1 e.symm)
    by_cases hm : rs.length % 2 = 0
    · rw [if_pos hm] at hL hA
      rw [hL, last_ring rs.length (g := g) (a := a) (by rw [jump_led, h1]; simp [hA]) (by rw [jump_led, h2]; simp [hL]) e1, if_pos hm]
    · rw [if_neg hm] at hL hA
      rw [hL, last_self (by rw [jump_led, h2]; simp [hL])]
  · have ha := jump_lt hc h1
    have hb := jump_lt hc h2
    obtain ⟨m, hm⟩ : ∃ m, rs.length = m + 2 := ⟨rs.length - 2, by omega⟩
    rw [hm, last_step h1 e1, last_step h2 e2, last_none h3, last_none (nn _ h3)]
theorem turnR_turnR {φ ψ : Nat → Nat} {r : Row} (h : ∀ g ∈ goals r, ψ (φ g) = φ g) : turnR ψ (turnR φ r) = turnR φ r := by
  cases r <;> simp [turnR, goals] at h ⊢ <;> exact h
theorem goals_lt {rs : List Row} (hc : Closed rs) {r : Row} (hr : r ∈ rs) {g : Nat} (hg : g ∈ goals r) : g < rs.length := by
  obtain ⟨i, hi⟩ := List.getElem?_of_mem hr
  exact hc.2 i r hi g (by simp [follows, hg])
theorem led_idem {rs : List Row} (hc : Closed rs) (hf : rs.countP isGoto ≤ 2) : led (led rs) = led rs := by
  show (led rs).map (turnR (lastGoal (led rs) (led rs).length)) = led rs
  rw [led_len]
  show (rs.map (turnR (lastGoal rs rs.length))).map (turnR (lastGoal (led rs) rs.length)) = rs.map (turnR (lastGoal rs rs.length))
  rw [List.map_map]
  refine List.map_congr_left fun r hr => ?_
  exact turnR_turnR fun g hg => last_idem hc hf (goals_lt hc hr hg)
theorem isGoto_turnR {φ : Nat → Nat} (r : Row) : isGoto (turnR φ r) = isGoto r := by cases r <;> rfl
theorem regOk_turnR {φ : Nat → Nat} {r : Row} (h : regOk r) : regOk (turnR φ r) := by cases r <;> exact h
theorem led_few (rs : List Row) : (led rs).countP isGoto = rs.countP isGoto := by
  unfold led
  rw [List.countP_map]
  exact List.countP_congr fun r _ => by simp [isGoto_turnR]
theorem cutL_few {φ : Nat → Nat} : ∀ (rs : List Row) (K : List Bool), (cutL φ rs K).countP isGoto ≤ rs.countP isGoto
  | [], _ => by simp [cutL]
  | _ :: _, [] => by simp [cutL]
  | r :: rs, b :: K => by
    have := cutL_few (φ := φ) rs K
    cases b
    · simp only [cutL, Bool.false_eq_true, if_false, List.nil_append, List.countP_cons]; omega
    · simp only [cutL, if_true, List.singleton_append, List.countP_cons, isGoto_turnR]; omega
theorem cutL_mem {φ : Nat → Nat} {rs : List Row} {K : List Bool} {r : Row} (h : r ∈ cutL φ rs K) : ∃ r0 ∈ rs, r = turnR φ r0 := by
  obtain ⟨j, hj⟩ := List.getElem?_of_mem h
  obtain ⟨i, r0, h1, _, _, e⟩ := cutL_from hj
  exact ⟨r0, List.mem_of_getElem? h1, e⟩
theorem count_all : ∀ {K : List Bool}, K.count true = K.length → ∀ b ∈ K, b = true := by
  intro K h b hb
  exact (List.count_eq_length.mp h b hb).symm
theorem take_all {K : List Bool} (h : ∀ b ∈ K, b = true) {i : Nat} (hi : i < K.length) : (K.take i).count true = i := by
  rw [List.count_eq_length.mpr fun b hb => (h b (List.mem_of_mem_take hb)).symm, List.length_take]; omega
theorem cutL_all {φ : Nat → Nat} : ∀ {rs : List Row} {K : List Bool}, K.length = rs.length → (∀ b ∈ K, b = true) → cutL φ rs K = rs.map (turnR φ)
  | [], [], _, _ => rfl
  | [], _ :: _, h, _ => by simp at h
  | _ :: _, [], h, _ => by simp at h
  | r :: rs, b :: K, h, hb => by
    have := cutL_all (φ := φ) (rs := rs) (K := K) (by simpa using h) fun b hb' => hb b (.tail _ hb')
    have e : b = true := hb b (.head _)
    subst e
    simp [cutL, this]
theorem turnR_id {φ : Nat → Nat} {r : Row} (h : ∀ g ∈ goals r, φ g = g) : turnR φ r = r := by
  cases r <;> simp [turnR, goals] at h ⊢ <;> exact h
theorem map_id' {φ : Nat → Nat} {rs : List Row} (h : ∀ r ∈ rs, ∀ g ∈ goals r, φ g = g) : rs.map (turnR φ) = rs := by
  have : rs.map (turnR φ) = rs.map id := List.map_congr_left fun r hr => turnR_id (h r hr)
  rw [this, List.map_id]
/-- nothing is dropped: nothing is changed -/
theorem shrunk_all {rs : List Row} {bs : List Bool} (hc : Closed rs) (hb : RB rs bs) (h : rs.length ≤ (shrunk rs bs).length) : shrunk rs bs = rs ∧ ∀ b ∈ keepL rs bs, b = true := by
  have h1 : (shrunk rs bs).length = (keepL rs bs).count true := cutL_length (keep_len hb)
  have h2 := List.count_le_length (a := true) (l := keepL rs bs)
  have ht := count_all (K := keepL rs bs) (by rw [keep_len hb] at h2 ⊢; omega)
  refine ⟨?_, ht⟩
  show cutL _ rs _ = rs
  rw [cutL_all (keep_len hb) ht]
  refine map_id' fun r hr g hg => ?_
  rw [placeF_eq (by rw [keep_len hb]; exact goals_lt hc hr hg), take_all ht (by rw [keep_len hb]; exact goals_lt hc hr hg)]
noncomputable def Fixed (rs : List Row) : Prop := ∃ bs, RB (led rs) bs ∧ shrunk (led rs) bs = rs
structure Good (rs : List Row) : Prop where
  closed : Closed rs
  few : rs.countP isGoto ≤ 2
  regs : ∀ r ∈ rs, regOk r
theorem Good.led {rs : List Row} (h : Good rs) : Good (led rs) where
  closed := led_closed h.closed
  few := by rw [led_few]; exact h.few
  regs := fun r hr => by
    obtain ⟨r0, h0, rfl⟩ := List.mem_map.mp hr
    exact regOk_turnR (h.regs r0 h0)
theorem Good.shrunk {rs : List Row} {bs : List Bool} (h : Good rs) (hb : RB rs bs) : Good (shrunk rs bs) where
  closed := shrunk_closed h.closed hb
  few := Nat.le_trans (cutL_few _ _) h.few
  regs := fun r hr => by
    obtain ⟨r0, h0, rfl⟩ := cutL_mem hr
    exact regOk_turnR (h.regs r0 h0)
open Classical in
noncomputable def mu (rs : List Row) : Nat := 2 * rs.length + (if led rs = rs then 0 else 1)
theorem shrunk_le {rs : List Row} {bs : List Bool} (hb : RB rs bs) : (shrunk rs bs).length ≤ rs.length := by
  rw [show (shrunk rs bs).length = _ from cutL_length (keep_len hb)]
  have := List.count_le_length (a := true) (l := keepL rs bs)
  rw [keep_len hb] at this; exact this
theorem mu_falls {rs : List Row} {bs : List Bool} (h : Good rs) (hb : RB (led rs) bs) (hn : shrunk (led rs) bs ≠ rs) : mu (shrunk (led rs) bs) < mu rs := by
  have hl := shrunk_le hb
  rw [led_len] at hl
  by_cases he : (led rs).length ≤ (shrunk (led rs) bs).length
  · have e := (shrunk_all h.led.closed hb he).1
    rw [e] at hn ⊢
    unfold mu
    rw [led_idem h.closed h.few, if_pos rfl, if_neg hn, led_len]; omega
  · rw [led_len] at he
    unfold mu
    split <;> split <;> omega
structure Pr (rs cur : List Row) (i : Nat) : Prop where
  good : Good cur
  len : cur.length ≤ rs.length
  comes : ∀ (g : Reg) (b : Bool), Comes cur 0 g b ↔ Comes rs 0 g b
  fall : mu cur + i ≤ 2 * rs.length + 1
  fix : Fixed rs → cur = rs
theorem Pr.start {rs : List Row} (h : Good rs) : Pr rs rs 0 where
  good := h
  len := Nat.le_refl _
  comes := fun _ _ => Iff.rfl
  fall := by unfold mu; split <;> omega
  fix := fun _ => rfl
theorem Pr.next {rs cur : List Row} {i : Nat} {bs : List Bool} (h : Pr rs cur i) (hb : RB (led cur) bs) (hn : shrunk (led cur) bs ≠ cur) : Pr rs (shrunk (led cur) bs) (i + 1) where
  good := h.good.led.shrunk hb
  len := by have := shrunk_le hb; rw [led_len] at this; have := h.len; omega
  comes := fun g b => ((shrunk_comes h.good.led.closed hb).trans led_comes).trans (h.comes g b)
  fall := by have := mu_falls h.good hb hn; have := h.fall; omega
  fix := fun hf => by
    have e := h.fix hf
    subst e
    obtain ⟨bs', hb', e⟩ := hf
    rw [RB.uniq hb hb'] at hn
    exact absurd e hn
theorem Pr.ends {rs cur : List Row} (h : Pr rs cur (2 * rs.length + 2)) : False := by have := h.fall; omega
-- what holds where nothing changes any more
structure LeanQ (q : List Row) : Prop where
  reach : ∀ i, i < q.length → Reach q i
  nofall : ∀ i g : Nat, q[i]? = some (.goto g) → g ≠ i + 1
  reads : ∀ r ∈ q, ∀ d, (∃ b, r = .const d b) ∨ (∃ s, r = .move d s) → ∃ r' ∈ q, d ∈ uses r'
  round : ∀ r ∈ q, ∀ g ∈ goals r, lastGoal q q.length g = g
theorem readsL_from : ∀ {rs : List Row} {bs : List Bool} {x : Nat}, x ∈ readsL rs bs → ∃ r ∈ rs, x ∈ uses r
  | [], _, _, h => by simp [readsL] at h
  | _ :: _, [], _, h => by simp [readsL] at h
  | r :: rs, b :: bs, x, h => by
    rcases List.mem_append.mp h with h | h
    · cases b
      · simp at h
      · exact ⟨r, .head _, by simpa using h⟩
    · obtain ⟨r', h1, h2⟩ := readsL_from h
      exact ⟨r', .tail _ h1, h2⟩
theorem turnR_fix {φ : Nat → Nat} {r : Row} (h : turnR φ r = r) : ∀ g ∈ goals r, φ g = g := by
  cases r <;> simp [turnR, goals] at h ⊢ <;> exact h
theorem lean_of {q : List Row} (h : Good q) (hf : Fixed q) : LeanQ q := by
  obtain ⟨bs, hb, e⟩ := hf
  obtain ⟨e1, ht⟩ := shrunk_all h.led.closed hb (by rw [e, led_len]; exact Nat.le_refl _)
  rw [e] at e1
  rw [← e1] at hb ht
  have hk : ∀ i r, q[i]? = some r → Reach q i ∧ keepR (readsL q bs) i r true = true := fun i r hi => by
    have hlt := (List.getElem?_eq_some_iff.mp hi).1
    have hl := keep_len hb
    have h1 : (keepL q bs)[i]? = some true := by
      rw [List.getElem?_eq_getElem (by omega)]
      exact congrArg some (ht _ (List.getElem_mem _))
    obtain ⟨r', h2, h3, h4⟩ := keep_true hb h1
    rw [hi] at h2
    obtain rfl := Option.some.inj h2
    exact ⟨h3, h4⟩
  refine ⟨fun i hi => (hk i _ (List.getElem?_eq_getElem hi)).1, fun i g hg => ?_, fun r hr d hd => ?_, fun r hr g hg => ?_⟩
  · have := (hk i _ hg).2
    simpa [keepR] using this
  · obtain ⟨i, hi⟩ := List.getElem?_of_mem hr
    have := (hk i _ hi).2
    rcases hd with ⟨b, rfl⟩ | ⟨s, rfl⟩ <;> exact readsL_from (by simpa [keepR] using this)
  · obtain ⟨i, hi⟩ := List.getElem?_of_mem hr
    have h1 : (led q)[i]? = some (turnR (lastGoal q q.length) r) := by rw [led_get, hi]; rfl
    rw [← e1, hi] at h1
    exact turnR_fix (Option.some.inj h1).symm g hg
theorem ring_of {q : List Row} (h : Good q) {g : Nat} (hg : g < q.length) (hl : lastGoal q q.length g = g) : jump q g = none ∨ ∃ P : Nat → Prop, P g ∧ ∀ a, P a → ∃ t, q[a]? = some (.goto t) ∧ P t := by
  rcases ways h.few g with h0 | h0 | ⟨a, e1, h1, h2⟩ | ⟨a, e1, h1, h2⟩ | ⟨a, b, e1, e2, e3, h1, h2, h3⟩
  · exact .inl h0
  · exact .inr ⟨fun x => x = g, rfl, fun a e => by subst e; exact ⟨a, jump_some.mp h0, rfl⟩⟩
  · exfalso
    obtain ⟨m, hm⟩ : ∃ m, q.length = m + 1 := ⟨q.length - 1, by omega⟩
    rw [hm, last_step h1 e1] at hl
    rcases h2 with h2 | h2
    · rw [last_none h2] at hl; exact e1 hl
    · rw [last_self h2] at hl; exact e1 hl
  · refine .inr ⟨fun x => x = g ∨ x = a, .inl rfl, fun x e => ?_⟩
    rcases e with e | e
    · subst e; exact ⟨a, jump_some.mp h1, .inr rfl⟩
    · subst e; exact ⟨g, jump_some.mp h2, .inl rfl⟩
  · exfalso
    have ha := jump_lt h.closed h1
    have hb := jump_lt h.closed h2
    obtain ⟨m, hm⟩ : ∃ m, q.length = m + 2 := ⟨q.length - 2, by omega⟩
    rw [hm, last_step h1 e1, last_step h2 e2, last_none h3] at hl
    exact e3 hl
end Mine

namespace Mine
/-! rows and states as data, for == and in -/
noncomputable def boolP (b : Bool) : PyData := .tuple [.str (Str.ofString "bool"), .bool b]
noncomputable def rowP : Row → PyData
  | .goto g => .tuple [.str (Str.ofString "goto"), .int g]
  | .jif r g => .tuple [.str (Str.ofString "unless"), .int r, .int g]
  | .const d b => .tuple [.str (Str.ofString "const"), .int d, boolP b]
  | .move d s => .tuple [.str (Str.ofString "move"), .int d, .int s]
  | .ret s => .tuple [.str (Str.ofString "return"), .int s]
theorem rowP_lay (r : Row) : (rowP r).canLay0 = true ∧ (rowP r).depth ≤ 2 := by
  cases r <;> exact ⟨by simp [rowP, boolP, PyData.canLay0, PyData.canLayAll0] <;> decide +kernel, by simp [rowP, boolP, PyData.depth, PyData.depthAll]⟩
theorem rowP_lays : ∀ rs : List Row, PyData.canLayAll0 (rs.map rowP) = true ∧ PyData.depthAll (rs.map rowP) ≤ 2
  | [] => by simp [PyData.canLayAll0, PyData.depthAll]
  | r :: rs => by
    have h1 := rowP_lay r
    have h2 := rowP_lays rs
    have a1 := h1.2
    have a2 := h2.2
    simp only [List.map_cons, PyData.canLayAll0, PyData.depthAll, h1.1, h2.1, Bool.and_self, true_and]
    omega
theorem eqv_int_nat (a b : Nat) : PyData.eqv (.int (a : Int)) (.int (b : Int)) = decide (a = b) := by
  have : PyData.eqv (.int (a : Int)) (.int (b : Int)) = ((a : Int) == (b : Int)) := by simp [PyData.eqv]
  rw [this]
  by_cases h : a = b
  · subst h; simp
  · rw [decide_eq_false h]; exact beq_eq_false_iff_ne.mpr fun e => h (by omega)
theorem boolP_eqv (a b : Bool) : PyData.eqv (boolP a) (boolP b) = decide (a = b) := by
  cases a <;> cases b <;> rfl
theorem rowP_eqv (r r' : Row) : PyData.eqv (rowP r) (rowP r') = decide (r = r') := by
  have s1 : ∀ a b : Str, PyData.eqv (.str a) (.str b) = decide (a = b) := fun a b => by
    have : PyData.eqv (.str a) (.str b) = (a == b) := by simp [PyData.eqv]
    rw [this]
    by_cases h : a = b
    · subst h; simp
    · rw [decide_eq_false h]; exact beq_eq_false_iff_ne.mpr h
  have s2 : ∀ xs ys : List PyData, PyData.eqv (.tuple xs) (.tuple ys) = PyData.eqvAll xs ys := fun xs ys => by simp [PyData.eqv]
  have s3 : PyData.eqvAll [] [] = true := by simp [PyData.eqvAll]
  have s4 : ∀ x y xs ys, PyData.eqvAll (x :: xs) (y :: ys) = (PyData.eqv x y && PyData.eqvAll xs ys) := fun x y xs ys => by simp [PyData.eqvAll]
  have s5 : ∀ x xs, PyData.eqvAll (x :: xs) [] = false := fun x xs => by simp [PyData.eqvAll]
  have s6 : ∀ x xs, PyData.eqvAll [] (x :: xs) = false := fun x xs => by simp [PyData.eqvAll]
  have d1 : decide (Str.ofString "goto" = Str.ofString "unless") = false := by decide
  have d2 : decide (Str.ofString "goto" = Str.ofString "const") = false := by decide
  have d3 : decide (Str.ofString "goto" = Str.ofString "move") = false := by decide
  have d4 : decide (Str.ofString "goto" = Str.ofString "return") = false := by decide
  have d5 : decide (Str.ofString "unless" = Str.ofString "const") = false := by decide
  have d6 : decide (Str.ofString "unless" = Str.ofString "move") = false := by decide
  have d7 : decide (Str.ofString "unless" = Str.ofString "return") = false := by decide
  have d8 : decide (Str.ofString "const" = Str.ofString "move") = false := by decide
  have d9 : decide (Str.ofString "const" = Str.ofString "return") = false := by decide
  have d10 : decide (Str.ofString "move" = Str.ofString "return") = false := by decide
  have sy : ∀ a b : Str, decide (a = b) = false → decide (b = a) = false := fun a b h => by
    rw [decide_eq_false_iff_not] at h ⊢; exact fun e => h e.symm
  cases r <;> cases r' <;> simp only [rowP, s2, s4, s3, s5, s6, s1, eqv_int_nat, boolP_eqv, d1, d2, d3, d4, d5, d6, d7, d8, d9, d10, sy _ _ d1, sy _ _ d2, sy _ _ d3, sy _ _ d4, sy _ _ d5, sy _ _ d6, sy _ _ d7, sy _ _ d8, sy _ _ d9, sy _ _ d10, Bool.false_and, Bool.and_true, decide_true, Bool.true_and, Row.goto.injEq, Row.jif.injEq, Row.const.injEq, Row.move.injEq, Row.ret.injEq, Bool.decide_and, reduceCtorEq, decide_false]
theorem rowP_eqvAll : ∀ rs rs' : List Row, PyData.eqvAll (rs.map rowP) (rs'.map rowP) = decide (rs = rs')
  | [], [] => by simp [PyData.eqvAll]
  | [], _ :: _ => by simp [PyData.eqvAll]
  | _ :: _, [] => by simp [PyData.eqvAll]
  | r :: rs, r' :: rs' => by
    simp only [List.map_cons, PyData.eqvAll, rowP_eqv, rowP_eqvAll rs rs', List.cons.injEq, Bool.decide_and]
section
variable {h₀ h : Heap} {L : Addr} {news : Led}
theorem reads_tup {a : Addr} {vs : List Value} {n : Nat} {xs : List PyData} {as : List Addr} (N : News h₀ L h news) (hm : (a, tupN vs n) ∈ news) (r : ReadsAll h vs xs as) : Reads h (.ref a) (.tuple xs) as :=
  reads_tuple_at (N.get hm) rfl rfl (by simpa using r)
theorem row_reads {v : Value} {r : Row} (N : News h₀ L h news) (hr : RowIn news v r) : Reads h v (rowP r) [] := by
  have c1 : ∀ {v d}, Reads h v d [] → ReadsAll h [v] [d] [] := fun h => .cons h .nil
  have c2 : ∀ {v d vs ds}, Reads h v d [] → ReadsAll h vs ds [] → ReadsAll h (v :: vs) (d :: ds) [] := fun h k => .cons h k
  cases hr with
  | goto hm => exact reads_tup N hm (c2 (.str _ _) (c1 (.int _ _)))
  | jif hm => exact reads_tup N hm (c2 (.str _ _) (c2 (.int _ _) (c1 (.int _ _))))
  | const hm hm' => exact reads_tup N hm (c2 (.str _ _) (c2 (.int _ _) (c1 (reads_tup N hm' (c2 (.str _ _) (c1 (.bool _)))))))
  | move hm => exact reads_tup N hm (c2 (.str _ _) (c2 (.int _ _) (c1 (.int _ _))))
  | ret hm => exact reads_tup N hm (c2 (.str _ _) (c1 (.int _ _)))
theorem rows_reads {vs : List Value} {rs : List Row} (N : News h₀ L h news) (hr : RowsIn news vs rs) : ReadsAll h vs (rs.map rowP) [] := by
  induction hr with
  | nil => exact .nil
  | cons a _ ih => exact .cons (row_reads N a) ih
end
section
variable {prog : Program} {w : World} {A : Around} {E : Value → Shared → Prop} {s : Shared} {h₀ : Heap} {L a b : Addr} {news : Led} {xs ys : List Value} {ka kb : Nat} {rs rs' : List Row} {Q : Value → Shared → Prop}
theorem shaped_list (rs : List Row) : SeqAt.shaped (.list (rs.map rowP)) = true := by
  have h := rowP_lays rs
  have a := h.2
  unfold SeqAt.shaped
  simp only [PyData.canLay0, PyData.depth, h.1, Bool.true_and]
  exact decide_eq_true (by omega)
theorem shaped_tup (rs : List Row) : SeqAt.shaped (.tuple (rs.map rowP)) = true := by
  have h := rowP_lays rs
  have a := h.2
  unfold SeqAt.shaped
  simp only [PyData.canLay0, PyData.depth, h.1, Bool.true_and]
  exact decide_eq_true (by omega)
theorem eq_rows_list (N : News h₀ L s.heap news) (ma : (a, listOf xs.toArray ka) ∈ news) (mb : (b, listOf ys.toArray kb) ∈ news) (ra : RowsIn news xs rs) (rb : RowsIn news ys rs') (hu : A.units + 64 < cLine) (h : Q (.bool (decide (rs = rs'))) s) :
    wpAny (model prog w) A (compareOp .Eq (.ref a) (.ref b)) Q E s := by
  refine eq_dataH (reads_list_at (N.get ma) rfl rfl (by simpa [W.listOf] using rows_reads N ra)) (reads_list_at (N.get mb) rfl rfl (by simpa [W.listOf] using rows_reads N rb)) (shaped_list _) (shaped_list _) hu ?_
  have e : PyData.eqv (.list (rs.map rowP)) (.list (rs'.map rowP)) = decide (rs = rs') := by rw [← rowP_eqvAll]; simp [PyData.eqv]
  rw [e]; exact h
theorem eq_rows_tup (N : News h₀ L s.heap news) (ma : (a, tupN xs ka) ∈ news) (mb : (b, tupN ys kb) ∈ news) (ra : RowsIn news xs rs) (rb : RowsIn news ys rs') (hu : A.units + 64 < cLine) (h : Q (.bool (decide (rs = rs'))) s) :
    wpAny (model prog w) A (compareOp .Eq (.ref a) (.ref b)) Q E s := by
  refine eq_dataH (reads_tup N ma (rows_reads N ra)) (reads_tup N mb (rows_reads N rb)) (shaped_tup _) (shaped_tup _) hu ?_
  have e : PyData.eqv (.tuple (rs.map rowP)) (.tuple (rs'.map rowP)) = decide (rs = rs') := by rw [← rowP_eqvAll]; simp [PyData.eqv]
  rw [e]; exact h
end
/-- a state of the runner: where it stands, and the four registers -/
noncomputable abbrev St4 := Nat × List Bool
noncomputable def stP (q : St4) : PyData := .tuple [.int q.1, .tuple (q.2.map boolP)]
theorem boolP_lays : ∀ bs : List Bool, PyData.canLayAll0 (bs.map boolP) = true ∧ PyData.depthAll (bs.map boolP) ≤ 1
  | [] => by simp [PyData.canLayAll0, PyData.depthAll]
  | b :: bs => by
    have h2 := boolP_lays bs
    have h1 : (boolP b).canLay0 = true ∧ (boolP b).depth ≤ 1 := by
      cases b <;> exact ⟨by simp [boolP, PyData.canLay0, PyData.canLayAll0] <;> decide +kernel, by simp [boolP, PyData.depth, PyData.depthAll]⟩
    have a1 := h1.2
    have a2 := h2.2
    simp only [List.map_cons, PyData.canLayAll0, PyData.depthAll, h1.1, h2.1, Bool.and_self, true_and]
    omega
theorem boolP_eqvAll : ∀ a b : List Bool, PyData.eqvAll (a.map boolP) (b.map boolP) = decide (a = b)
  | [], [] => by simp [PyData.eqvAll]
  | [], _ :: _ => by simp [PyData.eqvAll]
  | _ :: _, [] => by simp [PyData.eqvAll]
  | a :: as, b :: bs => by
    simp only [List.map_cons, PyData.eqvAll, boolP_eqv, boolP_eqvAll as bs, List.cons.injEq, Bool.decide_and]
theorem stP_lay (q : St4) : (stP q).canLay0 = true ∧ (stP q).depth ≤ 3 := by
  have h := boolP_lays q.2
  have a := h.2
  unfold stP
  simp only [PyData.canLay0, PyData.canLayAll0, PyData.depth, PyData.depthAll, h.1, Bool.and_self, true_and]
  omega
theorem stP_lays : ∀ qs : List St4, PyData.canLayAll0 (qs.map stP) = true ∧ PyData.depthAll (qs.map stP) ≤ 3
  | [] => by simp [PyData.canLayAll0, PyData.depthAll]
  | q :: qs => by
    have h1 := stP_lay q
    have h2 := stP_lays qs
    have a1 := h1.2
    have a2 := h2.2
    simp only [List.map_cons, PyData.canLayAll0, PyData.depthAll, h1.1, h2.1, Bool.and_self, true_and]
    omega
theorem stP_eqv (p q : St4) : PyData.eqv (stP p) (stP q) = decide (p = q) := by
  have : PyData.eqv (stP p) (stP q) = (decide (p.1 = q.1) && decide (p.2 = q.2)) := by
    rw [← boolP_eqvAll, ← eqv_int_nat]
    simp [stP, PyData.eqv, PyData.eqvAll]
  rw [this, ← Bool.decide_and]
  exact decide_eq_decide.mpr Prod.ext_iff.symm
theorem stP_any (qs : List St4) (q : St4) : ((qs.map stP).any fun y => PyData.eqv y (stP q)) = decide (q ∈ qs) := by
  induction qs with
  | nil => simp
  | cons p qs ih =>
    simp only [List.map_cons, List.any_cons, stP_eqv, ih, List.mem_cons, Bool.decide_or]
    congr 1
    exact decide_eq_decide.mpr ⟨fun e => e.symm, fun e => e.symm⟩
/-- the four truths of the registers -/
inductive BoolsIn (N : Led) : List Value → List Bool → Prop
  | nil : BoolsIn N [] []
  | cons {a : Addr} {b : Bool} {n : Nat} {t : Tok} {vs : List Value} {bs : List Bool} : (a, tupN [.str (Str.ofString "bool") t, .bool b] n) ∈ N → BoolsIn N vs bs → BoolsIn N (.ref a :: vs) (b :: bs)
theorem BoolsIn.mono {N N' : Led} {vs : List Value} {bs : List Bool} (h : BoolsIn N vs bs) (s : ∀ p ∈ N, p ∈ N') : BoolsIn N' vs bs := by
  induction h with
  | nil => exact .nil
  | cons a _ ih => exact .cons (s _ a) ih
theorem BoolsIn.length {N : Led} {vs : List Value} {bs : List Bool} (h : BoolsIn N vs bs) : vs.length = bs.length := by
  induction h with
  | nil => rfl
  | cons _ _ ih => simp [ih]
theorem BoolsIn.get {N : Led} {vs : List Value} {bs : List Bool} (h : BoolsIn N vs bs) : ∀ {i : Nat} {b : Bool}, bs[i]? = some b → ∃ a n t, vs[i]? = some (.ref a) ∧ (a, tupN [.str (Str.ofString "bool") t, .bool b] n) ∈ N := by
  induction h with
  | nil => intro i r e; simp at e
  | @cons a b n t vs bs hm _ ih =>
    intro i r e
    cases i with
    | zero => exact ⟨a, n, t, rfl, by have : b = r := by simpa using e
                                      exact this ▸ hm⟩
    | succ i => obtain ⟨a', n', t', h1, h2⟩ := ih (i := i) (b := r) (by simpa using e); exact ⟨a', n', t', by simpa using h1, h2⟩
theorem BoolsIn.set {N : Led} {vs : List Value} {bs : List Bool} (h : BoolsIn N vs bs) {a : Addr} {b : Bool} {n : Nat} {t : Tok} (hm : (a, tupN [.str (Str.ofString "bool") t, .bool b] n) ∈ N) : ∀ i : Nat, BoolsIn N (vs.set i (.ref a)) (bs.set i b) := by
  induction h with
  | nil => intro i; exact .nil
  | cons hx r ih =>
    intro i
    cases i with
    | zero => exact .cons hm r
    | succ i => exact .cons hx (ih i)
inductive StsIn (N : Led) : List Value → List St4 → Prop
  | nil : StsIn N [] []
  | cons {a c : Addr} {n n' : Nat} {t : Tok} {ws vs : List Value} {q : St4} {qs : List St4} : (a, tupN [.int (q.1 : Int) t, .ref c] n) ∈ N → (c, tupN ws n') ∈ N → BoolsIn N ws q.2 → StsIn N vs qs → StsIn N (.ref a :: vs) (q :: qs)
theorem StsIn.mono {N N' : Led} {vs : List Value} {qs : List St4} (h : StsIn N vs qs) (s : ∀ p ∈ N, p ∈ N') : StsIn N' vs qs := by
  induction h with
  | nil => exact .nil
  | cons a b c _ ih => exact .cons (s _ a) (s _ b) (c.mono s) ih
theorem StsIn.length {N : Led} {vs : List Value} {qs : List St4} (h : StsIn N vs qs) : vs.length = qs.length := by
  induction h with
  | nil => rfl
  | cons _ _ _ _ ih => simp [ih]
theorem StsIn.snoc {N : Led} {vs : List Value} {qs : List St4} (h : StsIn N vs qs) {a c : Addr} {n n' : Nat} {t : Tok} {ws : List Value} {q : St4} (h1 : (a, tupN [.int (q.1 : Int) t, .ref c] n) ∈ N) (h2 : (c, tupN ws n') ∈ N) (h3 : BoolsIn N ws q.2) : StsIn N (vs ++ [.ref a]) (qs ++ [q]) := by
  induction h with
  | nil => exact .cons h1 h2 h3 .nil
  | cons a b c _ ih => exact .cons a b c ih
section
variable {h₀ h : Heap} {L : Addr} {news : Led}
theorem bools_reads {vs : List Value} {bs : List Bool} (N : News h₀ L h news) (hr : BoolsIn news vs bs) : ReadsAll h vs (bs.map boolP) [] := by
  induction hr with
  | nil => exact .nil
  | cons hm _ ih => exact .cons (as := []) (bs := []) (reads_tup N hm (.cons (as := []) (bs := []) (.str _ _) (.cons (as := []) (bs := []) (.bool _) .nil))) ih
theorem st_reads {a c : Addr} {n n' : Nat} {t : Tok} {ws : List Value} {q : St4} (N : News h₀ L h news) (h1 : (a, tupN [.int (q.1 : Int) t, .ref c] n) ∈ news) (h2 : (c, tupN ws n') ∈ news) (h3 : BoolsIn news ws q.2) : Reads h (.ref a) (stP q) [] :=
  reads_tup N h1 (.cons (as := []) (bs := []) (.int _ _) (.cons (as := []) (bs := []) (reads_tup N h2 (bools_reads N h3)) .nil))
theorem sts_reads {vs : List Value} {qs : List St4} (N : News h₀ L h news) (hr : StsIn news vs qs) : ReadsAll h vs (qs.map stP) [] := by
  induction hr with
  | nil => exact .nil
  | cons a b c _ ih => exact .cons (as := []) (bs := []) (st_reads N a b c) ih
end
section
variable {prog : Program} {w : World} {A : Around} {E : Value → Shared → Prop} {s : Shared} {h₀ : Heap} {L : Addr} {news : Led} {Q : Value → Shared → Prop}
theorem notin_states {a c l : Addr} {n n' nl : Nat} {t : Tok} {ws vs : List Value} {q : St4} {qs : List St4} (N : News h₀ L s.heap news) (h1 : (a, tupN [.int (q.1 : Int) t, .ref c] n) ∈ news) (h2 : (c, tupN ws n') ∈ news) (h3 : BoolsIn news ws q.2)
    (hl : (l, listOf vs.toArray nl) ∈ news) (hs : StsIn news vs qs) (hu : A.units + 64 < cLine) (h : Q (.bool (!decide (q ∈ qs))) s) : wpAny (model prog w) A (compareOp .NotIn (.ref a) (.ref l)) Q E s := by
  have l1 := stP_lays qs
  have l2 := stP_lay q
  refine SeqAt.notIn_list_reads (reads_list_at (N.get hl) rfl rfl (by simpa [W.listOf] using sts_reads N hs)) (st_reads N h1 h2 h3) l1.1 l2.1 ?_ (by rw [stP_any]; exact h)
  have := Nat.min_le_right (PyData.depthAll (qs.map stP)) (stP q).depth
  have := l2.2
  omega
end
end Mine

namespace Mine
section
variable {prog : Program} {w : World} {A : Around} {E : Value → Shared → Prop} {s : Shared} {h₀ : Heap} {L : Addr} {m : Str → Option Value} {news : Led} {Q : Value → Shared → Prop}
theorem tuple_led {l : Addr} {vs : List Value} {n : Nat} (F : Fr h₀ L s.heap m) (N : News h₀ L s.heap news) (hl : (l, listOf vs.toArray n) ∈ news) (hz : vs.length ≤ 9999)
    (h : ∀ D h', Fr h₀ L h' m → News h₀ L h' ((D, tupN vs 0) :: news) → (∀ p ∈ news, p.1 < D) → Q (.ref D) { s with heap := h' }) : wpAny (model prog w) A (call (.type "tuple") [.ref l]) Q E s :=
  kde_tupleOf F N (N.isList hl) (by simp; omega) (by simp) h
theorem tuple_tup {t : Addr} {vs : List Value} {n : Nat} (N : News h₀ L s.heap news) (ht : (t, tupN vs n) ∈ news) (h : Q (.ref t) s) : wpAny (model prog w) A (call (.type "tuple") [.ref t]) Q E s :=
  call_tuple_tup (N.isTup ht) h
theorem tuple_K {K : Frag} {t : Addr} {vs : List Value} {n : Nat} {dd : Option Addr} {sl : Array (Option Value)} (F : Fr h₀ L s.heap m) (X : K.In h₀) (hl : K.lookup t = some ⟨.type "tuple", dd, .seq vs.toArray n, sl⟩) (h : Q (.ref t) s) : wpAny (model prog w) A (call (.type "tuple") [.ref t]) Q E s :=
  call_tuple_tup (tupK (X.keeps F.keep) hl) h
theorem list_tup {t : Addr} {vs : List Value} {n : Nat} (F : Fr h₀ L s.heap m) (N : News h₀ L s.heap news) (ht : (t, tupN vs n) ∈ news) (hz : vs.length ≤ 9999)
    (h : ∀ D c h', Fr h₀ L h' m → News h₀ L h' ((D, listOf vs.toArray c) :: news) → (∀ p ∈ news, p.1 < D) → Q (.ref D) { s with heap := h' }) : wpAny (model prog w) A (call (.type "list") [.ref t]) Q E s :=
  list_copyKT F N (N.isTup ht) h (by rw [sizeLine_eq]; simp; omega)
end
end Mine
-- MACROS
local macro_rules | `(tactic| walk_at "call type:tuple") => `(tactic| (k_here; k_dflt (first | (refine' tuple_led ?F ?N ?l ?z ?_; (case F | N => k_asm); (case l => k_mem); (case z => omega)) | (refine' tuple_tup ?N ?l ?_; (case N => k_asm); (case l => k_mem)) | (refine' tuple_K (vs := []) ?F ?X ?l ?_; (case F | X => k_asm); (case l => k_is))); (try (walk_at "t5"))))
local macro_rules | `(tactic| walk_at "call type:list") => `(tactic| (k_here; k_dflt (refine' list_tup ?F ?N ?l ?z ?_; (case F | N => k_asm); (case l => k_mem); (case z => omega)); intro D' c' h' F' N' l1; (try k_lt l1)))
-- END
namespace Mine
noncomputable abbrev ent (w : World) (x : String) (k : Tok) (v : Value) : DictEntry := { hash := PyData.keyHash w.params (Str.ofString x), key := .str (Str.ofString x) k, val := v }
/-- an object of class Code, its rows the tuple rt -/
noncomputable def CodeIs (w : World) (N : Led) (x rt : Addr) : Prop := ∃ (d : Addr) (k1 k2 k3 k4 k5 k6 k7 t1 t2 t3 : Tok) (n : Nat), (x, instObj 78 d) ∈ N ∧
  (d, dictOf [ent w "name" k1 (.str (Str.ofString "p") t1), ent w "arity" k2 (.int 1 t2), ent w "slots" k3 (.int 4 t3), ent w "rows" k4 (.ref rt), ent w "static" k5 (.ref 58), ent w "captures" k6 (.ref 59), ent w "marks" k7 (.ref 60)] n) ∈ N
theorem CodeIs.mono {w : World} {N N' : Led} {x rt : Addr} (h : CodeIs w N x rt) (s : ∀ p ∈ N, p ∈ N') : CodeIs w N' x rt := by
  obtain ⟨d, k1, k2, k3, k4, k5, k6, k7, t1, t2, t3, n, h1, h2⟩ := h
  exact ⟨d, k1, k2, k3, k4, k5, k6, k7, t1, t2, t3, n, s _ h1, s _ h2⟩
theorem code_ct (w : World) (fz : Led) (l : Addr) (vs : List Value) (n : Nat) (t1 t2 t3 : Tok) (hl : (l, listOf vs.toArray n) ∈ fz) (hlv : vs.length ≤ 99) :
    Ct w 78 [.str (Str.ofString "p") t1, .int 1 t2, .int 4 t3, .ref l] fz 2 64 (fun tl x => ∃ xa rt, x = .ref xa ∧ CodeIs w tl xa rt ∧ (rt, tupN vs 0) ∈ tl) := by
  intro dp un gd cn cs ca ccd cl outer A₀ base h₀ L m news s p loose mean mg mb Q E B F X N T hk hsub hd hu ret
  (k_here; (with_reducible show wpAny _ _ (call (Value.ref 78) _) _ _ _); k_dflt (refine' call_cls ?k1 ?k2 ?k3 ?k4 ?k5 ?k6 ?_; (case k1 => k_asm); (case k2 => k_asm); (case k3 => k_asm); (case k4 => k_is); (case k5 => k_is); (case k6 => k_is); k_whole); intro x' d' h' F' N' l1 l2; (try k_lt l1); (try k_lt2 l2); (try k_sweep); k_dflt ((refine' code_def ?k1 ?k2 ?k3 ?k4 ?k5 ?kA ?kF ?kK ?k6 ?k7 ?k8 ?k9 ?kB ?_ ?c2 ?c3 ?c4 ?c5; (case kA => exact rfl); (case kF => exact rfl); (case kK => first | exact rfl | assumption); (case k1 => k_asm); (case k2 => k_asm); (case k3 => k_asm); (case k4 => k_asm); (case k5 => k_asm); (case k6 => k_is); (case k7 => k_is); (case k8 => ktr_room); (case k9 => first | exact BindsTo.of_eq rfl | exact binds_K (by k_in) rfl (by k_is) rfl rfl rfl); (case c5 => decide); (case kB => exact locs rfl); (case c2 => exact rfl); (case c3 => exact rfl); (case c4 => exact rfl); k_whole; intro g' L' h' FG' F' N' B' X' T'; (try dsimp only); (try k_fold))))
  k_steps
  exact ret _ [_, _, _] _ _ (by k_asm) (by k_asm) (Ord.cons (by walk_at "lt") (Ord.cons (allLt_mono (by assumption) (allLt_of (by assumption))) (Ord.cons (allLt_of (by assumption)) Ord.nil))) ⟨_, _, rfl, ⟨_, _, _, _, _, _, _, _, _, _, _, _, .tail _ (.head _), .tail _ (.tail _ (.head _))⟩, .head _⟩
end Mine

namespace Mine
theorem with_ct (w : World) (fz : Led) (x rt t : Addr) (ws : List Value) (n : Nat) (t3 : Tok) (hx : CodeIs w fz x rt) (ht : (t, tupN ws n) ∈ fz) :
    Ct w 75 [.ref x, .ref t, .int 4 t3] fz 4 64 (fun tl r => ∃ xa, r = .ref xa ∧ CodeIs w tl xa t) := by
  intro dp un gd cn cs ca ccd cl outer A₀ base h₀ L m news s p loose mean mg mb Q E B F X N T hk hsub hd hu ret
  obtain ⟨dx, k1, k2, k3, k4, k5, k6, k7, t1, t2, t3', nx, hx1, hx2⟩ := hx
  have hx1' := hsub _ hx1
  have hx2' := hsub _ hx2
  have ht' := hsub _ ht
  refine wpAny_call ?_
  k_dflt ktr_enter
  (try (refine gen_tk ?_; intro tk0))
  (try (rename Fr _ _ _ _ => F0; have F1 : Fr _ _ _ (fun y => List.lookup y [(Str.ofString "slots", .int 4 t3), (Str.ofString "rows", .ref t), (Str.ofString "self", .ref x)]) := F0; clear F0))
  k_steps
  refine stop_out ?_
  (k_here; (with_reducible show wpAny _ _ (call (Value.ref 78) _) _ _ _); k_dflt (refine' call_cls ?k1 ?k2 ?k3 ?k4 ?k5 ?k6 ?_; (case k1 => k_asm); (case k2 => k_asm); (case k3 => k_asm); (case k4 => k_is); (case k5 => k_is); (case k6 => k_is); k_whole); intro x' d' h' F' N' l1 l2; (try k_lt l1); (try k_lt2 l2); (try k_sweep); k_dflt ((refine' code_def ?k1 ?k2 ?k3 ?k4 ?k5 ?kA ?kF ?kK ?k6 ?k7 ?k8 ?k9 ?kB ?_ ?c2 ?c3 ?c4 ?c5; (case kA => exact rfl); (case kF => exact rfl); (case kK => first | exact rfl | assumption); (case k1 => k_asm); (case k2 => k_asm); (case k3 => k_asm); (case k4 => k_asm); (case k5 => k_asm); (case k6 => k_is); (case k7 => k_is); (case k8 => ktr_room); (case k9 => first | exact BindsTo.of_eq rfl | exact binds_K (by k_in) rfl (by k_is) rfl rfl rfl); (case c5 => decide); (case kB => exact locs rfl); (case c2 => exact rfl); (case c3 => exact rfl); (case c4 => exact rfl); k_whole; intro g' L' h' FG' F' N' B' X' T'; (try dsimp only); (try k_fold))))
  k_steps
  exact ret _ [_, _] _ _ (by k_asm) (by k_asm) (Ord.cons (allLt_mono (by assumption) (allLt_of (by assumption))) (Ord.cons (allLt_of (by assumption)) Ord.nil)) ⟨_, rfl, ⟨_, _, _, _, _, _, _, _, _, _, _, _, .head _, .tail _ (.head _)⟩⟩
end Mine

namespace Mine
section
variable {w : World} {f : Addr} {args : List Value} {fz : Led} {dn un : Nat} {c : TB} {Post : TB → Led → Value → Prop}
  {dp u : Nat} {gd : Option (List Code)} {cn : Str} {cs : Scope} {ca : Addr} {ccd : Value} {cl : List (Str × Addr)} {outer : List Env} {A₀ : Around} {base h₀ : Heap} {L : Addr} {m : Str → Option Value} {news : Led} {s : Shared}
  {p : Program} {loose : List Str} {mean : ExcName → Option Value} {mg mb : Str → Option Value} {Q E : Value → Shared → Prop}
theorem ctM_use (C : CtM w f args fz dn un c Post) (B : Below A₀ base outer h₀) (F : Fr h₀ L s.heap m) (X : (Mine.hp.hd.heap_39 w.params).In h₀) (N : News h₀ L s.heap (tabs c ++ news)) (T : Top p loose mean mg mb h₀) (hk : cs.kind = .function) (hs : ∀ q ∈ fz, q ∈ news)
    (o1 : Off 123 news) (o2 : Off 158 news) (c1 : CodeHd base 127 123) (c2 : CodeHd base 162 158) (hd : dp + dn < recursionLimit) (hu : u + un < cLine)
    (ret : ∀ r c' tl h' tk', Fr h₀ L h' m → News h₀ L h' (tabs c' ++ (tl ++ news)) → Ord (tabs c ++ news) tl → Post c' tl r → Q r { s with heap := h', toks := tk' }) :
    wpAny (model PySem.Challenge.rw_xm0679_01.prog w) (ktrTop dp u gd cn cs L ca ccd cl outer) (call (.ref f) args) Q E s :=
  C _ _ _ _ _ _ _ _ _ _ _ _ _ _ _ _ _ _ _ _ _ _ _ B F X N T hk hs o1 o2 c1 c2 hd hu ret
theorem swap2 {h : Heap} {x : Addr × Obj} {t r : Led} (N : News h₀ L h (x :: (t ++ r))) : News h₀ L h (t ++ (x :: r)) := news_sub N fun q hq => by
  exact sub_at hq (by walk_at "sub")
theorem swapT {h : Heap} {t1 t r : Led} (N : News h₀ L h (t1 ++ (t ++ r))) : News h₀ L h (t ++ (t1 ++ r)) := news_sub N fun q hq => by
  exact sub_at hq (by walk_at "sub")
theorem sub_app {a n n' : Led} (h : ∀ q ∈ n, q ∈ n') : ∀ q ∈ a ++ n, q ∈ a ++ n' := fun q hq => by
  rcases List.mem_append.mp hq with hq | hq
  · exact List.mem_append_left _ hq
  · exact List.mem_append_right _ (h q hq)
theorem ordT {c c' : TB} {news n tl : Led} (x : Ord (tabs c ++ n) tl) (h : ∀ q ∈ news, q ∈ n) : Ord (tabs c' ++ news) tl := x.subA fun q hq => by
  simp only [tabs, List.cons_append, List.nil_append, List.mem_cons] at hq
  rcases hq with h1 | h1 | h1
  · exact ⟨_, .head _, by rw [h1]⟩
  · exact ⟨_, .tail _ (.head _), by rw [h1]⟩
  · exact ⟨q, .tail _ (.tail _ (h q h1)), rfl⟩
theorem Good.goal_lt {rs : List Row} (h : Good rs) : ∀ r ∈ rs, ∀ g ∈ goals r, g < rs.length := fun _ hr _ hg => goals_lt h.closed hr hg
end
end Mine
-- MACROS
local macro_rules | `(tactic| walk_at "call builtin:len") => `(tactic| (k_here; (with_reducible show wpAny _ _ (call (Value.builtin "len") [Value.ref _]) _ _ _); k_dflt (first | (refine' len_seq ?F ⟨_, .inl ?m⟩ (fun q hq => hq) ?z ?_; (case F => k_asm); (case m => k_mem); (case z => first | assumption | omega)) | (refine' len_seq ?F ⟨_, .inr ?m⟩ (fun q hq => hq) ?z ?_; (case F => k_asm); (case m => k_mem); (case z => first | assumption | omega))); intro t' tk'))
local macro_rules | `(tactic| walk_at "compareOp Eq ref ref") => `(tactic| (k_here; (with_reducible show wpAny _ _ (compareOp CmpOp.Eq (Value.ref _) (Value.ref _)) _ _ _); refine stop_in ?_))
-- END
namespace Mine
set_option maxHeartbeats 4000000 in
theorem pruned_ct (w : World) (fz : Led) (x rt : Addr) (vs : List Value) (n : Nat) (rs : List Row) (hx : CodeIs w fz x rt) (hrt : (rt, tupN vs n) ∈ fz) (hrs : RowsIn fz vs rs) (hlen : rs.length ≤ 99) (hg : Good rs) (c : TB) (hc : TOk fz c) :
    CtM w 170 [.ref x] fz 12 300 c (fun c' tl r => ∃ xa ra vs' n' q i, r = .ref xa ∧ CodeIs w (tl ++ fz) xa ra ∧ (ra, tupN vs' n') ∈ tl ∧ RowsIn (tl ++ fz) vs' q ∧ TOk (tl ++ fz) c' ∧ Pr rs q i ∧ Fixed q) := by
  intro dp un gd cn cs ca ccd cl outer A₀ base h₀ L m news s p loose mean mg mb Q E B F X N T hk hsub ho1 ho2 hC1 hC2 hd hu ret
  have hlv : vs.length ≤ 99 := by rw [hrs.length]; exact hlen
  have hx' := hx
  obtain ⟨dx, k1, k2, k3, k4, k5, k6, k7, t1, t2, t3, nx, hx1, hx2⟩ := hx
  refine wpAny_call ?_
  k_dflt ktr_enter
  (try (refine gen_tk ?_; intro tk0))
  (try (rename Fr _ _ _ _ => F0; have F1 : Fr _ _ _ (fun y => List.lookup y [(Str.ofString "code", .ref x)]) := F0; clear F0))
  k_steps
  rename IsRange _ _ _ _ _ _ _ _ => hR
  rename News _ _ _ ((_, W.listOf _ _) :: (tabs c ++ news)) => N0
  rename_i D c0 h1 l1 h2 Fa Na ta tka h3 tk4 t1' u1 v1 F0 hK0
  have hDc : AllLt D (tabs c ++ news) := allLt_of l1
  refine turns_range (σ := TB × Addr) (n := 2 * rs.length + 2) (fm := (D, listOf vs.toArray c0) :: news) (fun c => tabs c.1) [123, 158] (fun c => [(Str.ofString "rows", .ref c.2)]) [Str.ofString "turn", Str.ofString "led", Str.ofString "later"]
    (fun i c tl => ∃ cur vs' n', (c.2, listOf vs'.toArray n') ∈ tl ++ (D, listOf vs.toArray c0) :: fz ∧ RowsIn (tl ++ (D, listOf vs.toArray c0) :: fz) vs' cur ∧ TOk (tl ++ (D, listOf vs.toArray c0) :: fz) c.1 ∧ Pr rs cur i) (c, D) rfl ⟨_, _, rfl⟩ hR (by rw [hrs.length]; omega) (by omega) (fun _ => rfl) (by k_asm) (swap2 N0) ?o1 ?ps0 ⟨rs, vs, c0, by simp, hrs.mono fun q hq => sub_at hq (by walk_at "sub"), hc.mono fun q hq => sub_at hq (by walk_at "sub"), Pr.start hg⟩ ?turn ?done
  case o1 =>
    intro d hd'
    simp only [List.mem_cons, List.not_mem_nil, or_false] at hd'
    have l5 : @LT.lt Nat _ 123 D ∧ @LT.lt Nat _ 158 D := ⟨l1 _ (.head _), l1 _ (.tail _ (.head _))⟩
    rcases hd' with rfl | rfl
    · exact List.forall_mem_cons.mpr ⟨by k_ne, ho1⟩
    · exact List.forall_mem_cons.mpr ⟨by k_ne, ho2⟩
  case ps0 =>
    intro p hp
    rw [List.mem_singleton.mp hp]
    rfl
  case done =>
    rintro c1 tl u h tk ⟨cur, vs', n', _, _, _, hpr⟩ _ _ _
    exact hpr.ends.elim
  case turn =>
    rintro i t1 ⟨ct, lr⟩ tl lg u h tk hi ⟨cur, ws, nw, hlr, hcur, htk, hpr⟩ hord hlg hoff F1 N1
    dsimp only at hlr hcur htk F1 N1 ⊢
    have hlg1 : ∀ q ∈ tl ++ (D, listOf vs.toArray c0) :: fz, q ∈ lg := fun q hq => hlg q (by
      exact sub_at hq (by walk_at "sub"))
    have q1 := hoff 123 (.head _)
    have q2 := hoff 158 (.tail _ (.head _))
    have hcl : cur.length ≤ 99 := Nat.le_trans hpr.len hlen
    have hgo := hpr.good
    have hlr' := hlg1 _ hlr
    have hcur' := hcur.mono hlg1
    have htk' := htk.mono hlg1
    clear F N F0 N0 Na Fa
    k_steps
    refine stop_out ?_
    rename_i g9 L9 h9 FG9 B9 X9 T9 tk1 ha Fa Na
    refine' ctM_use (led_ct w (tl ++ (D, listOf vs.toArray c0) :: fz) lr ws nw cur hlr hcur hcl hgo.goal_lt ct htk) ?k0 ?k1 ?k2 Na ?k4 ?k5 hlg1 q1 q2 hC1 hC2 ?k8 ?k9 ?_
    ((case k0 => assumption); (case k1 => k_asm); (case k2 => k_asm); (case k4 => k_asm); (case k5 => first | exact rfl | assumption); (case k8 => ktr_room); (case k9 => ktr_units))
    rintro r1 ct1 e1 hb tkb Fb Nb ob ⟨lf, vs1, n1, rfl, hm1, hr1, ht1⟩
    have q11 : Off 123 (e1 ++ lg) := Off.append (Ord.off ob (.head _)) q1
    have q21 : Off 158 (e1 ++ lg) := Off.append (Ord.off ob (.tail _ (.head _))) q2
    have hl1 : (led cur).length ≤ 99 := by rw [led_len]; exact hcl
    clear Na Fa
    k_steps
    refine stop_out ?_
    rename_i hc Fc Nc
    refine' ct_use0 (kept_ct w (e1 ++ (tl ++ (D, listOf vs.toArray c0) :: fz)) lf vs1 n1 (led cur) (List.mem_append_left _ hm1) hr1 hl1 hgo.led.closed) ?k0 ?k1 ?k2 Nc ?k4 ?k5 (fun q hq => List.mem_append_right _ (sub_app hlg1 q hq)) ?k8 ?k9 ?_
    ((case k0 => assumption); (case k1 => k_asm); (case k2 => k_asm); (case k4 => k_asm); (case k5 => first | exact rfl | assumption); (case k8 => ktr_room); (case k9 => ktr_units))
    rintro r2 e2 hd' tkd Fd Nd od ⟨lk, bs, n2, rfl, hm2, hb1, hb2⟩
    have hB : RB (led cur) bs := ⟨hb1, hb2⟩
    have Nd' := swapT Nd
    have q12 : Off 123 (e2 ++ (e1 ++ lg)) := Off.append (Ord.off od (.head _)) q11
    have q22 : Off 158 (e2 ++ (e1 ++ lg)) := Off.append (Ord.off od (.tail _ (.head _))) q21
    clear Nc Fc Nd
    k_steps
    refine stop_out ?_
    refine' ctM_use (cut_ct w (e2 ++ (e1 ++ (tl ++ (D, listOf vs.toArray c0) :: fz))) lf lk vs1 n1 n2 (led cur) (keepL (led cur) bs) (List.mem_append_right _ (List.mem_append_left _ hm1)) (List.mem_append_left _ hm2) (hr1.mono fun q hq => List.mem_append_right _ hq) hl1 (keep_len hB) hgo.led.goal_lt ct1 (ht1.mono fun q hq => List.mem_append_right _ hq)) ?k0 ?k1 ?k2 Nd' ?k4 ?k5 (sub_app (sub_app hlg1)) q12 q22 hC1 hC2 ?k8 ?k9 ?_
    ((case k0 => assumption); (case k1 => k_asm); (case k2 => k_asm); (case k4 => k_asm); (case k5 => first | exact rfl | assumption); (case k8 => ktr_room); (case k9 => ktr_units))
    rintro r3 ct3 e3 he tke Fe Ne oe ⟨lc, vs3, n3, rfl, hm3, hr3, ht3⟩
    clear Nd' Fd
    k_steps
    refine stop_out ?_
    rename_i hf Ff Nf
    refine eq_rows_list Nf (List.mem_append_right _ (List.mem_append_left _ hm3)) (List.mem_append_right _ (List.mem_append_right _ (List.mem_append_right _ (List.mem_append_right _ hlr')))) (hr3.mono fun q hq => List.mem_append_right _ (sub_app (sub_app (sub_app hlg1)) q hq)) (hcur'.mono fun q hq => List.mem_append_right _ (List.mem_append_right _ (List.mem_append_right _ (List.mem_append_right _ hq)))) (by ktr_units) ?_
    by_cases e : cut (led cur) (keepL (led cur) bs) = cur
    · rw [decide_eq_true e]
      have hFx : Fixed cur := ⟨bs, hB, e⟩
      have hx1' := hlg1 _ (List.mem_append_right _ (.tail _ hx1))
      have hx2' := hlg1 _ (List.mem_append_right _ (.tail _ hx2))
      have hwl : ws.length ≤ 99 := by rw [hcur'.length]; exact hcl
      k_steps
      rename News _ _ _ ((_, tupN _ _) :: _) => N9
      rename Fr _ _ _ _ => F9
      rename_i D2 h2x l2x
      refine' ct_use0 (with_ct w ((D2, tupN ws 0) :: (tabs ct3 ++ (e3 ++ (e2 ++ (e1 ++ lg))))) x rt D2 ws 0 t3 (hx'.mono fun q hq => .tail _ (List.mem_append_right _ (List.mem_append_right _ (List.mem_append_right _ (List.mem_append_right _ (hlg1 _ (List.mem_append_right _ (.tail _ hq)))))))) (.head _)) ?k0 ?k1 ?k2 N9 ?k4 ?k5 (fun q hq => hq) ?k8 ?k9 ?_
      ((case k0 => assumption); (case k1 => k_asm); (case k2 => k_asm); (case k4 => k_asm); (case k5 => first | exact rfl | assumption); (case k8 => ktr_room); (case k9 => ktr_units))
      rintro r4 e4 hg4 tkg Fg Ng og ⟨xa, rfl, hcx⟩
      k_steps
      refine ret _ ct3 (e4 ++ ((D2, tupN ws 0) :: (e3 ++ (e2 ++ (e1 ++ (tl ++ [(D, listOf vs.toArray c0)])))))) _ _ (by k_asm) (news_sub (by assumption) ?_) ?_ ⟨xa, D2, ws, 0, cur, i, rfl, hcx.mono ?_, ?_, hcur.mono ?_, ht3.mono ?_, hpr, hFx⟩
      · intro q hq
        have hlT : ∀ q ∈ tl, q ∈ lg := fun q hq => hlg q (by simp [hq])
        have hlN : ∀ q ∈ news, q ∈ lg := fun q hq => hlg q (by simp [hq])
        have hlD : (D, listOf vs.toArray c0) ∈ lg := hlg _ (by simp)
        exact sub_at hq (by walk_at "sub")
      · have hnl : ∀ q ∈ news, q ∈ lg := fun q hq => hlg q (by simp [hq])
        exact Ord.append (ordT (og.sub fun q hq => .tail _ hq) fun q hq => by simp [hnl q hq]) (Ord.append (b := e3 ++ (e2 ++ (e1 ++ (tl ++ [(D, listOf vs.toArray c0)])))) (ordT (ord_one l2x fun q hq => hq) fun q hq => by simp [hnl q hq]) (Ord.append (ordT oe fun q hq => by simp [hnl q hq]) (Ord.append (ordT od fun q hq => by simp [hnl q hq]) (Ord.append (ordT ob hnl) (Ord.append (ordT hord fun q hq => .tail _ hq) (ord_one l1 fun q hq => hq))))))
      · intro q hq
        simp [hq]
      · simp
      · intro q hq
        exact sub_at hq (by walk_at "sub")
      · intro q hq
        exact sub_at hq (by walk_at "sub")
    · rw [decide_eq_false e]
      k_steps
      refine tend_next (ct3, lc) (e3 ++ (e2 ++ e1)) (by k_asm) (news_sub (by assumption) ?_) ?_ (by ((repeat refine List.forall_mem_cons.mpr ⟨rfl, ?_⟩); exact List.forall_mem_nil _)) (by (intro z hz1 hz2; repeat (first | exact fmap_off hz1 hz2 | exact rfl | exact if_neg (fun e => Bool.false_ne_true (hz2.symm.trans e)) | refine (if_neg (ne_stored hz2 (by decide +kernel))).trans ?_ | refine (if_neg (hz1 _ (.head _))).trans ?_ | refine (if_neg (hz1 _ (.tail _ (.head _)))).trans ?_ | refine (if_neg (hz1 _ (.tail _ (.tail _ (.head _))))).trans ?_ | refine (fmap_off (ps := []) (List.forall_mem_nil _) (sub_contains hz2 (by decide +kernel))).trans ?_))) ⟨_, vs3, n3, ?_, hr3.mono ?_, ht3.mono ?_, hpr.next hB e⟩
      · intro q hq
        exact sub_at hq (by walk_at "sub")
      · exact Ord.append (ordT oe fun q hq => sub_at hq (by walk_at "sub")) (Ord.append (ordT od fun q hq => sub_at hq (by walk_at "sub")) ob)
      · simp [hm3]
      · intro q hq
        exact sub_at hq (by walk_at "sub")
      · intro q hq
        exact sub_at hq (by walk_at "sub")
end Mine

namespace Mine
theorem nodup_len : ∀ (n : Nat) (l : List Nat), l.Nodup → (∀ x ∈ l, x < n) → l.length ≤ n
  | 0, [], _, _ => Nat.le_refl _
  | 0, x :: _, _, h => absurd (h x (.head _)) (Nat.not_lt_zero _)
  | n + 1, l, hn, h => by
    by_cases hm : n ∈ l
    · have h1 := nodup_len n (l.erase n) (hn.erase n) fun x hx => by
        have := (List.Nodup.mem_erase_iff hn).mp hx
        have := h x this.2
        omega
      rw [List.length_erase_of_mem hm] at h1
      omega
    · have := nodup_len n l hn fun x hx => by
        have h2 := h x hx
        have : x ≠ n := fun e => hm (e ▸ hx)
        omega
      omega
theorem lay_intsA (ns : List Nat) : PyData.canLayAll0 (ns.map fun (n : Nat) => PyData.int (n : Int)) = true ∧ PyData.depthAll (ns.map fun (n : Nat) => PyData.int (n : Int)) = 0 := by
  induction ns with
  | nil => simp [PyData.canLayAll0, PyData.depthAll]
  | cons n ns ih => simp [PyData.canLayAll0, PyData.depthAll, PyData.canLay0, PyData.depth, ih]
theorem ints_any (ns : List Nat) (a : Nat) : ((ns.map fun (n : Nat) => PyData.int (n : Int)).any fun y => PyData.eqv y (.int (a : Int))) = decide (a ∈ ns) := by
  induction ns with
  | nil => simp
  | cons n ns ih =>
    simp only [List.map_cons, List.any_cons, ih, eqv_int_nat, List.mem_cons, Bool.decide_or]
    congr 1
    exact decide_eq_decide.mpr ⟨fun e => e.symm, fun e => e.symm⟩
section
variable {prog : Program} {w : World} {A : Around} {E : Value → Shared → Prop} {s : Shared} {h₀ : Heap} {L : Addr} {news : Led} {Q : Value → Shared → Prop}
theorem int_notin {l : Addr} {vs : List Value} {n a : Nat} {t : Tok} {ns : List Nat} (N : News h₀ L s.heap news) (hl : (l, listOf vs.toArray n) ∈ news) (hi : IntsV vs ns) (hu : A.units + 64 < cLine) (h : Q (.bool (!decide (a ∈ ns))) s) :
    wpAny (model prog w) A (compareOp .NotIn (.int (a : Int) t) (.ref l)) Q E s := by
  have l1 := lay_intsA ns
  refine SeqAt.notIn_list_reads (d := .int (a : Int)) (Reads.list (N _ hl).1 rfl rfl (readsAll_ints hi)) (.int _ _) l1.1 (by simp [PyData.canLay0]) ?_ (by rw [ints_any]; exact h)
  have := Nat.min_le_left (PyData.depthAll (ns.map fun (n : Nat) => PyData.int (n : Int))) (PyData.depth (.int (a : Int)))
  have := l1.2
  omega
theorem int_notin_T {l : Addr} {vs : List Value} {n a : Nat} {t : Tok} {ns : List Nat} (N : News h₀ L s.heap news) (hl : (l, listOf vs.toArray n) ∈ news) (hi : IntsV vs ns) (hn : a ∉ ns) (hu : A.units + 64 < cLine) (h : Q (.bool true) s) :
    wpAny (model prog w) A (compareOp .NotIn (.int (a : Int) t) (.ref l)) Q E s := int_notin N hl hi hu (by simpa [hn] using h)
theorem int_notin_F {l : Addr} {vs : List Value} {n a : Nat} {t : Tok} {ns : List Nat} (N : News h₀ L s.heap news) (hl : (l, listOf vs.toArray n) ∈ news) (hi : IntsV vs ns) (hn : a ∈ ns) (hu : A.units + 64 < cLine) (h : Q (.bool false) s) :
    wpAny (model prog w) A (compareOp .NotIn (.int (a : Int) t) (.ref l)) Q E s := int_notin N hl hi hu (by simpa [hn] using h)
end
end Mine
-- MACROS
local macro_rules | `(tactic| walk_at "compareOp NotIn int ref") => `(tactic| (k_here; k_dflt (first | (refine' int_notin_T ?N ?m ?d ?r ?u ?_; (case N => k_asm); (case d | r => with_reducible assumption); (case m => k_mem); (case u => ktr_units)) | (refine' int_notin_F ?N ?m ?d ?r ?u ?_; (case N => k_asm); (case d | r => with_reducible assumption); (case m => k_mem); (case u => ktr_units)))))
-- END
namespace Mine
theorem jump_none_row {rs : List Row} {g : Nat} {r : Row} (h : jump rs g = none) (hr : rs[g]? = some r) : isGoto r = false := by
  cases r with
  | goto t => rw [jump_some.mpr hr] at h; simp at h
  | _ => rfl
theorem goto_head (r : Row) : (headS r == Str.ofString "goto") = isGoto r := by cases r <;> (simp only [headS, isGoto]; decide +kernel)
theorem goes_ct (w : World) (fz : Led) (l : Addr) (vs : List Value) (rs : List Row) (hl : SeqIn fz l vs) (hrs : RowsIn fz vs rs) (hlen : rs.length ≤ 99) (g : Nat) (hg : g < rs.length) (t : Tok) (hcl : ∀ a t : Nat, rs[a]? = some (Row.goto t) → t < rs.length)
    (hP : jump rs g = none ∨ ∃ P : Nat → Prop, P g ∧ ∀ a, P a → ∃ t, rs[a]? = some (.goto t) ∧ P t) :
    Ct w 212 [.ref l, .int (g : Int) t] fz 2 120 (fun tl x => x = .bool true) := by
  intro dp un gd cn cs ca ccd cl outer A₀ base h₀ L m news s p loose mean mg mb Q E B F X N T hk hsub hd hu ret
  have hlv : vs.length ≤ 99 := by rw [hrs.length]; exact hlen
  refine wpAny_call ?_
  k_dflt ktr_enter
  (try (refine gen_tk ?_; intro tk0))
  (try (rename Fr _ _ _ _ => F0; have F1 : Fr _ _ _ (fun y => List.lookup y [(Str.ofString "at", .int (g : Int) t), (Str.ofString "rows", .ref l)]) := F0; clear F0))
  k_steps
  refine stop_out ?_
  rename_i Ds h1 ll h2 F9 N9
  rcases hP with h0 | ⟨P, hPg, hP⟩
  · refine' while_inv (σ := Unit) (fun _ => [(Ds, listOf #[] 0)]) [Ds] (fun _ => []) [] (fun c tl => tl = []) (fun c => 0) () (fun _ => rfl) (by k_asm) N9 ?o1 (fun _ h => nomatch h) rfl ?turn
    case o1 =>
      intro d hd'
      rw [List.mem_singleton.mp hd']
      exact off_lt (allLt_of ll)
    case turn =>
      rintro c tl lg u h tk rfl hord hlg hoff F1 N1 hback
      (try dsimp only at F1 N1)
      (try dsimp only [List.cons_append, List.nil_append] at N1)
      have hsub1 : ∀ q ∈ fz, q ∈ lg := fun q hq => hlg q (by simp [hsub q hq])
      obtain ⟨r, hr⟩ : ∃ r, rs[g]? = some r := ⟨rs[g], by simp [hg]⟩
      obtain ⟨v, hv, hrv⟩ := hrs.get hr
      have hng := jump_none_row h0 hr
      clear F9 N9 F N
      obtain ⟨av, tv, wv, nv, rfl, hm, hwv⟩ := row_head hrv
      have hS : (headS r == Str.ofString "goto") = false := by rw [goto_head]; exact hng
      k_steps
      k_dflt (refine seq_item (fz := fz) (i := 0) (vs := .str (headS r) tv :: wv) (by k_asm) ⟨nv, .inr hm⟩ (fun q hq => by k_mem) rfl (Nat.le_trans (Nat.succ_le_succ hwv) (by decide)) ?_ (by with_unfolding_all rfl))
      k_steps
      all_goals (first | (exfalso; rename ((headS r == _) = true) => hz; rw [hS] at hz; cases hz) | skip)
      k_dflt (refine seq_item (fz := fz) (i := 0) (vs := .str (headS r) tv :: wv) (by k_asm) ⟨nv, .inr hm⟩ (fun q hq => by k_mem) rfl (Nat.le_trans (Nat.succ_le_succ hwv) (by decide)) ?_ (by with_unfolding_all rfl))
      k_steps
      all_goals (first | (exfalso; rename ((headS r == _) = true) => hz; rw [hS] at hz; cases hz) | skip)
      refine stop_out ?_
      rename_i l8 hf Ff Nf l2
      refine eq_rows_list Nf (.tail _ (.head _)) (.head _) .nil .nil (by ktr_units) ?_
      rw [decide_eq_true rfl]
      k_steps
      exact ret _ [] _ _ (by k_asm) (news_sub (by assumption) fun q hq => .tail _ (.tail _ (hlg q (by simpa using hq)))) Ord.nil rfl
  · refine' while_inv (σ := Nat × Tok × List Value × Nat × List Nat) (fun c => [(Ds, listOf c.2.2.1.toArray c.2.2.2.1)]) [Ds] (fun c => [(Str.ofString "at", .int (c.1 : Int) c.2.1)]) [] (fun c tl => tl = [] ∧ P c.1 ∧ c.1 < rs.length ∧ IntsV c.2.2.1 c.2.2.2.2 ∧ c.2.2.2.2.Nodup ∧ ∀ x ∈ c.2.2.2.2, x < rs.length)
      (fun c => rs.length - c.2.2.2.2.length) (g, t, [], 0, []) (fun _ => rfl) (by k_asm) N9 ?o1 ?ps ⟨rfl, hPg, hg, .nil, List.nodup_nil, fun _ h => nomatch h⟩ ?turn
    case o1 =>
      intro d hd'
      rw [List.mem_singleton.mp hd']
      exact off_lt (allLt_of ll)
    case ps =>
      intro p hp
      rw [List.mem_singleton.mp hp]
      rfl
    case turn =>
      rintro ⟨a, ta, ws, nw, ns⟩ tl lg u h tk ⟨rfl, hPa, ha, hiv, hnd, hlt⟩ hord hlg hoff F1 N1 hback
      (try dsimp only at hPa ha hiv hnd hlt F1 N1)
      (try dsimp only [List.cons_append, List.nil_append] at N1)
      have q1 := hoff Ds (.head _)
      have hsub1 : ∀ q ∈ fz, q ∈ lg := fun q hq => hlg q (by simp [hsub q hq])
      obtain ⟨t1, hr, hPt⟩ := hP a hPa
      have ht1 := hcl a t1 hr
      obtain ⟨v, hv, hrv⟩ := hrs.get hr
      have hnl := nodup_len _ _ hnd hlt
      have hwl : ws.length ≤ 99 := by rw [hiv.length]; omega
      clear F9 N9 F N
      cases hrv
      by_cases hin : a ∈ ns
      · k_steps
        exact ret _ [] _ _ (by k_asm) (news_sub (by assumption) fun q hq => .tail _ (hlg q (by simpa using hq))) Ord.nil rfl
      · have hnd2 : (ns ++ [a]).Nodup := by
          rw [List.nodup_append]
          exact ⟨hnd, by simp, fun x hx y hy => by
            rw [List.mem_singleton.mp hy]; exact fun e => hin (e ▸ hx)⟩
        have hlt2 : ∀ x ∈ ns ++ [a], x < rs.length := fun x hx => by
          rcases List.mem_append.mp hx with hx | hx
          · exact hlt x hx
          · rw [List.mem_singleton.mp hx]; exact ha
        have hnl2 := nodup_len _ _ hnd2 hlt2
        rw [List.length_append, List.length_singleton] at hnl2
        k_steps
        exact tend_next (t1, _, ws ++ [.int (a : Int) ta], nw + 1, ns ++ [a]) [] (by k_asm) (by k_asm) Ord.nil (by ((repeat refine List.forall_mem_cons.mpr ⟨rfl, ?_⟩); exact List.forall_mem_nil _)) (by (intro z hz1 hz2; repeat (first | exact fmap_off hz1 hz2 | exact rfl | exact if_neg (fun e => Bool.false_ne_true (hz2.symm.trans e)) | refine (if_neg (ne_stored hz2 (by decide +kernel))).trans ?_ | refine (if_neg (hz1 _ (.head _))).trans ?_ | refine (if_neg (hz1 _ (.tail _ (.head _)))).trans ?_ | refine (if_neg (hz1 _ (.tail _ (.tail _ (.head _))))).trans ?_ | refine (fmap_off (ps := []) (List.forall_mem_nil _) (sub_contains hz2 (by decide +kernel))).trans ?_))) ⟨⟨rfl, hPt, ht1, hiv.append (.cons .nil), hnd2, hlt2⟩, by simp; omega⟩
end Mine


namespace Mine
section
variable {prog : Program} {w : World} {A : Around} {E : Value → Shared → Prop} {s : Shared} {h₀ : Heap} {L : Addr} {m : Str → Option Value} {news : Led} {env : Env} {scope : Scope} {cl : List (Str × Addr)} {C : Addr}
theorem sub_row {x : Str} {px pc pos : Pos} {k j : Nat} {m₂ : Str → Option Value} {a : Addr} {ws : List Value} {n : Nat} {v : Value} {Q : Value → Shared → Prop} (N : News h₀ L s.heap news) (hn : s.heap.Ns C m₂) (hx : m₂ x = some (.ref a)) (hm : (a, tupN ws n) ∈ news)
    (hk : scope.kind = .function) (hl : scope.names.lookup x = some .local) (hd : (x == ("__debug__" : Str)) = false) (hv : ws[j]? = some v) (hw : ws.length ≤ 99) (h : ∀ tk, Q v { s with toks := tk }) :
    wpAny (model prog w) A (eval (.Subscript (.Name x px) (.Constant (.int (j : Int)) k pc) pos) (compEnvC scope cl C env)) Q E s := by
  refine Subscript_ (ldVarK (by exact hn) hx (wpAny_Constant_int ?_) (by exact hk) (lookup_relabel_local hl) hd)
  refine seq_item (fz := news) N ⟨n, .inr hm⟩ (fun q hq => hq) hv hw (h _) (by with_unfolding_all rfl)
theorem countP_take {p : Row → Bool} {rs : List Row} {i : Nat} {r : Row} (h : rs[i]? = some r) : (rs.take (i + 1)).countP p = (rs.take i).countP p + (if p r then 1 else 0) := by
  rw [take_snoc h, List.countP_append]
  simp [List.countP_cons]
theorem goto_turn {x : Str} {p1 p2 p3 p4 p5 p6 : Pos} {k k2 : Nat} {fz : Led} {ys : List Value} {rs : List Row} {s₀ : Shared} (hrs : RowsIn fz ys rs) (hs : ∀ q ∈ fz, q ∈ news)
    (hk : scope.kind = .function) (hl : scope.names.lookup x = some .local) (hd : (x == ("__debug__" : Str)) = false) :
    CompTurn prog w A h₀ L m env (.Compare (.Subscript (.Name x p1) (.Constant (.int ((0 : Nat) : Int)) k p2) p3) [.Eq] [.Constant (.str (Str.ofString "goto")) k2 p4] p5) (.Name x p6) scope cl s₀ news
      (fun i m' => ∃ y, ys[i]? = some y ∧ m' x = some y) (fun i zs => zs.length = (rs.take i).countP isGoto) ys.length := by
  rintro i zs C oC m₂ h tk E' hi ⟨y, hy, e1⟩ hG hC F N
  have hn : h.Ns C m₂ := hC.ns (N _ (.head _)).1
  obtain ⟨r, hr⟩ : ∃ r, rs[i]? = some r := ⟨rs[i]'(by rw [← hrs.length]; exact hi), List.getElem?_eq_getElem _⟩
  obtain ⟨v', hv', hrv⟩ := hrs.get hr
  obtain rfl : v' = y := by rw [hy] at hv'; cases hv'; rfl
  obtain ⟨a, t, ws, n, rfl, hm, hw⟩ := row_head hrv
  refine wpAny_isTrue_Compare1 (sub_row (j := 0) (fun q hq => N q (.tail _ hq)) hn e1 (hs _ hm) hk hl hd rfl (by simp; omega) fun tk2 => wpAny_Constant_str (eq_str (wpAny_truthy_bool ⟨h, _, rfl, Kp.refl _, fun hb => ?_, fun hb => ?_⟩)))
  · rw [goto_head] at hb
    show _ = _
    rw [countP_take hr, hb]
    simpa using hG
  · rw [goto_head] at hb
    refine ldVarK (by exact hn) e1 ⟨h, _, rfl, Kp.refl _, ?_⟩ (by exact hk) (lookup_relabel_local hl) hd
    show _ = _
    rw [countP_take hr, hb]
    simp [hG]
theorem read_head (r : Row) : ([Str.ofString "move", Str.ofString "unless", Str.ofString "return"].any (· == headS r)) = !(uses r).isEmpty := by cases r <;> (simp only [headS, uses, List.isEmpty]; decide +kernel)
theorem row_use {N : Led} {v : Value} {r : Row} (h : RowIn N v r) : ∃ a t ws n, v = .ref a ∧ (a, tupN (.str (headS r) t :: ws) n) ∈ N ∧ ws.length ≤ 2 ∧
    (uses r = [] ∨ ∃ (x : Nat) (u : Tok), uses r = [x] ∧ (((headS r == Str.ofString "move") = true ∧ ws[1]? = some (.int (x : Int) u)) ∨ ((headS r == Str.ofString "move") = false ∧ ws[0]? = some (.int (x : Int) u)))) := by
  cases h with
  | goto h => exact ⟨_, _, _, _, rfl, h, by simp, .inl rfl⟩
  | jif h => exact ⟨_, _, _, _, rfl, h, by simp, .inr ⟨_, _, rfl, .inr ⟨by simp only [headS]; decide +kernel, rfl⟩⟩⟩
  | const h _ => exact ⟨_, _, _, _, rfl, h, by simp, .inl rfl⟩
  | move h => exact ⟨_, _, _, _, rfl, h, by simp, .inr ⟨_, _, rfl, .inl ⟨by simp only [headS]; decide +kernel, rfl⟩⟩⟩
  | ret h => exact ⟨_, _, _, _, rfl, h, by simp, .inr ⟨_, _, rfl, .inr ⟨by simp only [headS]; decide +kernel, rfl⟩⟩⟩
theorem read_turn {x : Str} {p1 p2 p3 p4 p5 p6 p7 p8 q1 q2 q3 q4 q5 q6 q7 q8 q9 q10 q11 q12 : Pos} {k k2 k3 k4 k5 k6 k7 k8 : Nat} {fz : Led} {ys : List Value} {rs : List Row} {s₀ : Shared} (hrs : RowsIn fz ys rs) (hs : ∀ q ∈ fz, q ∈ news)
    (hk : scope.kind = .function) (hl : scope.names.lookup x = some .local) (hd : (x == ("__debug__" : Str)) = false) :
    CompTurn prog w A h₀ L m env (.Compare (.Subscript (.Name x p1) (.Constant (.int ((0 : Nat) : Int)) k p2) p3) [.In] [.List [.Constant (.str (Str.ofString "move")) k2 p4, .Constant (.str (Str.ofString "unless")) k3 p5, .Constant (.str (Str.ofString "return")) k4 p6] p7] p8)
      (.IfExp (.Compare (.Subscript (.Name x q1) (.Constant (.int ((0 : Nat) : Int)) k5 q2) q3) [.Eq] [.Constant (.str (Str.ofString "move")) k6 q4] q5) (.Subscript (.Name x q6) (.Constant (.int ((2 : Nat) : Int)) k7 q7) q8) (.Subscript (.Name x q9) (.Constant (.int ((1 : Nat) : Int)) k8 q10) q11) q12) scope cl s₀ news
      (fun i m' => ∃ y, ys[i]? = some y ∧ m' x = some y) (fun i zs => IntsV zs ((rs.take i).flatMap uses)) ys.length := by
  rintro i zs C oC m₂ h tk E' hi ⟨y, hy, e1⟩ hG hC F N
  have hn : h.Ns C m₂ := hC.ns (N _ (.head _)).1
  have N' : News h₀ L h news := fun q hq => N q (.tail _ hq)
  obtain ⟨r, hr⟩ : ∃ r, rs[i]? = some r := ⟨rs[i]'(by rw [← hrs.length]; exact hi), List.getElem?_eq_getElem _⟩
  obtain ⟨v', hv', hrv⟩ := hrs.get hr
  obtain rfl : v' = y := by rw [hy] at hv'; cases hv'; rfl
  have htk : (rs.take (i + 1)).flatMap uses = (rs.take i).flatMap uses ++ uses r := by rw [take_snoc hr]; simp
  obtain ⟨a, t, ws, n, rfl, hm, hw, hu⟩ := row_use hrv
  refine wpAny_isTrue_Compare1 (sub_row (j := 0) N' hn e1 (hs _ hm) hk hl hd rfl (by simp; omega) fun tk2 => ?_)
  refine wpAny_List ?_
  walk_at "spliced"
  refine wpAny_Constant_str ?_
  walk_at "spliced"
  refine wpAny_Constant_str ?_
  walk_at "spliced"
  refine wpAny_Constant_str ?_
  walk_at "spliced"
  refine ⟨by rw [sizeLine_eq]; simp, in_list_strs (ys := [Str.ofString "move", Str.ofString "unless", Str.ofString "return"]) ⟨_, Heap.get?_push_size _ rfl, rfl, _, rfl⟩ (.cons _ _ (.cons _ _ (.cons _ _ .nil))) ?_⟩
  rw [read_head]
  refine wpAny_truthy_bool ⟨_, _, rfl, fun b o e => Heap.get?_push_of_some _ e, fun hb => ?_, fun hb => ?_⟩
  · show IntsV _ _
    have : uses r = [] := by simpa using hb
    rw [htk, this, List.append_nil]
    exact hG
  · rcases hu with hu | ⟨z, u, hu, hc⟩
    · rw [hu] at hb; simp at hb
    · have hn2 : ∀ o : Obj, (h.push o).Ns C m₂ := fun o => hC.ns (Heap.get?_push_of_some _ (N _ (.head _)).1)
      have N2 : ∀ o : Obj, News h₀ L (h.push o) news := fun o q hq => ⟨Heap.get?_push_of_some _ (N' q hq).1, (N' q hq).2⟩
      refine IfExp_ (wpAny_isTrue_Compare1 (sub_row (j := 0) (N2 _) (hn2 _) e1 (hs _ hm) hk hl hd rfl (by simp; omega) fun tk3 => wpAny_Constant_str (eq_str (wpAny_truthy_bool ?_))))
      have fin : IntsV (zs ++ [.int (z : Int) u]) ((rs.take (i + 1)).flatMap uses) := by
        rw [htk, hu]
        exact hG.append (.cons .nil)
      rcases hc with ⟨hb2, hx⟩ | ⟨hb2, hx⟩
      · rw [hb2, if_pos rfl]
        exact sub_row (j := 2) (N2 _) (hn2 _) e1 (hs _ hm) hk hl hd (by simpa using hx) (by simp; omega) fun tk4 => ⟨_, _, rfl, Kp.refl _, fin⟩
      · rw [hb2]
        simp only [Bool.false_eq_true, if_false]
        exact sub_row (j := 1) (N2 _) (hn2 _) e1 (hs _ hm) hk hl hd (by simpa using hx) (by simp; omega) fun tk4 => ⟨_, _, rfl, Kp.refl _, fin⟩
end
section
variable {prog : Program} {w : World} {A : Around} {E : Value → Shared → Prop} {s : Shared} {h₀ : Heap} {L : Addr} {m : Str → Option Value} {env : Env}
/-- as CompFrom, for a block that is stored under a local name -/
noncomputable def CompFromA (prog : Program) (w : World) (A : Around) (h₀ : Heap) (L : Addr) (m : Str → Option Value) (env : Env) (ct elt target : Expr) (scope : Scope) (cl : List (Str × Addr)) (yv : Str) (Q : Flow → Shared → Prop) (it : Value) (s₂ : Shared) : Prop :=
  ∃ (I : Addr) (fp wr : List Addr) (n : Nat) (P Md : Nat → Value → Heap → Prop) (St : Nat → Heap → Prop) (news : List (Addr × Obj)) (B : Nat → (Str → Option Value) → Prop) (G : Nat → List Value → Prop),
    it = .ref I ∧ KTurns prog w A target I fp wr n P Md St ∧ (∀ (s : Shared) (Q : Value → Shared → Prop) (E : Value → Shared → Prop), St 0 s.heap → Q (.ref I) s → wpAny (model prog w) A (pyIter (.ref I)) Q E s) ∧
    n ≤ sizeLine ∧ St 0 s₂.heap ∧ (∀ b ∈ fp, b < s₂.heap.objs.size) ∧ Fr h₀ L s₂.heap m ∧ News h₀ L s₂.heap news ∧ L ∉ wr ∧ (∀ b ∈ wr, h₀.get? b = none) ∧ (∀ p ∈ news, p.1 ∉ wr) ∧
    CompBinds prog w A target env scope cl P B ∧ G 0 [] ∧ CompTurn prog w A h₀ L m env ct elt scope cl s₂ news B G n ∧
    ∀ D h tk ys, Fr h₀ L h (fun z => if z = yv then some (.ref D) else m z) → News h₀ L h ((D, lst ys) :: news) → (∀ p ∈ news, p.1 < D) → G n ys → Q .next { s₂ with heap := h, toks := tk }
theorem Assign_Q {ct elt iter target : Expr} {scope : Scope} {cl : List (Str × Addr)} {pos spos py : Pos} {y : Str} {Q : Flow → Shared → Prop} (F₀ : Fr h₀ L s.heap m) (hLe : env.locals = L)
    (hsw : swapsWith (.ListComp elt [⟨target, iter, [ct], 0⟩] scope pos) (some (.Name y py)) spos.line env = pure true)
    (hclos : closureFor scope env = pure cl) (hcell : ∀ y ∈ scope.names, y.2 ≠ .cell) (hkind : scope.kind = .function)
    (hnames : ∀ y ∈ scope.names, y.2 = .local → scope.names.lookup y.1 = some .local)
    (hy : env.kindOf y = some .local) (hp : (env.scope.kind == .class || (env.scope.kind == .module && env.locals != env.globals)) = false)
    (h : wpAny (model prog w) A (eval iter env) (fun xv s₁ => wpAny (model prog w) A (pyIter xv) (CompFromA prog w A h₀ L m env ct elt target scope cl y Q) E s₁) E s)
    (hs : ∀ x, foldedSetIterable iter env x = pure x := by intro _; rfl) :
    wpAny (model prog w) A (exec (.Assign [.Name y py] (.ListComp elt [⟨target, iter, [ct], 0⟩] scope pos) spos) env) Q E s := by
  subst hLe
  rw [exec_Assign_Name_used _ _ _ _ hsw]
  refine wpAny_bind (wpAny_standAt (wpAny_bind ?_))
  show wpAny _ A (do let _ ← comprehension (.ListComp elt [⟨target, iter, [ct], 0⟩] scope pos) scope env _ (newList []) false (eval iter env) (some (assign (.Name y py) env))) _ _ s
  refine wpAny_bind (wpAny_mono (wpAny_comprehension_free (use := some (assign (.Name y py) env)) (Q := fun _ s' => Q .next s') rfl hs hclos hkind hnames
    (wpAny_mono h (fun xv s₁ h₁ => wpAny_mono h₁ (fun it s₂ h₂ => ?_) fun _ _ e => e) fun _ _ e => e)) (fun _ s' hq => wpAny_pure (wpAny_pure hq)) fun _ _ e => e)
  obtain ⟨I, fp, wr, n, P, Md, St, news, B, G, rfl, W, hself, hsz, hst, hfp, F, N, hL, hI₀, off, hb, h0, turn, fin⟩ := h₂
  refine comp_block W hself hsz hcell hkind hst hfp F N hL hI₀ off hb h0 turn ?_
  intro D C h' tk m' ys F' N' lt hn hC₀ hD₀ hCL hDL hCD offC hG
  show wpAny _ A (assign (.Name y py) env (.ref D)) _ _ _
  refine wpAny_assign_Name (wpAny_storeName_local hy F'.ns (fun h₂ hn₂ hs₂ => ?_) hp)
  have hL₀ : h₀.get? env.locals = none := Heap.get?_none_of_le F'.above
  have F₂ : Fr h₀ env.locals h₂ (fun z => if z = y then some (.ref D) else m z) := ⟨hn₂, fun b o e => hs₂.extBut b o (fun q => by rw [q, hL₀] at e; cases e) (F'.keep b o e), F'.above⟩
  refine ⟨m', hn.sameBut hs₂ hCL, fun h'' hs'' => fin D h'' _ ys (F₂.change hs'' hCL hC₀) (fun p hp => ?_) lt hG⟩
  have z : h₂.get? p.1 = some p.2 := hs₂.extBut _ _ (N' p hp).2.1 (N' p hp).1
  refine ⟨hs''.extBut _ _ ?_ z, (N' p hp).2⟩
  rcases List.mem_cons.mp hp with rfl | hp
  · exact Ne.symm hCD
  · exact offC p hp
theorem from_tupA {ct elt : Expr} {scope : Scope} {cl : List (Str × Addr)} {yv : Str} {Q : Flow → Shared → Prop} {x : Str} {px : Pos} {l : Addr} {lo : Obj} {ys : List Value} {n2 : Nat} {news : List (Addr × Obj)} (G : Nat → List Value → Prop)
    (hh : A.handled = none) (F : Fr h₀ L s.heap m) (N : News h₀ L s.heap news) (hm : (l, lo) ∈ news) (hc : lo.cls = .type "tuple") (hd : lo.data = .seq ys.toArray n2) (hsz : ys.length ≤ sizeLine)
    (lx : scope.names.lookup x = some .local) (hk : scope.kind = .function) (h0 : G 0 [])
    (turn : ∀ g, CompTurn prog w A h₀ L m env ct elt scope cl { s with heap := g } news (fun i m' => ∃ y, ys[i]? = some y ∧ m' x = some y) G ys.length)
    (fin : ∀ D h tk zs, Fr h₀ L h (fun z => if z = yv then some (.ref D) else m z) → News h₀ L h ((D, lst zs) :: news) → (∀ p ∈ news, p.1 < D) → G ys.length zs → Q .next { s with heap := h, toks := tk }) :
    wpAny (model prog w) A (pyIter (.ref l)) (CompFromA prog w A h₀ L m env ct elt (.Name x px) scope cl yv Q) E s := by
  have hax := N _ hm
  have hl : s.heap.IsTuple l ys.toArray := ⟨lo, hax.1, hc, n2, hd⟩
  have hlt : l < s.heap.objs.size := Heap.lt_size hax.1
  have hne : l ≠ s.heap.objs.size := Nat.ne_of_lt hlt
  refine wpAny_pyIter_tuple hl ?_
  have W := KTurns.ofWalks (target := .Name x px) (Walks.tuple (prog := prog) (w := w) (A := A) hh s.heap.objs.size l hne ys.toArray) fun i v s Q E st q => letGo_tupleiter st.1 q
  refine ⟨_, _, _, _, _, _, _, news, fun i m' => ∃ y, ys[i]? = some y ∧ m' x = some y, G, rfl, W, fun s Q E st q => (Walks.tuple (prog := prog) (w := w) (A := A) hh _ l hne ys.toArray).self 0 s Q E st q, by simpa using hsz,
    ⟨⟨_, Heap.get?_push_size _ rfl, rfl, rfl⟩, hl.at fun o e => Heap.get?_push_of_some _ e⟩, ?_, F.push _, (fun p hp => ⟨Heap.get?_push_of_some _ (N p hp).1, (N p hp).2⟩), ?_, ?_, ?_, ?_, h0, by simpa using turn _, ?_⟩
  · intro b hb
    show b < (s.heap.push _).objs.size
    rw [Heap.size_push]
    rcases List.mem_cons.mp hb with rfl | hb
    · exact Nat.lt_succ_self _
    · rw [List.mem_singleton.mp hb]; exact Nat.lt_succ_of_lt hlt
  · intro hI; exact absurd F.ns.lt ((List.mem_singleton.mp hI) ▸ Nat.lt_irrefl _)
  · intro b hb; rw [List.mem_singleton.mp hb]; exact next_is_new F
  · intro p hp hI; exact absurd (Heap.lt_size (N p hp).1) ((List.mem_singleton.mp hI) ▸ Nat.lt_irrefl _)
  · intro i v C m₁ s' Q' E' hP hn h
    refine binds_name (cl := cl) (PP := fun i v => ys[i]? = some v) lx hk i v C m₁ s' Q' E' (by simpa using hP) hn ?_
    rintro h'' tk m' hn' ⟨a, ha, e⟩ hk''
    exact h h'' tk m' hn' ⟨a, ha, e⟩ hk''
  · intro D' h'' tk zs F' N' lt hG
    exact fin D' h'' tk zs F' N' lt (by simpa using hG)
end
section
variable {prog : Program} {w : World} {A : Around} {E : Value → Shared → Prop} {s : Shared} {h₀ : Heap} {env : Env} {target : PySem.Expr} {body : List Stmt} {Q : Flow → Shared → Prop}
/-- over a tuple of the ledger -/
theorem turns_tup {σ : Type} {ax : Addr} {vs : List Value} {nn : Nat} {m₀ : Str → Option Value} {fm : Led}
    (mu : σ → Led) (adr : List Addr) (ps : σ → List (Str × Value)) (stored : List Str) (Inv : Nat → σ → Led → Prop) (c₀ : σ)
    (hh : A.handled = none) (hadr : ∀ c, (mu c).map (·.1) = adr) (F : Fr h₀ env.locals s.heap m₀) (N : News h₀ env.locals s.heap (mu c₀ ++ fm)) (hoff : ∀ d ∈ adr, Off d fm) (hm : (ax, tupN vs nn) ∈ fm)
    (hps : ∀ p ∈ ps c₀, m₀ p.1 = some p.2) (h0 : Inv 0 c₀ [])
    (turn : ∀ i v c tl lg u h tk, i < vs.length → vs[i]? = some v → Inv i c tl → Ord (mu c₀ ++ fm) tl → (∀ q ∈ tl ++ fm, q ∈ lg) → (∀ d ∈ adr, Off d lg) → Fr h₀ env.locals h (fmap (ps c) stored u m₀) → News h₀ env.locals h (mu c ++ lg) →
      wpAny (model prog w) A (assign target env v) (fun _ s₂ => wpAny (model prog w) A (execs body env) (TEnd h₀ env.locals mu ps stored m₀ (Inv (i + 1)) c lg tl { s with heap := h, toks := tk } Q) E s₂) E { s with heap := h, toks := tk })
    (done : ∀ c tl u h tk, Inv vs.length c tl → Ord (mu c₀ ++ fm) tl → Fr h₀ env.locals h (fmap (ps c) stored u m₀) → News h₀ env.locals h (mu c ++ (tl ++ fm)) → Q .next { s with heap := h, toks := tk }) :
    wpAny (model prog w) A (pyIter (.ref ax)) (fun it s₂ => TurnsAt prog w A h₀ env target body Q E it s₂) E s := by
  have hax := N _ (List.mem_append_right _ hm)
  have hl : s.heap.IsTuple ax vs.toArray := ⟨_, hax.1, rfl, nn, rfl⟩
  have hlt : ax < s.heap.objs.size := Heap.lt_size hax.1
  have hne : ax ≠ s.heap.objs.size := Nat.ne_of_lt hlt
  have hLs : env.locals < s.heap.objs.size := F.ns.lt
  refine wpAny_pyIter_tuple hl ?_
  refine turns_inv (tk0 := s.toks) mu adr ps stored Inv c₀ (KTurns.ofWalks (Walks.tuple hh s.heap.objs.size ax hne vs.toArray) fun i v s Q E st q => letGo_tupleiter st.1 q) ?_ ?_ ?_ ?_ hadr ?_ ⟨⟨_, Heap.get?_push_size _ rfl, rfl, rfl⟩, hl.at fun o e => Heap.get?_push_of_some _ e⟩ (F.push _) (fun p hp => ⟨Heap.get?_push_of_some _ (N p hp).1, (N p hp).2⟩) hoff hps h0 (fun i v c tl lg u h tk hi hP => turn i v c tl lg u h tk (by simpa using hi) (by have hP' : vs.toArray[i]? = some v := hP; simpa using hP')) (fun c tl u h tk hI => done c tl u h tk (by simpa using hI))
  · intro i h st b hb
    rw [List.mem_singleton.mp hb]
    obtain ⟨o, e, _⟩ := st.1
    exact ⟨o, e⟩
  · intro b hb hw hd
    have hb' : b = s.heap.objs.size ∨ b = ax := by simpa using hb
    rcases hb' with e | e
    · exact hw (by simp [e])
    · exact hoff b hd _ hm e.symm
  · intro hI
    have hb' : env.locals = s.heap.objs.size ∨ env.locals = ax := by simpa using hI
    rcases hb' with e | e
    · exact Nat.ne_of_lt hLs e
    · exact hax.2.1 e.symm
  · intro b hb; rw [List.mem_singleton.mp hb]; exact next_is_new F
  · intro p hp hI; exact absurd (Heap.lt_size (N p hp).1) ((List.mem_singleton.mp hI) ▸ Nat.lt_irrefl _)
end
end Mine
namespace Mine
section
variable {prog : Program} {w : World} {A : Around} {E : Value → Shared → Prop} {s : Shared} {h₀ : Heap} {L : Addr} {news : Led}
theorem tup_last {value slice : PySem.Expr} {l : Addr} {ws : List Value} {n j : Nat} {t : Tok} {v : Value} {Q : Value → Shared → Prop} (N : News h₀ L s.heap news) (hm : (l, tupN ws n) ∈ news) (hj : seqIndex? (-1) ws.length = some j) (hx : ws[j]? = some v) (h : Q v s)
    (hs : subscripted slice false (.ref l) (.int (-1) t) = operate [.ref l, .int (-1) t] (getItem (.ref l) (.int (-1) t))) :
    wpAny (model prog w) A (subscriptTail value slice (.ref l) (.int (-1) t)) Q E s :=
  item_tupleT (l := ws) (j := j) ⟨_, (N _ hm).1, rfl, n, rfl⟩ (by omega) (by omega) hj hx h hs
end
end Mine
-- MACROS
local macro_rules | `(tactic| walk_at "subscriptTail") => `(tactic| (k_here; (with_reducible show wpAny _ _ (subscriptTail _ _ (Value.ref _) (Value.int (-1) _)) _ _ _); k_dflt (refine' tup_last ?N ?m ?j ?x ?_ ?s; (case N => k_asm); (case m => k_mem); (case j | x => exact rfl); (case s => with_unfolding_all rfl))))
local macro_rules | `(tactic| walk_at "exec Assign cons ListComp") => `(tactic| (k_here; k_dflt (refine' Assign_Q ?F ?a ?b ?c ?d ?e ?f ?g ?h ?_; (case F => k_asm); (case a => exact rfl); (case b => with_unfolding_all exact rfl); (case c => exact rfl); (case d => decide); (case e => exact rfl); (case f => decide); (case g | h => exact rfl))))
local macro_rules | `(tactic| walk_at "pyIter ref") => `(tactic| (k_here; (with_reducible show wpAny _ _ (pyIter (Value.ref _)) (CompFromA _ _ _ _ _ _ _ _ _ _ _ _ _ _) _ _); refine stop_in ?_))
-- END
namespace Mine
theorem lean_ct (w : World) (fz : Led) (l : Addr) (vs : List Value) (n : Nat) (rs : List Row) (hl : (l, tupN vs n) ∈ fz) (hrs : RowsIn fz vs rs) (hlen : rs.length ≤ 99) (hg : Good rs) (hq : LeanQ rs) :
    Ct w 217 [.ref l] fz 6 200 (fun tl x => x = .bool true) := by
  intro dp un gd cn cs ca ccd cl outer A₀ base h₀ L m news s p loose mean mg mb Q E B F X N T hk hsub hd hu ret
  have hlv : vs.length ≤ 99 := by rw [hrs.length]; exact hlen
  refine wpAny_call ?_
  k_dflt ktr_enter
  (try (refine gen_tk ?_; intro tk0))
  (try (rename Fr _ _ _ _ => F0; have F1 : Fr _ _ _ (fun y => List.lookup y [(Str.ofString "rows", .ref l)]) := F0; clear F0))
  k_steps
  refine stop_out ?_
  refine' from_tupA (fun i zs => IntsV zs ((rs.take i).flatMap uses)) ?hh ?F ?N (hsub _ hl) rfl rfl ?z ?lx ?hk .nil (fun g => ?t) ?_
  case hh => rfl
  case lx => rfl
  case hk => rfl
  case F => k_asm
  case N => k_asm
  case z => rw [sizeLine_eq]; omega
  case t => exact read_turn hrs hsub (by rfl) (by rfl) (by decide +kernel)
  intro D hD tkD zs FD ND lD hzs
  have hzs' : IntsV zs (rs.flatMap uses) := by rwa [List.take_of_length_le (by rw [hrs.length]; exact Nat.le_refl _)] at hzs
  have hzl := hzs'.length
  have hsq : SeqIn fz l vs := ⟨n, .inr hl⟩
  have hcl2 := goto_cl hg.goal_lt
  k_steps
  rename Fr _ _ _ _ => F8
  refine turns_tup (σ := Unit) (fm := (D, listOf zs.toArray zs.length) :: news) (fun _ => []) [] (fun _ => []) [Str.ofString "row"] (fun i c tl => tl = []) () rfl (fun _ => rfl) F8 ND (fun _ h => nomatch h) (.tail _ (hsub _ hl)) (fun _ h => nomatch h) rfl ?turn ?done
  case done =>
    rintro c tl u h tk rfl hord F1 N1
    k_steps
    exact ret _ [] _ _ (by k_asm) (news_sub (by assumption) fun q hq => .tail _ hq) Ord.nil rfl
  case turn =>
    rintro i v c tl lg u h tk hi hv rfl hord hlg hoff F1 N1
    (try dsimp only at F1 N1)
    (try dsimp only [List.nil_append] at N1)
    have hlg1 : ∀ q ∈ (D, listOf zs.toArray zs.length) :: news, q ∈ lg := fun q hq => hlg q hq
    have hsub1 : ∀ q ∈ fz, q ∈ lg := fun q hq => hlg1 q (.tail _ (hsub q hq))
    have hmD := hlg1 _ (.head _)
    have hi' : i < rs.length := by rw [← hrs.length]; exact hi
    obtain ⟨r, hr⟩ : ∃ r, rs[i]? = some r := ⟨rs[i], by simp [hi']⟩
    obtain ⟨v', hv', hrv⟩ := hrs.get hr
    obtain rfl : v' = v := by rw [hv] at hv'; cases hv'; rfl
    have hrm := List.mem_of_getElem? hr
    have hgl := hg.goal_lt r hrm
    have hrd := hq.reads r hrm
    have hro := hq.round r hrm
    clear hlg hoff F N F8 ND
    cases hrv
    case const a c d n1 n2 b0 t1 t2 t3 hm hm' =>
      have hin : d ∈ rs.flatMap uses := by
        obtain ⟨r', h1, h2⟩ := hrd d (.inl ⟨b0, rfl⟩)
        exact List.mem_flatMap.mpr ⟨r', h1, h2⟩
      k_steps
      exact tend_next () [] (by k_asm) (news_sub (by assumption) fun q hq => by first | exact hq | exact .tail _ hq | exact .tail _ (.tail _ hq) | exact .tail _ (.tail _ (.tail _ hq))) Ord.nil (fun _ h => nomatch h) (by (intro z hz1 hz2; repeat (first | exact fmap_off hz1 hz2 | exact rfl | exact if_neg (fun e => Bool.false_ne_true (hz2.symm.trans e)) | refine (if_neg (ne_stored hz2 (by decide +kernel))).trans ?_ | refine (if_neg (hz1 _ (.head _))).trans ?_ | refine (if_neg (hz1 _ (.tail _ (.head _)))).trans ?_ | refine (if_neg (hz1 _ (.tail _ (.tail _ (.head _))))).trans ?_ | refine (fmap_off (ps := []) (List.forall_mem_nil _) (sub_contains hz2 (by decide +kernel))).trans ?_))) rfl
    case move a d sr n1 t1 t2 t3 hm =>
      have hin : d ∈ rs.flatMap uses := by
        obtain ⟨r', h1, h2⟩ := hrd d (.inr ⟨sr, rfl⟩)
        exact List.mem_flatMap.mpr ⟨r', h1, h2⟩
      k_steps
      exact tend_next () [] (by k_asm) (news_sub (by assumption) fun q hq => by first | exact hq | exact .tail _ hq | exact .tail _ (.tail _ hq) | exact .tail _ (.tail _ (.tail _ hq))) Ord.nil (fun _ h => nomatch h) (by (intro z hz1 hz2; repeat (first | exact fmap_off hz1 hz2 | exact rfl | exact if_neg (fun e => Bool.false_ne_true (hz2.symm.trans e)) | refine (if_neg (ne_stored hz2 (by decide +kernel))).trans ?_ | refine (if_neg (hz1 _ (.head _))).trans ?_ | refine (if_neg (hz1 _ (.tail _ (.head _)))).trans ?_ | refine (if_neg (hz1 _ (.tail _ (.tail _ (.head _))))).trans ?_ | refine (fmap_off (ps := []) (List.forall_mem_nil _) (sub_contains hz2 (by decide +kernel))).trans ?_))) rfl
    case ret a s0 n1 t1 t2 hm =>
      k_steps
      exact tend_next () [] (by k_asm) (news_sub (by assumption) fun q hq => by first | exact hq | exact .tail _ hq | exact .tail _ (.tail _ hq) | exact .tail _ (.tail _ (.tail _ hq))) Ord.nil (fun _ h => nomatch h) (by (intro z hz1 hz2; repeat (first | exact fmap_off hz1 hz2 | exact rfl | exact if_neg (fun e => Bool.false_ne_true (hz2.symm.trans e)) | refine (if_neg (ne_stored hz2 (by decide +kernel))).trans ?_ | refine (if_neg (hz1 _ (.head _))).trans ?_ | refine (if_neg (hz1 _ (.tail _ (.head _)))).trans ?_ | refine (if_neg (hz1 _ (.tail _ (.tail _ (.head _))))).trans ?_ | refine (fmap_off (ps := []) (List.forall_mem_nil _) (sub_contains hz2 (by decide +kernel))).trans ?_))) rfl
    case goto a g n1 t1 t2 hm =>
      have hg9 := hgl g (by simp [goals])
      have hring := ring_of hg hg9 (hro g (by simp [goals]))
      k_steps
      repeat' ((refine stop_out ?_; (with_reducible show wpAny _ _ (call (Value.ref 212) [_, _]) _ _ _); k_dflt (refine' ct_use0 (goes_ct _ _ _ _ _ ?c0 ?c1 ?c2 _ ?c3 _ ?c4 ?c5) ?k1 ?k2 ?k3 ?k4 ?k5 ?k6 ?k7 ?k8 ?k9 ?_; (case c0 => assumption); (case c1 => assumption); (case c2 => assumption); (case c3 => assumption); (case c4 => assumption); (case c5 => assumption); walk_at "sideC"); intro r' tl' h' tk' F' N' o' P'; subst P'); k_steps)
      exact tend_next () [] (by k_asm) (news_sub (by assumption) fun q hq => List.mem_append_right _ (.tail _ (.tail _ hq))) Ord.nil (fun _ h => nomatch h) (by (intro z hz1 hz2; repeat (first | exact fmap_off hz1 hz2 | exact rfl | exact if_neg (fun e => Bool.false_ne_true (hz2.symm.trans e)) | refine (if_neg (ne_stored hz2 (by decide +kernel))).trans ?_ | refine (if_neg (hz1 _ (.head _))).trans ?_ | refine (if_neg (hz1 _ (.tail _ (.head _)))).trans ?_ | refine (if_neg (hz1 _ (.tail _ (.tail _ (.head _))))).trans ?_ | refine (fmap_off (ps := []) (List.forall_mem_nil _) (sub_contains hz2 (by decide +kernel))).trans ?_))) rfl
    case jif a r0 g n1 t1 t2 t3 hm =>
      have hg9 := hgl g (by simp [goals])
      have hring := ring_of hg hg9 (hro g (by simp [goals]))
      k_steps
      repeat' ((refine stop_out ?_; (with_reducible show wpAny _ _ (call (Value.ref 212) [_, _]) _ _ _); k_dflt (refine' ct_use0 (goes_ct _ _ _ _ _ ?c0 ?c1 ?c2 _ ?c3 _ ?c4 ?c5) ?k1 ?k2 ?k3 ?k4 ?k5 ?k6 ?k7 ?k8 ?k9 ?_; (case c0 => assumption); (case c1 => assumption); (case c2 => assumption); (case c3 => assumption); (case c4 => assumption); (case c5 => assumption); walk_at "sideC"); intro r' tl' h' tk' F' N' o' P'; subst P'); k_steps)
      exact tend_next () [] (by k_asm) (news_sub (by assumption) fun q hq => List.mem_append_right _ (.tail _ (.tail _ hq))) Ord.nil (fun _ h => nomatch h) (by (intro z hz1 hz2; repeat (first | exact fmap_off hz1 hz2 | exact rfl | exact if_neg (fun e => Bool.false_ne_true (hz2.symm.trans e)) | refine (if_neg (ne_stored hz2 (by decide +kernel))).trans ?_ | refine (if_neg (hz1 _ (.head _))).trans ?_ | refine (if_neg (hz1 _ (.tail _ (.head _)))).trans ?_ | refine (if_neg (hz1 _ (.tail _ (.tail _ (.head _))))).trans ?_ | refine (fmap_off (ps := []) (List.forall_mem_nil _) (sub_contains hz2 (by decide +kernel))).trans ?_))) rfl
end Mine

namespace Mine
section
variable {prog : Program} {w : World} {A : Around} {E : Value → Shared → Prop} {s : Shared} {h₀ : Heap} {env : Env} {target : PySem.Expr} {body : List Stmt} {Q : Flow → Shared → Prop}
/-- over a list that the turns may make longer; μ falls, or the place moves on -/
theorem for_grow {σ : Type} {ax : Addr} {iter : PySem.Expr} {pos : Pos} {m₀ : Str → Option Value} {fm : Led}
    (items : σ → List Value) (vers : σ → Nat) (ps : σ → List (Str × Value)) (stored : List Str) (Inv : Nat → σ → Led → Prop) (μ : Nat → σ → Nat) (c₀ : σ)
    (hh : A.handled = none) (F : Fr h₀ env.locals s.heap m₀) (N : News h₀ env.locals s.heap ((ax, listOf (items c₀).toArray (vers c₀)) :: fm)) (hoff : Off ax fm)
    (hps : ∀ p ∈ ps c₀, m₀ p.1 = some p.2) (h0 : Inv 0 c₀ [])
    (hiter : wpAny (model prog w) A (eval iter env) (fun xv s₁ => xv = .ref ax ∧ ∃ tk, s₁ = { s with toks := tk }) E s)
    (turn : ∀ i v c tl lg u h tk, (items c)[i]? = some v → Inv i c tl → Ord ((ax, listOf (items c₀).toArray (vers c₀)) :: fm) tl → (∀ q ∈ tl ++ fm, q ∈ lg) → Off ax lg → Fr h₀ env.locals h (fmap (ps c) stored u m₀) → News h₀ env.locals h ((ax, listOf (items c).toArray (vers c)) :: lg) →
      wpAny (model prog w) A (assign target env v) (fun _ s₂ => wpAny (model prog w) A (execs body env) (TEnd h₀ env.locals (fun c => [(ax, listOf (items c).toArray (vers c))]) ps stored m₀ (fun c' tl' => Inv (i + 1) c' tl' ∧ μ (i + 1) c' < μ i c) c lg tl { s with heap := h, toks := tk } Q) E s₂) E { s with heap := h, toks := tk })
    (done : ∀ i c tl u h tk, (items c)[i]? = none → Inv i c tl → Ord ((ax, listOf (items c₀).toArray (vers c₀)) :: fm) tl → Fr h₀ env.locals h (fmap (ps c) stored u m₀) → News h₀ env.locals h ((ax, listOf (items c).toArray (vers c)) :: (tl ++ fm)) → Q .next { s with heap := h, toks := tk })
    (hs : ∀ x, foldedSetIterable iter env x = pure x := by intro _; rfl)
    (hgo : ∀ (s' : Shared) (it : Addr) (v : Value) (i : Nat) (Q' : Unit → Shared → Prop) (E' : Value → Shared → Prop), s'.heap.IsListIter it ax i → Q' () s' → wpAny (model prog w) A (letOwnedTupleGo target (.ref it) v) Q' E' s' := by intro s' it v i Q' E' st q; exact letGo_listiter st q)
    (hE : PassesOwn (model prog w) A env E := by passes_own) :
    wpAny (model prog w) A (exec (.For target iter body [] pos) env) Q E s := by
  refine wpAny_For (wpAny_mono hiter (fun xv s₁ h₁ => ?_) fun _ _ e => e) hs
  obtain ⟨rfl, tk1, rfl⟩ := h₁
  have hax := N _ (.head _)
  have hl : s.heap.IsList ax (items c₀).toArray := ⟨_, hax.1, rfl, vers c₀, rfl⟩
  have hlt : ax < s.heap.objs.size := Heap.lt_size hax.1
  have hne : ax ≠ s.heap.objs.size := Nat.ne_of_lt hlt
  have hLs : env.locals < s.heap.objs.size := F.ns.lt
  refine wpAny_pyIter_list hl ?_
  have hI0 : h₀.get? s.heap.objs.size = none := next_is_new F
  have hIL : s.heap.objs.size ≠ env.locals := Nat.ne_of_gt hLs
  have Np : News h₀ env.locals (s.heap.push { cls := .type "list_iterator", data := .fields #[.ref ax, .int 0 0] }) ((s.heap.objs.size, { cls := .type "list_iterator", data := .fields #[.ref ax, .int 0 0] }) :: (ax, listOf (items c₀).toArray (vers c₀)) :: ([] ++ fm)) := fun p hp => by
    rcases List.mem_cons.mp hp with rfl | hp
    · exact ⟨Heap.get?_push_size _ rfl, hIL, hI0⟩
    · exact ⟨Heap.get?_push_of_some _ (N p hp).1, (N p hp).2⟩
  refine codeAny_forLoop_any (fun k s' => ∃ h' tk m' i c tl oi, s' = { s with heap := h', toks := tk } ∧ k = μ i c ∧ oi.cls = .type "list_iterator" ∧ oi.data = .fields #[.ref ax, .int (i : Nat) 0] ∧
      Fr h₀ env.locals h' m' ∧ News h₀ env.locals h' ((s.heap.objs.size, oi) :: (ax, listOf (items c).toArray (vers c)) :: (tl ++ fm)) ∧ Ord ((s.heap.objs.size, oi) :: (ax, listOf (items c₀).toArray (vers c₀)) :: fm) tl ∧ (∀ p ∈ ps c, m' p.1 = some p.2) ∧ (∀ z, (∀ p ∈ ps c, z ≠ p.1) → stored.contains z = false → m' z = m₀ z) ∧ Inv i c tl) ?_ (μ 0 c₀)
    ⟨_, _, m₀, 0, c₀, [], _, rfl, rfl, rfl, rfl, F.push _, Np, Ord.nil, hps, fun _ _ _ => rfl, h0⟩
  rintro k s' ⟨h', tk, m', i, c, tl, oi, rfl, rfl, hc, hd, F', N', otl, hp1, hp2, hI⟩
  have hit : h'.IsListIter s.heap.objs.size ax i := ⟨oi, (N' _ (.head _)).1, hc, hd⟩
  have hl' : h'.IsList ax (items c).toArray := ⟨_, (N' _ (.tail _ (.head _))).1, rfl, vers c, rfl⟩
  have hfmI : ∀ p ∈ (ax, listOf (items c).toArray (vers c)) :: (tl ++ fm), p.1 ≠ s.heap.objs.size := fun p hp e => by
    rcases List.mem_cons.mp hp with rfl | hp
    · exact hne e
    · rcases List.mem_append.mp hp with hp | hp
      · have := otl _ (.head _) p hp
        rw [e] at this; exact Nat.lt_irrefl _ this
      · exact Nat.ne_of_lt (Heap.lt_size (N p (.tail _ hp)).1) e
  have keep : ∀ h1 : Heap, Heap.ExtBut s.heap.objs.size h' h1 → Fr h₀ env.locals h1 m' ∧ News h₀ env.locals h1 ((ax, listOf (items c).toArray (vers c)) :: (tl ++ fm)) := fun h1 hx =>
    ⟨⟨F'.ns.at' fun o e => hx _ o (Ne.symm hIL) e, fun b o e => hx b o (fun q => by rw [q, hI0] at e; cases e) (F'.keep b o e), F'.above⟩, fun p hp => ⟨hx _ _ (hfmI p hp) (N' p (.tail _ hp)).1, (N' p (.tail _ hp)).2⟩⟩
  cases hv : (items c)[i]? with
  | none =>
    refine wpAny_pyNext_list_end hh hit hl' (by simpa using hv) fun h1 hx => ?_
    obtain ⟨F1, N1⟩ := keep h1 hx
    refine wpAny_execs_nil ?_
    exact done i c tl m' h1 tk hv hI (otl.sub fun q hq => .tail _ hq) (by rw [fmap_self hp1 hp2]; exact F1) N1
  | some v =>
    refine wpAny_pyNext_list_item hit hl' (x := v) (by simpa using hv) fun h1 hit1 hs1 => ?_
    obtain ⟨F1, N1⟩ := keep h1 hs1.extBut
    refine hgo _ _ _ _ _ _ hit1 ?_
    obtain ⟨oi1, ho1, hc1, hd1⟩ := hit1
    have otl2 : Ord ((s.heap.objs.size, oi1) :: (ax, listOf (items c₀).toArray (vers c₀)) :: fm) tl := otl.subA fun q hq => by
      rcases List.mem_cons.mp hq with rfl | hq
      · exact ⟨_, .head _, rfl⟩
      · exact ⟨q, .tail _ hq, rfl⟩
    have N2 : News h₀ env.locals h1 ((ax, listOf (items c).toArray (vers c)) :: ((s.heap.objs.size, oi1) :: (tl ++ fm))) := fun q hq => by
      rcases List.mem_cons.mp hq with rfl | hq
      · exact N1 _ (.head _)
      · rcases List.mem_cons.mp hq with rfl | hq
        · exact ⟨ho1, hIL, hI0⟩
        · exact N1 q (.tail _ hq)
    have hoff2 : Off ax ((s.heap.objs.size, oi1) :: (tl ++ fm)) := fun p hp e => by
      rcases List.mem_cons.mp hp with rfl | hp
      · exact hne e.symm
      · rcases List.mem_append.mp hp with hp | hp
        · have := otl _ (.tail _ (.head _)) p hp
          rw [e] at this; exact Nat.lt_irrefl _ this
        · exact hoff p hp e
    refine wpAny_mono (turn i v c tl _ m' h1 tk hv hI (otl.sub fun q hq => .tail _ hq) (fun q hq => .tail _ hq) hoff2 (by rw [fmap_self hp1 hp2]; exact F1) N2) (fun _ s₂ h₂ => wpAny_mono (wpAny_passesOwn hE h₂) (fun f s₃ q => ?_) fun _ _ e => e) hE
    have fin : (∃ h' tk' m' c' t2, s₃ = { s with heap := h', toks := tk' } ∧ Fr h₀ env.locals h' m' ∧ News h₀ env.locals h' ([(ax, listOf (items c').toArray (vers c'))] ++ (t2 ++ ((s.heap.objs.size, oi1) :: (tl ++ fm)))) ∧ Ord ([(ax, listOf (items c).toArray (vers c))] ++ ((s.heap.objs.size, oi1) :: (tl ++ fm))) t2 ∧ (∀ p ∈ ps c', m' p.1 = some p.2) ∧ (∀ z, (∀ p ∈ ps c', z ≠ p.1) → stored.contains z = false → m' z = m₀ z) ∧ (Inv (i + 1) c' (t2 ++ tl) ∧ μ (i + 1) c' < μ i c)) →
        ∃ m, m < μ i c ∧ ∃ h' tk m' i c tl oi, s₃ = { s with heap := h', toks := tk } ∧ m = μ i c ∧ oi.cls = .type "list_iterator" ∧ oi.data = .fields #[.ref ax, .int (i : Nat) 0] ∧
      Fr h₀ env.locals h' m' ∧ News h₀ env.locals h' ((s.heap.objs.size, oi) :: (ax, listOf (items c).toArray (vers c)) :: (tl ++ fm)) ∧ Ord ((s.heap.objs.size, oi) :: (ax, listOf (items c₀).toArray (vers c₀)) :: fm) tl ∧ (∀ p ∈ ps c, m' p.1 = some p.2) ∧ (∀ z, (∀ p ∈ ps c, z ≠ p.1) → stored.contains z = false → m' z = m₀ z) ∧ Inv i c tl := by
      rintro ⟨h2, tk2, m2, c2, t2, e2, F2, N3, o2, r1, r2, hI2, hμ⟩
      refine ⟨_, hμ, h2, tk2, m2, i + 1, c2, t2 ++ tl, oi1, e2, rfl, hc1, hd1, F2, news_sub N3 fun q hq => ?_, Ord.append (o2.subA fun q hq => ?_) otl2, r1, r2, hI2⟩
      · exact sub_at hq (by walk_at "sub")
      · rcases List.mem_cons.mp hq with rfl | hq
        · exact ⟨_, .tail _ (.head _), rfl⟩
        · rcases List.mem_cons.mp hq with rfl | hq
          · exact ⟨_, .head _, rfl⟩
          · exact ⟨q, by simp [hq], rfl⟩
    cases f with
    | ret v => exact q
    | brk => exact q
    | next => exact fin q
    | cont => exact fin q
end
end Mine
namespace Mine
theorem sub_len : ∀ {l m : List Nat}, l.Nodup → (∀ x ∈ l, x ∈ m) → l.length ≤ m.length
  | [], _, _, _ => Nat.zero_le _
  | x :: l, m, hn, hs => by
    have hx := hs x (.head _)
    rw [List.nodup_cons] at hn
    have h1 := sub_len (m := m.erase x) hn.2 fun y hy => (List.mem_erase_of_ne (fun e : y = x => by subst e; exact hn.1 hy)).mpr (hs y (.tail _ hy))
    rw [List.length_erase_of_mem hx] at h1
    have : 0 < m.length := List.length_pos_of_mem hx
    simp only [List.length_cons]
    omega
structure GInv (rs : List Row) (i : Nat) (ns : List Nat) : Prop where
  nodup : ns.Nodup
  reach : ∀ x ∈ ns, Reach rs x
  zero : 0 ∈ ns
  shut : ∀ (j a : Nat) (r : Row), j < i → ns[j]? = some a → rs[a]? = some r → ∀ t ∈ follows r a, t ∈ ns
theorem GInv.start {rs : List Row} : GInv rs 0 [0] := ⟨by simp, fun x hx => by rw [List.mem_singleton.mp hx]; exact .zero, by simp, fun _ _ _ h => absurd h (Nat.not_lt_zero _)⟩
theorem GInv.bound {rs : List Row} {i : Nat} {ns : List Nat} (h : GInv rs i ns) (hc : Closed rs) : ns.length ≤ rs.length := nodup_len _ _ h.nodup fun x hx => reach_lt hc (h.reach x hx)
theorem GInv.all {rs : List Row} {i : Nat} {ns : List Nat} (h : GInv rs i ns) (hi : ns[i]? = none) : ∀ x, x ∈ ns ↔ Reach rs x := fun x => ⟨h.reach x, fun hr => by
  have hl : ns.length ≤ i := by simpa using hi
  induction hr with
  | zero => exact h.zero
  | @step a j r _ er hj ih =>
    obtain ⟨k, hk⟩ := List.getElem?_of_mem ih
    have := (List.getElem?_eq_some_iff.mp hk).1
    exact h.shut k a r (by omega) hk er _ hj⟩
theorem GInv.add {rs : List Row} {i : Nat} {ns : List Nat} (h : GInv rs i ns) (hi : i ≤ ns.length) {t : Nat} (hn : t ∉ ns) (hr : Reach rs t) : GInv rs i (ns ++ [t]) where
  nodup := by
    rw [List.nodup_append]
    exact ⟨h.nodup, by simp, fun x hx y hy => by rw [List.mem_singleton.mp hy]; exact fun e => hn (e ▸ hx)⟩
  reach := fun x hx => by
    rcases List.mem_append.mp hx with hx | hx
    · exact h.reach x hx
    · rw [List.mem_singleton.mp hx]; exact hr
  zero := List.mem_append_left _ h.zero
  shut := fun j a r hj ha er t' ht' => by
    rw [List.getElem?_append_left (by omega)] at ha
    exact List.mem_append_left _ (h.shut j a r hj ha er t' ht')
theorem GInv.next {rs : List Row} {i a : Nat} {r : Row} {ns : List Nat} (h : GInv rs i ns) (ha : ns[i]? = some a) (hr : rs[a]? = some r) (hf : ∀ t ∈ follows r a, t ∈ ns) : GInv rs (i + 1) ns where
  nodup := h.nodup
  reach := h.reach
  zero := h.zero
  shut := fun j b r' hj hb er t ht => by
    by_cases e : j = i
    · subst e
      rw [ha] at hb
      obtain rfl := Option.some.inj hb
      rw [hr] at er
      obtain rfl := Option.some.inj er
      exact hf t ht
    · exact h.shut j b r' (by omega) hb er t ht
theorem IntsV.get2 {vs : List Value} {ns : List Nat} (h : IntsV vs ns) : ∀ {i : Nat} {v : Value}, vs[i]? = some v → ∃ a t, ns[i]? = some a ∧ v = .int (a : Int) t := by
  induction h with
  | nil => intro i v e; simp at e
  | @cons n t vs ns h ih =>
    intro i v e
    cases i with
    | zero => exact ⟨n, t, rfl, by have : Value.int (n : Int) t = v := by simpa using e
                                   exact this.symm⟩
    | succ i => obtain ⟨a, t', h1, h2⟩ := ih (i := i) (v := v) (by simpa using e); exact ⟨a, t', by simpa using h1, h2⟩
end Mine
namespace Mine
end Mine
-- MACROS
local macro_rules | `(tactic| walk_at "exec For Name Name cons nil") => `(tactic| (refine stop_in ?_))
local macro_rules | `(tactic| walk_at "pyIter ref") => `(tactic| (k_here; (with_reducible show wpAny _ _ (pyIter (Value.ref _)) (fun it s₂ => TurnsAt _ _ _ _ _ _ _ _ _ it s₂) _ _); refine stop_in ?_))
-- END
namespace Mine
theorem grow_ct (w : World) (fz : Led) (l : Addr) (vs : List Value) (rs : List Row) (hl : SeqIn fz l vs) (hrs : RowsIn fz vs rs) (hlen : rs.length ≤ 99) (hc : Closed rs) :
    Ct w 205 [.ref l] fz 6 200 (fun tl x => ∃ lf vs' n' ns, x = .ref lf ∧ (lf, listOf vs'.toArray n') ∈ tl ∧ IntsV vs' ns ∧ ns.Nodup ∧ ∀ i, i ∈ ns ↔ Reach rs i) := by
  intro dp un gd cn cs ca ccd cl outer A₀ base h₀ L m news s p loose mean mg mb Q E B F X N T hk hsub hd hu ret
  have hlv : vs.length ≤ 99 := by rw [hrs.length]; exact hlen
  refine wpAny_call ?_
  k_dflt ktr_enter
  (try (refine gen_tk ?_; intro tk0))
  (try (rename Fr _ _ _ _ => F0; have F1 : Fr _ _ _ (fun y => List.lookup y [(Str.ofString "rows", .ref l)]) := F0; clear F0))
  k_steps
  refine stop_out ?_
  rename_i Df h1 ll h2 F9 N9
  refine for_grow (σ := List Value × Nat × List Nat) (ax := Df) (fm := news) (fun c => c.1) (fun c => c.2.1) (fun _ => []) [Str.ofString "at", Str.ofString "goal"] (fun i c tl => IntsV c.1 c.2.2 ∧ GInv rs i c.2.2) (fun i c => rs.length - i) ([.int 0 _], 0, [0]) rfl F9 N9 (off_lt (allLt_of ll)) (fun _ h => nomatch h) ⟨.cons .nil, GInv.start⟩ ?it ?turn ?done
  case it =>
    walk_at "eval Name"
    exact ⟨rfl, _, rfl⟩
  case done =>
    rintro i ⟨ws, nw, ns⟩ tl u h tk hi ⟨hiv, hG⟩ hord F1 N1
    (try dsimp only at hi hiv hG F1 N1)
    k_steps
    exact ret _ ((Df, listOf ws.toArray nw) :: tl) _ _ (by k_asm) (by k_asm) (Ord.cons (allLt_of ll) (hord.sub fun q hq => .tail _ hq)) ⟨Df, ws, nw, ns, rfl, .head _, hiv, hG.nodup, hG.all (by
      have := hiv.length
      simpa [this] using hi)⟩
  case turn =>
    rintro i v ⟨ws, nw, ns⟩ tl lg u h tk hi ⟨hiv, hG⟩ hord hlg hoff F1 N1
    (try dsimp only at hi hiv hG F1 N1)
    obtain ⟨a, ta, hna, rfl⟩ := hiv.get2 hi
    have hsub1 : ∀ q ∈ fz, q ∈ lg := fun q hq => hlg q (by simp [hsub q hq])
    have hra := hG.reach a (List.mem_of_getElem? hna)
    have hlt := reach_lt hc hra
    obtain ⟨r, hr⟩ : ∃ r, rs[a]? = some r := ⟨rs[a], by simp [hlt]⟩
    have hb := hG.bound hc
    have hil := (List.getElem?_eq_some_iff.mp hna).1
    clear F9 N9 F N
    k_steps
    (refine stop_out ?_; (with_reducible show wpAny _ _ (call (Value.ref 113) [_, _]) _ _ _); k_dflt (refine' ct_use1 (followers_ct _ _ _ _ _ ?c0 ?c1 ?c2 _ _ _ ?c3) ?k1 ?k2 ?k3 ?k4 ?k5 ?k6 ?k7 ?k8 ?k9 ?_; (case c0 => assumption); (case c1 => assumption); (case c2 => assumption); (case c3 => assumption); walk_at "sideC"); intro r' e1 hb2 tkb Fb Nb ob P'; obtain ⟨lf, vsf, nf, e8, hmf, hgf⟩ := P'; subst e8; (have hgl := hgf.length))
    k_steps
    refine stop_out ?_
    have hfl := follows_len r a
    refine turns_list (σ := List Value × Nat × List Nat) (fm := e1 ++ lg) (fun c => [(Df, listOf c.1.toArray c.2.1)]) [Df] (fun _ => []) [Str.ofString "goal"] (fun j c tl2 => tl2 = [] ∧ IntsV c.1 c.2.2 ∧ GInv rs i c.2.2 ∧ (∃ ext, c.2.2 = ns ++ ext) ∧ ∀ t ∈ (follows r a).take j, t ∈ c.2.2)
      (ws, nw, ns) rfl (fun _ => rfl) Fb Nb ?o1 (List.mem_append_left _ hmf) (fun _ h => nomatch h) ⟨rfl, hiv, hG, ⟨[], by simp⟩, fun _ h => by simp at h⟩ ?turn2 ?done2
    case o1 =>
      intro d hd'
      rw [List.mem_singleton.mp hd']
      exact Off.append (Ord.off ob (.head _)) hoff
    case done2 =>
      rintro ⟨ws2, nw2, ns2⟩ tl2 u2 h2 tk2 ⟨rfl, hiv2, hG2, ⟨ext, rfl⟩, hall⟩ hord2 F2 N2
      (try dsimp only at hiv2 hG2 hall F2 N2)
      rw [List.take_of_length_le (by omega)] at hall
      k_steps
      exact tend_next (ws2, nw2, ns ++ ext) e1 (by k_asm) (by k_asm) ob (fun _ h => nomatch h) (by (intro z hz1 hz2; repeat (first | exact fmap_off hz1 hz2 | exact rfl | exact if_neg (fun e => Bool.false_ne_true (hz2.symm.trans e)) | refine (if_neg (ne_stored hz2 (by decide +kernel))).trans ?_ | refine (if_neg (hz1 _ (.head _))).trans ?_ | refine (if_neg (hz1 _ (.tail _ (.head _)))).trans ?_ | refine (if_neg (hz1 _ (.tail _ (.tail _ (.head _))))).trans ?_ | refine (fmap_off (ps := []) (List.forall_mem_nil _) (sub_contains hz2 (by decide +kernel))).trans ?_))) ⟨⟨hiv2, hG2.next (by rw [List.getElem?_append_left hil]; exact hna) hr hall⟩, by omega⟩
    case turn2 =>
      rintro j v2 ⟨ws2, nw2, ns2⟩ tl2 lg2 u2 h2 tk2 hj hv2 ⟨rfl, hiv2, hG2, ⟨ext, rfl⟩, hall⟩ hord2 hlg2 hoff2 F2 N2
      (try dsimp only at hiv2 hG2 hall F2 N2)
      obtain ⟨b, tb, hnb, rfl⟩ := hgf.get2 hv2
      have q1 := hoff2 Df (.head _)
      have hb3 := hG2.bound hc
      have hwl : ws2.length ≤ 99 := by rw [hiv2.length]; omega
      have hrb : Reach rs b := .step hra hr (List.mem_of_getElem? hnb)
      have htk : (follows r a).take (j + 1) = (follows r a).take j ++ [b] := take_snoc hnb
      clear Fb Nb F1 N1
      by_cases hin : b ∈ ns ++ ext
      · k_steps
        exact tend_next (ws2, nw2, ns ++ ext) [] (by k_asm) (by k_asm) Ord.nil (fun _ h => nomatch h) (by (intro z hz1 hz2; repeat (first | exact fmap_off hz1 hz2 | exact rfl | exact if_neg (fun e => Bool.false_ne_true (hz2.symm.trans e)) | refine (if_neg (ne_stored hz2 (by decide +kernel))).trans ?_ | refine (if_neg (hz1 _ (.head _))).trans ?_ | refine (if_neg (hz1 _ (.tail _ (.head _)))).trans ?_ | refine (if_neg (hz1 _ (.tail _ (.tail _ (.head _))))).trans ?_ | refine (fmap_off (ps := []) (List.forall_mem_nil _) (sub_contains hz2 (by decide +kernel))).trans ?_))) ⟨rfl, hiv2, hG2, ⟨ext, rfl⟩, fun t ht => by
          rw [htk] at ht
          rcases List.mem_append.mp ht with ht | ht
          · exact hall t ht
          · rw [List.mem_singleton.mp ht]; exact hin⟩
      · k_steps
        exact tend_next (ws2 ++ [.int (b : Int) tb], nw2 + 1, (ns ++ ext) ++ [b]) [] (by k_asm) (by k_asm) Ord.nil (fun _ h => nomatch h) (by (intro z hz1 hz2; repeat (first | exact fmap_off hz1 hz2 | exact rfl | exact if_neg (fun e => Bool.false_ne_true (hz2.symm.trans e)) | refine (if_neg (ne_stored hz2 (by decide +kernel))).trans ?_ | refine (if_neg (hz1 _ (.head _))).trans ?_ | refine (if_neg (hz1 _ (.tail _ (.head _)))).trans ?_ | refine (if_neg (hz1 _ (.tail _ (.tail _ (.head _))))).trans ?_ | refine (fmap_off (ps := []) (List.forall_mem_nil _) (sub_contains hz2 (by decide +kernel))).trans ?_))) ⟨rfl, hiv2.append (.cons .nil), hG2.add (by simp; omega) hin hrb, ⟨ext ++ [b], by simp⟩, fun t ht => by
          rw [htk] at ht
          rcases List.mem_append.mp ht with ht | ht
          · exact List.mem_append_left _ (hall t ht)
          · exact List.mem_append_right _ ht⟩
end Mine

namespace Mine
/-! the runner's states -/
noncomputable def regOf (bs : List Bool) : Reg := fun x => bs.getD x false
theorem regOf_set {bs : List Bool} {d : Nat} {b : Bool} (h : d < bs.length) : regOf (bs.set d b) = upd (regOf bs) d b := by
  funext x
  show (bs.set d b).getD x false = if x = d then b else bs.getD x false
  rw [List.getD_eq_getElem?_getD, List.getElem?_set, List.getD_eq_getElem?_getD]
  by_cases e : d = x
  · subst e; simp [h]
  · rw [if_neg e, if_neg (fun q => e q.symm)]
noncomputable def stp (rs : List Row) (q : St4) : Option St4 := match rs[q.1]? with
  | some (.goto t) => some (t, q.2)
  | some (.jif r t) => some (if q.2.getD r false then q.1 + 1 else t, q.2)
  | some (.const d b) => some (q.1 + 1, q.2.set d b)
  | some (.move d s) => some (q.1 + 1, q.2.set d (q.2.getD s false))
  | _ => none
noncomputable def goS (rs : List Row) (k : Nat) (q : St4) : Option Bool := go rs k q.1 (regOf q.2)
theorem goS_stp {rs : List Row} {q q' : St4} (hreg : ∀ r ∈ rs, regOk r) (h4 : q.2.length = 4) (h : stp rs q = some q') (k : Nat) : goS rs (k + 1) q = goS rs k q' := by
  unfold goS
  rw [go_succ]
  unfold stp at h
  cases hr : rs[q.1]? with
  | none => rw [hr] at h; simp at h
  | some r =>
    have hk := hreg r (List.mem_of_getElem? hr)
    rw [hr] at h
    cases r with
    | ret s => simp at h
    | goto t => have e := Option.some.inj h; subst e; rfl
    | jif r t => have e := Option.some.inj h; subst e; rfl
    | const d b =>
      have e := Option.some.inj h; subst e
      show go rs k (q.1 + 1) (upd (regOf q.2) d b) = go rs k (q.1 + 1) (regOf (q.2.set d b))
      rw [regOf_set (by rw [h4]; exact hk)]
    | move d s =>
      have e := Option.some.inj h; subst e
      show go rs k (q.1 + 1) (upd (regOf q.2) d (regOf q.2 s)) = go rs k (q.1 + 1) (regOf (q.2.set d (q.2.getD s false)))
      rw [regOf_set (by rw [h4]; exact hk.1)]
      rfl
theorem goS_comes {rs : List Row} {q q' : St4} (h : ∀ k, goS rs (k + 1) q = goS rs k q') (b : Bool) : Comes rs q'.1 (regOf q'.2) b ↔ Comes rs q.1 (regOf q.2) b := by
  constructor
  · rintro ⟨k, hk⟩
    exact ⟨k + 1, (h k).trans hk⟩
  · rintro ⟨k, hk⟩
    cases k with
    | zero => simp [go] at hk
    | succ k => exact ⟨k, (h k).symm.trans hk⟩
theorem comes_uniq {rs : List Row} {a : Nat} {g : Reg} {b c : Bool} (h : Comes rs a g b) (k : Comes rs a g c) : b = c := by
  obtain ⟨i, hi⟩ := h
  obtain ⟨j, hj⟩ := k
  have h1 := go_mono hi (Nat.le_add_right i j)
  have h2 := go_mono hj (Nat.le_add_left j i)
  rw [h1] at h2
  exact Option.some.inj h2
noncomputable def start4 : St4 := (0, [false, true, false, true])
/-- the states so far, and the one at hand -/
structure Path (rs : List Row) (qs : List St4) (q : St4) : Prop where
  first : (qs ++ [q])[0]? = some start4
  link : ∀ (i : Nat) (p p' : St4), (qs ++ [q])[i]? = some p → (qs ++ [q])[i + 1]? = some p' → ∀ k, goS rs (k + 1) p = goS rs k p'
  nodup : qs.Nodup
  four : ∀ p ∈ qs ++ [q], p.2.length = 4 ∧ p.1 < rs.length
  comes : ∀ b, Comes rs q.1 (regOf q.2) b ↔ Comes rs 0 (regOf start4.2) b
theorem Path.start {rs : List Row} (h : 0 < rs.length) : Path rs [] start4 where
  first := rfl
  link := fun i p p' h1 h2 => by simp at h2
  nodup := List.nodup_nil
  four := fun p hp => by rw [List.mem_singleton.mp hp]; exact ⟨rfl, h⟩
  comes := fun _ => Iff.rfl
theorem Path.next {rs : List Row} {qs : List St4} {q q' : St4} (h : Path rs qs q) (hreg : ∀ r ∈ rs, regOk r) (hn : q ∉ qs) (hs : stp rs q = some q') (h4 : q'.2.length = 4) (hl : q'.1 < rs.length) : Path rs (qs ++ [q]) q' where
  first := by
    have := h.first
    rw [List.getElem?_append_left (by simp)]
    exact this
  link := fun i p p' h1 h2 => by
    by_cases hi : i + 1 < (qs ++ [q]).length
    · rw [List.getElem?_append_left (by omega)] at h1
      rw [List.getElem?_append_left hi] at h2
      exact h.link i p p' h1 h2
    · have hlen : (qs ++ [q]).length = qs.length + 1 := by simp
      have h3 := (List.getElem?_eq_some_iff.mp h2).1
      simp only [List.length_append, List.length_singleton] at h3
      have e : i = qs.length := by omega
      subst e
      rw [List.getElem?_append_left (by simp)] at h1
      have e1 : q = p := by simpa using h1
      have e2 : q' = p' := by simpa [hlen] using h2
      subst e1 e2
      exact goS_stp hreg (h.four q (by simp)).1 hs
  nodup := by
    rw [List.nodup_append]
    exact ⟨h.nodup, by simp, fun x hx y hy => by rw [List.mem_singleton.mp hy]; exact fun e => hn (e ▸ hx)⟩
  four := fun p hp => by
    rcases List.mem_append.mp hp with hp | hp
    · exact h.four p hp
    · rw [List.mem_singleton.mp hp]; exact ⟨h4, hl⟩
  comes := fun b => (goS_comes (goS_stp hreg (h.four q (by simp)).1 hs) b).trans (h.comes b)
theorem Path.round {rs : List Row} {qs : List St4} {q : St4} (h : Path rs qs q) (hq : q ∈ qs) : ∀ b, ¬ Comes rs 0 (regOf start4.2) b := by
  obtain ⟨i, hi⟩ := List.getElem?_of_mem hq
  have hil := (List.getElem?_eq_some_iff.mp hi).1
  have key : ∀ (k j : Nat) (p : St4), j < qs.length → (qs ++ [q])[j]? = some p → goS rs k p = none := by
    intro k
    induction k with
    | zero => intro j p _ _; rfl
    | succ k ih =>
      intro j p hj hp
      have hj1 : j + 1 < (qs ++ [q]).length := by simp; omega
      have hp' : (qs ++ [q])[j + 1]? = some ((qs ++ [q])[j + 1]) := List.getElem?_eq_getElem hj1
      rw [h.link j p _ hp hp' k]
      by_cases e : j + 1 < qs.length
      · exact ih (j + 1) _ e hp'
      · have e1 : j + 1 = qs.length := by omega
        have e2 : (qs ++ [q])[j + 1] = q := by simp [e1]
        rw [e2]
        exact ih i q hil (by rw [List.getElem?_append_left hil]; exact hi)
  rintro b ⟨k, hk⟩
  have := key k 0 start4 (by omega) h.first
  rw [show goS rs k start4 = go rs k 0 (regOf start4.2) from rfl, hk] at this
  cases this
noncomputable def enc : List Bool → Nat
  | [] => 0
  | b :: bs => (if b then 1 else 0) + 2 * enc bs
theorem enc_lt : ∀ bs : List Bool, enc bs < 2 ^ bs.length
  | [] => by simp [enc]
  | b :: bs => by
    have := enc_lt bs
    simp only [enc, List.length_cons, Nat.pow_succ]
    split <;> omega
theorem enc_inj : ∀ {a b : List Bool}, a.length = b.length → enc a = enc b → a = b
  | [], [], _, _ => rfl
  | [], _ :: _, h, _ => by simp at h
  | _ :: _, [], h, _ => by simp at h
  | x :: a, y :: b, h, e => by
    simp only [enc] at e
    have h1 : enc a = enc b ∧ x = y := by
      cases x <;> cases y <;> simp at e ⊢ <;> omega
    rw [h1.2, enc_inj (by simpa using h) h1.1]
theorem Path.bound {rs : List Row} {qs : List St4} {q : St4} (h : Path rs qs q) : qs.length ≤ rs.length * 16 := by
  have h1 : (qs.map fun p => p.1 * 16 + enc p.2).Nodup := by
    refine List.pairwise_map.mpr ?_
    refine List.Pairwise.imp_of_mem ?_ h.nodup
    intro a b ha hb hab e
    have ea := enc_lt a.2
    have eb := enc_lt b.2
    have fa := (h.four a (List.mem_append_left _ ha)).1
    have fb := (h.four b (List.mem_append_left _ hb)).1
    rw [fa] at ea
    rw [fb] at eb
    apply hab
    exact Prod.ext (by omega) (enc_inj (fa.trans fb.symm) (by omega))
  have h2 := nodup_len (rs.length * 16) _ h1 fun x hx => by
    obtain ⟨p, hp, rfl⟩ := List.mem_map.mp hx
    have fp := h.four p (List.mem_append_left _ hp)
    have ep := enc_lt p.2
    rw [fp.1] at ep
    omega
  simpa using h2
/-- what the runner gives back -/
noncomputable def RunVal (N : Led) (x : Value) : Option Bool → Prop
  | some b => ∃ a n t, x = .ref a ∧ (a, tupN [.str (Str.ofString "bool") t, .bool b] n) ∈ N
  | none => ∃ t, x = .str (Str.ofString "endless") t
noncomputable def RunIs (rs : List Row) (res : Option Bool) : Prop := ∀ b, res = some b ↔ Comes rs 0 (regOf start4.2) b
theorem RunIs.uniq {rs rs' : List Row} {a b : Option Bool} (x : RunIs rs a) (y : RunIs rs' b) (h : ∀ c, Comes rs 0 (regOf start4.2) c ↔ Comes rs' 0 (regOf start4.2) c) : a = b := by
  cases a with
  | none =>
    cases b with
    | none => rfl
    | some c => have := (x c).mpr ((h c).mpr ((y c).mp rfl)); cases this
  | some c => exact ((y c).mpr ((h c).mp ((x c).mp rfl))).symm
end Mine

namespace Mine
end Mine
-- MACROS
local macro_rules | `(tactic| walk_at "compareOp NotIn ref ref") => `(tactic| (k_here; (with_reducible show wpAny _ _ (compareOp CmpOp.NotIn (Value.ref _) (Value.ref _)) _ _ _); refine stop_in ?_))
-- END
namespace Mine
theorem run_news {h₀ h : Heap} {L : Addr} {p2 t2 p1 t1 x y : Addr × Obj} {lg : Led} (N : News h₀ L h (p2 :: t2 :: p1 :: t1 :: x :: y :: lg)) : News h₀ L h ([x, y] ++ ([p2, t2] ++ lg)) := news_sub N fun q hq => by
  exact sub_at hq (by walk_at "sub")
theorem sts_snoc2 {N : Led} {sts regs : List Value} {qs : List St4} {a : Nat} {ta : Tok} {bs : List Bool} {P2 T2 : Addr} (hst : StsIn N sts qs) (hbi : BoolsIn N regs bs) : StsIn ((P2, tupN [.int (a : Int) ta, .ref T2] 0) :: (T2, tupN regs 0) :: N) (sts ++ [.ref P2]) (qs ++ [(a, bs)]) :=
  (hst.mono fun q hq => .tail _ (.tail _ hq)).snoc (q := (a, bs)) (.head _) (.tail _ (.head _)) (hbi.mono fun q hq => .tail _ (.tail _ hq))
set_option maxHeartbeats 8000000 in
theorem run_ct (w : World) (fz : Led) (l : Addr) (vs : List Value) (n : Nat) (rs : List Row) (hl : (l, tupN vs n) ∈ fz) (hrs : RowsIn fz vs rs) (hlen : rs.length ≤ 99) (hg : Good rs) :
    Ct w 198 [.ref l] fz 6 200 (fun tl x => ∃ res, RunVal (tl ++ fz) x res ∧ RunIs rs res) := by
  intro dp un gd cn cs ca ccd cl outer A₀ base h₀ L m news s p loose mean mg mb Q E B F X N T hk hsub hd hu ret
  have hlv : vs.length ≤ 99 := by rw [hrs.length]; exact hlen
  have hsq : SeqIn fz l vs := ⟨n, .inr hl⟩
  refine wpAny_call ?_
  k_dflt ktr_enter
  (try (refine gen_tk ?_; intro tk0))
  (try (rename Fr _ _ _ _ => F0; have F1 : Fr _ _ _ (fun y => List.lookup y [(Str.ofString "rows", .ref l)]) := F0; clear F0))
  k_steps
  refine stop_out ?_
  rename_i D1 h1 l1 D2 h2 l2 D3 h3 l3 D4 h4 l4 Lr h5 l5 Ls h6 l6 Dt h7 l7 h8 h9 h10 h11 F9 N9
  obtain ⟨B0, hB0⟩ : ∃ B0 : Led, News _ _ h11 ([(Ls, listOf #[] 0), (Lr, listOf #[.ref D1, .ref D2, .ref D3, .ref D4] 0)] ++ (B0 ++ news)) ∧ Ord news B0 ∧ BoolsIn B0 [.ref D1, .ref D2, .ref D3, .ref D4] [false, true, false, true] ∧ Off Ls (B0 ++ news) ∧ Off Lr (B0 ++ news) := by
    refine ⟨[_, _, _, _], news_sub N9 fun q hq => .tail _ hq, ?_, ?_, ?_, ?_⟩
    · exact Ord.cons l4.2.2.2 (Ord.cons l3.2.2 (Ord.cons l2.2 (Ord.cons (allLt_of l1) Ord.nil)))
    · exact .cons (.tail _ (.tail _ (.tail _ (.head _)))) (.cons (.tail _ (.tail _ (.head _))) (.cons (.tail _ (.head _)) (.cons (.head _) .nil)))
    · exact off_lt l6.2
    · exact off_lt l5
  obtain ⟨N0, oB, hbs, o1, o2⟩ := hB0
  clear N9
  refine' while_inv (σ := Nat × Tok × List Value × Nat × List Bool × List Value × Nat × List St4) (fm := B0 ++ news) (fun c => [(Ls, listOf c.2.2.2.2.2.1.toArray c.2.2.2.2.2.2.1), (Lr, listOf c.2.2.1.toArray c.2.2.2.1)]) [Ls, Lr] (fun c => [(Str.ofString "at", .int (c.1 : Int) c.2.1)]) [Str.ofString "row"]
    (fun c tl => BoolsIn (tl ++ (B0 ++ fz)) c.2.2.1 c.2.2.2.2.1 ∧ StsIn (tl ++ (B0 ++ fz)) c.2.2.2.2.2.1 c.2.2.2.2.2.2.2 ∧ Path rs c.2.2.2.2.2.2.2 (c.1, c.2.2.2.2.1)) (fun c => rs.length * 16 - c.2.2.2.2.2.2.2.length)
    (0, _, [.ref D1, .ref D2, .ref D3, .ref D4], 0, [false, true, false, true], [], 0, []) (fun _ => rfl) F9 N0 ?o1 ?ps ⟨hbs.mono fun q hq => sub_at hq (by walk_at "sub"), .nil, Path.start hg.closed.1⟩ ?turn
  case o1 =>
    intro d hd'
    simp only [List.mem_cons, List.not_mem_nil, or_false] at hd'
    rcases hd' with rfl | rfl
    · exact o1
    · exact o2
  case ps =>
    intro p hp
    rw [List.mem_singleton.mp hp]
    rfl
  case turn =>
    rintro ⟨a, ta, regs, nr, bs, sts, nst, qs⟩ tl lg u h tk ⟨hbi, hst, hP⟩ hord hlg hoff F1 N1 hback
    (try dsimp only at hbi hst hP F1 N1)
    (try dsimp only [List.cons_append, List.nil_append] at N1)
    have q1 := hoff Ls (.head _)
    have q2 := hoff Lr (.tail _ (.head _))
    have hlg1 : ∀ q ∈ tl ++ (B0 ++ fz), q ∈ lg := fun q hq => hlg q (by
      exact sub_at hq (by walk_at "sub"))
    have hsub1 : ∀ q ∈ fz, q ∈ lg := fun q hq => hlg1 q (by walk_at "memS")
    have h4 := (hP.four (a, bs) (by simp)).1
    have hlt := (hP.four (a, bs) (by simp)).2
    (try dsimp only at h4 hlt)
    have hr4 : regs.length = 4 := by rw [hbi.length, h4]
    have hr99 : regs.length ≤ 99 := by omega
    have hqb := hP.bound
    have hsl : sts.length ≤ 1600 := by rw [hst.length]; omega
    clear F9 N0 F N
    k_steps
    refine stop_out ?_
    rename_i T1 hT1 lT1 P1 hP1 FP NP lP1
    have mem4 : ∀ q ∈ tl ++ (B0 ++ fz), q ∈ (P1, tupN [.int (a : Int) ta, .ref T1] 0) :: (T1, tupN regs 0) :: (Ls, listOf sts.toArray nst) :: (Lr, listOf regs.toArray nr) :: lg := fun q hq => .tail _ (.tail _ (.tail _ (.tail _ (hlg1 q hq))))
    refine notin_states (q := (a, bs)) NP (.head _) (.tail _ (.head _)) (hbi.mono mem4) (.tail _ (.tail _ (.head _))) (hst.mono mem4) (by ktr_units) ?_
    by_cases hin : (a, bs) ∈ qs
    · rw [decide_eq_true hin]
      k_steps
      refine ret _ [] _ _ (by k_asm) (news_sub (by assumption) fun q hq => ?_) Ord.nil ⟨none, ⟨_, rfl⟩, fun b => ⟨fun h => by (cases h), fun h => absurd h (hP.round hin b)⟩⟩
      have := hlg q (by simp at hq; simp [hq])
      simp [this]
    · rw [decide_eq_false hin]
      obtain ⟨r, hr⟩ : ∃ r, rs[a]? = some r := ⟨rs[a], by simp [hlt]⟩
      obtain ⟨v, hv, hrv⟩ := hrs.get hr
      have hrk := hg.regs r (List.mem_of_getElem? hr)
      have hfo := hg.closed.2 a r hr
      have nx := fun q' => hP.next hg.regs hin (q' := q')
      obtain ⟨av, rfl⟩ := hrv.isRef
      k_steps
      cases hrv
      case goto a' g n1 t1 t2 hm =>
        have hs : stp rs (a, bs) = some (g, bs) := by simp only [stp, hr]
        have nx' := nx _ hs h4 (hfo g (by simp [follows, ends, goals]))
        have nb := nx'.bound
        rw [List.length_append, List.length_singleton] at nb
        k_steps
        rename News _ _ _ (_ :: _ :: _ :: _ :: (Ls, _) :: _) => N2
        rename (_ ∧ _ ∧ _ ∧ @LT.lt Nat _ Ls _ ∧ @LT.lt Nat _ Lr _ ∧ AllLt _ lg) => l2
        rename (_ ∧ _ ∧ @LT.lt Nat _ Ls _ ∧ @LT.lt Nat _ Lr _ ∧ AllLt _ lg) => l1
        refine tend_next (g, _, regs, nr, bs, sts ++ [.ref _], nst + 1, qs ++ [(a, bs)]) [(_, _), (_, _)] (by k_asm) (run_news N2) (Ord.cons l2.2.2.2 (Ord.cons l1.2.2 Ord.nil)) (by ((repeat refine List.forall_mem_cons.mpr ⟨rfl, ?_⟩); exact List.forall_mem_nil _)) (by (intro z hz1 hz2; repeat (first | exact fmap_off hz1 hz2 | exact rfl | exact if_neg (fun e => Bool.false_ne_true (hz2.symm.trans e)) | refine (if_neg (ne_stored hz2 (by decide +kernel))).trans ?_ | refine (if_neg (hz1 _ (.head _))).trans ?_ | refine (if_neg (hz1 _ (.tail _ (.head _)))).trans ?_ | refine (if_neg (hz1 _ (.tail _ (.tail _ (.head _))))).trans ?_ | refine (fmap_off (ps := []) (List.forall_mem_nil _) (sub_contains hz2 (by decide +kernel))).trans ?_))) ⟨⟨?_, ?_, nx'⟩, ?_⟩
        · exact (hbi.mono fun q hq => .tail _ (.tail _ hq))
        · exact sts_snoc2 hst hbi
        · simp; omega
      case jif a' r0 g n1 t1 t2 t3 hm =>
        obtain ⟨b0, hb0⟩ : ∃ b0, bs[r0]? = some b0 := ⟨bs[r0]'(by rw [h4]; exact hrk), by simp⟩
        obtain ⟨ar, nr0, tr, hv0, hm0⟩ := hbi.get hb0
        have hm0' := hlg1 _ hm0
        have hgd : bs.getD r0 false = b0 := by rw [List.getD_eq_getElem?_getD, hb0]; rfl
        cases b0 with
        | true =>
          have hs : stp rs (a, bs) = some (a + 1, bs) := by simp only [stp, hr, hgd, if_true]
          have nx' := nx _ hs h4 (hfo (a + 1) (by simp [follows, ends, goals]))
          have nb := nx'.bound
          rw [List.length_append, List.length_singleton] at nb
          k_steps
          rename News _ _ _ (_ :: _ :: _ :: _ :: (Ls, _) :: _) => N2
          rename (_ ∧ _ ∧ _ ∧ @LT.lt Nat _ Ls _ ∧ @LT.lt Nat _ Lr _ ∧ AllLt _ lg) => l2
          rename (_ ∧ _ ∧ @LT.lt Nat _ Ls _ ∧ @LT.lt Nat _ Lr _ ∧ AllLt _ lg) => l1
          refine tend_next (a + 1, _, regs, nr, bs, sts ++ [.ref _], nst + 1, qs ++ [(a, bs)]) [(_, _), (_, _)] (by k_asm) (run_news N2) (Ord.cons l2.2.2.2 (Ord.cons l1.2.2 Ord.nil)) (by ((repeat refine List.forall_mem_cons.mpr ⟨rfl, ?_⟩); exact List.forall_mem_nil _)) (by (intro z hz1 hz2; repeat (first | exact fmap_off hz1 hz2 | exact rfl | exact if_neg (fun e => Bool.false_ne_true (hz2.symm.trans e)) | refine (if_neg (ne_stored hz2 (by decide +kernel))).trans ?_ | refine (if_neg (hz1 _ (.head _))).trans ?_ | refine (if_neg (hz1 _ (.tail _ (.head _)))).trans ?_ | refine (if_neg (hz1 _ (.tail _ (.tail _ (.head _))))).trans ?_ | refine (fmap_off (ps := []) (List.forall_mem_nil _) (sub_contains hz2 (by decide +kernel))).trans ?_))) ⟨⟨?_, ?_, nx'⟩, ?_⟩
          · exact (hbi.mono fun q hq => .tail _ (.tail _ hq))
          · exact sts_snoc2 hst hbi
          · simp; omega
        | false =>
          have hs : stp rs (a, bs) = some (g, bs) := by simp only [stp, hr, hgd, Bool.false_eq_true, if_false]
          have nx' := nx _ hs h4 (hfo g (by simp [follows, ends, goals]))
          have nb := nx'.bound
          rw [List.length_append, List.length_singleton] at nb
          k_steps
          rename News _ _ _ (_ :: _ :: _ :: _ :: (Ls, _) :: _) => N2
          rename (_ ∧ _ ∧ _ ∧ @LT.lt Nat _ Ls _ ∧ @LT.lt Nat _ Lr _ ∧ AllLt _ lg) => l2
          rename (_ ∧ _ ∧ @LT.lt Nat _ Ls _ ∧ @LT.lt Nat _ Lr _ ∧ AllLt _ lg) => l1
          refine tend_next (g, _, regs, nr, bs, sts ++ [.ref _], nst + 1, qs ++ [(a, bs)]) [(_, _), (_, _)] (by k_asm) (run_news N2) (Ord.cons l2.2.2.2 (Ord.cons l1.2.2 Ord.nil)) (by ((repeat refine List.forall_mem_cons.mpr ⟨rfl, ?_⟩); exact List.forall_mem_nil _)) (by (intro z hz1 hz2; repeat (first | exact fmap_off hz1 hz2 | exact rfl | exact if_neg (fun e => Bool.false_ne_true (hz2.symm.trans e)) | refine (if_neg (ne_stored hz2 (by decide +kernel))).trans ?_ | refine (if_neg (hz1 _ (.head _))).trans ?_ | refine (if_neg (hz1 _ (.tail _ (.head _)))).trans ?_ | refine (if_neg (hz1 _ (.tail _ (.tail _ (.head _))))).trans ?_ | refine (fmap_off (ps := []) (List.forall_mem_nil _) (sub_contains hz2 (by decide +kernel))).trans ?_))) ⟨⟨?_, ?_, nx'⟩, ?_⟩
          · exact (hbi.mono fun q hq => .tail _ (.tail _ hq))
          · exact sts_snoc2 hst hbi
          · simp; omega
      case const a' c' d n1 n2 b0 t1 t2 t3 hm hm' =>
        have hs : stp rs (a, bs) = some (a + 1, bs.set d b0) := by simp only [stp, hr]
        have nx' := nx _ hs (by simpa using h4) (hfo (a + 1) (by simp [follows, ends, goals]))
        have nb := nx'.bound
        rw [List.length_append, List.length_singleton] at nb
        have hdl : d < regs.length := by rw [hr4]; exact hrk
        k_steps
        rename News _ _ _ (_ :: _ :: _ :: _ :: (Ls, _) :: _) => N2
        rename (_ ∧ _ ∧ _ ∧ @LT.lt Nat _ Ls _ ∧ @LT.lt Nat _ Lr _ ∧ AllLt _ lg) => l2
        rename (_ ∧ _ ∧ @LT.lt Nat _ Ls _ ∧ @LT.lt Nat _ Lr _ ∧ AllLt _ lg) => l1
        refine tend_next (a + 1, _, regs.set d (.ref c'), nr, bs.set d b0, sts ++ [.ref _], nst + 1, qs ++ [(a, bs)]) [(_, _), (_, _)] (by k_asm) (run_news N2) (Ord.cons l2.2.2.2 (Ord.cons l1.2.2 Ord.nil)) (by ((repeat refine List.forall_mem_cons.mpr ⟨rfl, ?_⟩); exact List.forall_mem_nil _)) (by (intro z hz1 hz2; repeat (first | exact fmap_off hz1 hz2 | exact rfl | exact if_neg (fun e => Bool.false_ne_true (hz2.symm.trans e)) | refine (if_neg (ne_stored hz2 (by decide +kernel))).trans ?_ | refine (if_neg (hz1 _ (.head _))).trans ?_ | refine (if_neg (hz1 _ (.tail _ (.head _)))).trans ?_ | refine (if_neg (hz1 _ (.tail _ (.tail _ (.head _))))).trans ?_ | refine (fmap_off (ps := []) (List.forall_mem_nil _) (sub_contains hz2 (by decide +kernel))).trans ?_))) ⟨⟨?_, ?_, nx'⟩, ?_⟩
        · exact (hbi.mono fun q hq => .tail _ (.tail _ hq)).set (n := n2) (t := t3) (by simp [hm]) d
        · exact sts_snoc2 hst hbi
        · simp; omega
      case move a' d sr n1 t1 t2 t3 hm =>
        obtain ⟨b0, hb0⟩ : ∃ b0, bs[sr]? = some b0 := ⟨bs[sr]'(by rw [h4]; exact hrk.2), by simp⟩
        obtain ⟨ar, nr0, tr, hv0, hm0⟩ := hbi.get hb0
        have hgd : bs.getD sr false = b0 := by rw [List.getD_eq_getElem?_getD, hb0]; rfl
        have hs : stp rs (a, bs) = some (a + 1, bs.set d b0) := by simp only [stp, hr, hgd]
        have nx' := nx _ hs (by simpa using h4) (hfo (a + 1) (by simp [follows, ends, goals]))
        have nb := nx'.bound
        rw [List.length_append, List.length_singleton] at nb
        have hdl : d < regs.length := by rw [hr4]; exact hrk.1
        k_steps
        rename News _ _ _ (_ :: _ :: _ :: _ :: (Ls, _) :: _) => N2
        rename (_ ∧ _ ∧ _ ∧ @LT.lt Nat _ Ls _ ∧ @LT.lt Nat _ Lr _ ∧ AllLt _ lg) => l2
        rename (_ ∧ _ ∧ @LT.lt Nat _ Ls _ ∧ @LT.lt Nat _ Lr _ ∧ AllLt _ lg) => l1
        refine tend_next (a + 1, _, regs.set d (.ref ar), nr, bs.set d b0, sts ++ [.ref _], nst + 1, qs ++ [(a, bs)]) [(_, _), (_, _)] (by k_asm) (run_news N2) (Ord.cons l2.2.2.2 (Ord.cons l1.2.2 Ord.nil)) (by ((repeat refine List.forall_mem_cons.mpr ⟨rfl, ?_⟩); exact List.forall_mem_nil _)) (by (intro z hz1 hz2; repeat (first | exact fmap_off hz1 hz2 | exact rfl | exact if_neg (fun e => Bool.false_ne_true (hz2.symm.trans e)) | refine (if_neg (ne_stored hz2 (by decide +kernel))).trans ?_ | refine (if_neg (hz1 _ (.head _))).trans ?_ | refine (if_neg (hz1 _ (.tail _ (.head _)))).trans ?_ | refine (if_neg (hz1 _ (.tail _ (.tail _ (.head _))))).trans ?_ | refine (fmap_off (ps := []) (List.forall_mem_nil _) (sub_contains hz2 (by decide +kernel))).trans ?_))) ⟨⟨?_, ?_, nx'⟩, ?_⟩
        · exact (hbi.mono fun q hq => .tail _ (.tail _ hq)).set (n := nr0) (t := tr) (.tail _ (.tail _ hm0)) d
        · exact sts_snoc2 hst hbi
        · simp; omega
      case ret a' s0 n1 t1 t2 hm =>
        obtain ⟨b0, hb0⟩ : ∃ b0, bs[s0]? = some b0 := ⟨bs[s0]'(by rw [h4]; exact hrk), by simp⟩
        obtain ⟨ar, nr0, tr, hv0, hm0⟩ := hbi.get hb0
        have hgd : regOf bs s0 = b0 := by unfold regOf; rw [List.getD_eq_getElem?_getD, hb0]; rfl
        have hco : Comes rs a (regOf bs) b0 := ⟨1, by rw [go_succ, hr]; simp [hgd]⟩
        have hs : sts.length ≤ 9000 := by omega
        k_steps
        refine ret _ (tl ++ B0) _ _ (by k_asm) (news_sub (by assumption) fun q hq => ?_) (Ord.append (hord.sub fun q hq => sub_at hq (by walk_at "sub")) oB) ⟨some b0, ⟨ar, nr0, tr, rfl, by simpa [List.append_assoc] using hm0⟩, fun b => ⟨fun h => ?_, fun h => congrArg some (comes_uniq ((hP.comes b0).mp hco) h)⟩⟩
        · have := hlg q (by simpa [List.append_assoc] using hq)
          simp [this]
        · cases h
          exact (hP.comes b0).mp hco
end Mine

namespace Mine
/-- the reel: three ints, the second a small one -/
noncomputable abbrev RC := Int × Tok × Int × Tok × Int × Tok × Nat
noncomputable abbrev reelO (c : RC) : Obj := listOf #[.int c.1 c.2.1, .int c.2.2.1 c.2.2.2.1, .int c.2.2.2.2.1 c.2.2.2.2.2.1] c.2.2.2.2.2.2
noncomputable def CtR (w : World) (f : Addr) (R : Addr) (args : List Value) (fz : Led) (dn un : Nat) (c : RC) (Post : RC → Led → Value → Prop) : Prop :=
  ∀ (dp u : Nat) (gd : Option (List Code)) (cn : Str) (cs : Scope) (ca : Addr) (ccd : Value) (cl : List (Str × Addr)) (outer : List Env) (A₀ : Around) (base h₀ : Heap) (L : Addr) (m : Str → Option Value) (news : Led) (s : Shared)
    (p : Program) (loose : List Str) (mean : ExcName → Option Value) (mg mb : Str → Option Value) (Q E : Value → Shared → Prop),
    Below A₀ base outer h₀ → Fr h₀ L s.heap m → (Mine.hp.hd.heap_39 w.params).In h₀ → News h₀ L s.heap ((R, reelO c) :: news) → Top p loose mean mg mb h₀ → cs.kind = .function → (∀ q ∈ fz, q ∈ news) → Off R news → dp + dn < recursionLimit → u + un < cLine →
    (∀ r c' tl h' tk', Fr h₀ L h' m → News h₀ L h' ((R, reelO c') :: (tl ++ news)) → Ord ((R, reelO c) :: news) tl → Post c' tl r → Q r { s with heap := h', toks := tk' }) →
    wpAny (model PySem.Challenge.rw_xm0679_01.prog w) (ktrTop dp u gd cn cs L ca ccd cl outer) (call (.ref f) args) Q E s
noncomputable def ROk (c : RC) : Prop := 0 ≤ c.2.2.1 ∧ c.2.2.1 < 1998097
theorem fmod_nat (z : Int) {k : Int} (h : 0 < k) : ∃ g : Nat, z.fmod k = (g : Int) ∧ (g : Int) < k := by
  rw [Int.fmod_eq_emod_of_nonneg _ (Int.le_of_lt h)]
  have h1 := Int.emod_nonneg z (Int.ne_of_gt h)
  have h2 := Int.emod_lt_of_pos z h
  exact ⟨(z % k).toNat, by omega, by omega⟩
theorem fmod_ok (z : Int) : 0 ≤ z.fmod 1998097 ∧ z.fmod 1998097 < 1998097 := by
  obtain ⟨g, e, h⟩ := fmod_nat z (k := 1998097) (by decide)
  rw [e]
  omega
theorem int_fm {z k : Int} {t : Tok} (h : 0 < k) : ∃ (g : Nat) (t' : Tok), Value.int (z.fmod k) t = .int (g : Int) t' ∧ (g : Int) < k := by
  obtain ⟨g, e, h2⟩ := fmod_nat z h
  exact ⟨g, t, by rw [e], h2⟩
theorem spun_ct (w : World) (R : Addr) (k : Int) (tk0 : Tok) (h0 : 0 < k) (h9 : k ≤ 99) (c : RC) (hc : ROk c) : CtR w 184 R [.ref R, .int k tk0] [] 1 40 c (fun c' tl r => tl = [] ∧ ROk c' ∧ ∃ (g : Nat) (t : Tok), r = .int (g : Int) t ∧ (g : Int) < k) := by
  obtain ⟨x, tx, y, ty, z, tz, nr⟩ := c
  intro dp un gd cn cs ca ccd cl outer A₀ base h₀ L m news s p loose mean mg mb Q E B F X N T hk hsub hoff hd hu ret
  obtain ⟨hy0, hy1⟩ := hc
  (try dsimp only at N hy0 hy1)
  have ho := off_ne hoff
  refine wpAny_call ?_
  k_dflt ktr_enter
  (try (refine gen_tk ?_; intro tk0))
  (try (rename Fr _ _ _ _ => F0; have F1 : Fr _ _ _ (fun y => List.lookup y [(Str.ofString "many", .int k tk0), (Str.ofString "reel", .ref R)]) := F0; clear F0))
  k_steps
  · exact ret _ (x, tx, y, ty, z, tz, nr) [] _ _ (by k_asm) (by k_asm) Ord.nil ⟨rfl, ⟨hy0, hy1⟩, 0, _, rfl, h0⟩
  · exact ret _ (_, _, _, _, _, _, _) [] _ _ (by k_asm) (by k_asm) Ord.nil ⟨rfl, fmod_ok _, int_fm h0⟩
section
variable {w : World} {f R : Addr} {args : List Value} {fz : Led} {dn un : Nat} {c : RC} {Post : RC → Led → Value → Prop}
  {dp u : Nat} {gd : Option (List Code)} {cn : Str} {cs : Scope} {ca : Addr} {ccd : Value} {cl : List (Str × Addr)} {outer : List Env} {A₀ : Around} {base h₀ : Heap} {L : Addr} {m : Str → Option Value} {news : Led} {s : Shared}
  {p : Program} {loose : List Str} {mean : ExcName → Option Value} {mg mb : Str → Option Value} {Q E : Value → Shared → Prop}
theorem ctR_use (C : CtR w f R args fz dn un c Post) (B : Below A₀ base outer h₀) (F : Fr h₀ L s.heap m) (X : (Mine.hp.hd.heap_39 w.params).In h₀) (N : News h₀ L s.heap ((R, reelO c) :: news)) (T : Top p loose mean mg mb h₀) (hk : cs.kind = .function) (hs : ∀ q ∈ fz, q ∈ news)
    (o1 : Off R news) (hd : dp + dn < recursionLimit) (hu : u + un < cLine)
    (ret : ∀ r c' tl h' tk', Fr h₀ L h' m → News h₀ L h' ((R, reelO c') :: (tl ++ news)) → Ord ((R, reelO c) :: news) tl → Post c' tl r → Q r { s with heap := h', toks := tk' }) :
    wpAny (model PySem.Challenge.rw_xm0679_01.prog w) (ktrTop dp u gd cn cs L ca ccd cl outer) (call (.ref f) args) Q E s :=
  C _ _ _ _ _ _ _ _ _ _ _ _ _ _ _ _ _ _ _ _ _ _ _ B F X N T hk hs o1 hd hu ret
end
theorem row_end1 {h₀ h : Heap} {L D R : Addr} {o oc oc0 : Obj} {news : Led} (N : News h₀ L h ((D, o) :: (R, oc) :: news)) (l : @LT.lt Nat _ R D ∧ AllLt D news) : News h₀ L h ((R, oc) :: ([(D, o)] ++ news)) ∧ Ord ((R, oc0) :: news) [(D, o)] :=
  ⟨news_sub N fun q hq => by
    exact sub_at hq (by walk_at "sub"), Ord.cons l Ord.nil⟩
theorem row_end2 {h₀ h : Heap} {L D D2 R : Addr} {o o2 oc oc0 : Obj} {news : Led} (N : News h₀ L h ((D, o) :: (D2, o2) :: (R, oc) :: news)) (l2 : @LT.lt Nat _ R D2 ∧ AllLt D2 news) (l : @LT.lt Nat _ D2 D ∧ @LT.lt Nat _ R D ∧ AllLt D news) : News h₀ L h ((R, oc) :: ([(D, o), (D2, o2)] ++ news)) ∧ Ord ((R, oc0) :: news) [(D, o), (D2, o2)] :=
  ⟨news_sub N fun q hq => by
    exact sub_at hq (by walk_at "sub"), Ord.cons l.2 (Ord.cons l2 Ord.nil)⟩
theorem row_ct (w : World) (R : Addr) (k : Nat) (tk0 : Tok) (b : Bool) (h0 : 2 ≤ k) (h9 : k ≤ 9) (c : RC) (hc : ROk c) : CtR w 191 R [.ref R, .int (k : Int) tk0, .bool b] [] 3 80 c (fun c' tl x => ROk c' ∧ ∃ r, RowIn tl x r ∧ regOk r ∧ (∀ g ∈ goals r, g < k) ∧ (isGoto r = true → b = true)) := by
  intro dp un gd cn cs ca ccd cl outer A₀ base h₀ L m news s p loose mean mg mb Q E B F X N T hk hsub hoff hd hu ret
  have ho := off_ne hoff
  refine wpAny_call ?_
  k_dflt ktr_enter
  (try (refine gen_tk ?_; intro tk0))
  (try (rename Fr _ _ _ _ => F0; have F1 : Fr _ _ _ (fun y => List.lookup y [(Str.ofString "may_jump", .bool b), (Str.ofString "many", .int (k : Int) tk0), (Str.ofString "reel", .ref R)]) := F0; clear F0))
  k_steps
  repeat' (refine stop_out ?_; k_dflt (refine' ctR_use (spun_ct _ _ _ _ ?p0 ?p9 _ ?pc) ?k0 ?k1 ?k2 ?N ?k4 ?k5 ?ks ?o1 ?k8 ?k9 ?_; (case N => k_asm); (case p0 => first | decide | omega); (case p9 => first | decide | omega); (case pc => assumption); (case k0 => assumption); (case k1 => k_asm); (case k2 => k_asm); (case k4 => k_asm); (case k5 => first | exact rfl | assumption); (case ks => exact (fun q hq => nomatch hq)); (case o1 => first | assumption | exact fun p hp => by simp at hp); (case k8 => ktr_room); (case k9 => ktr_units)); rintro r' c' tl' h' tk' F' N' o' ⟨e9, hc', g', t', e8, hg'⟩; subst e9; subst e8; (try dsimp only [List.nil_append] at N'); k_steps)
  all_goals (rename News _ _ _ ((_, _) :: _) => N9)
  all_goals (first
    | (obtain ⟨n9, o9⟩ := row_end1 (oc0 := reelO c) N9 (by assumption)
       exact ret _ _ [(_, _)] _ _ (by k_asm) n9 o9 ⟨by assumption, .goto _, .goto (.head _), trivial, fun g hg => by (simp only [goals, List.mem_singleton] at hg; subst hg; omega), fun _ => by first | rfl | assumption⟩)
    | (obtain ⟨n9, o9⟩ := row_end1 (oc0 := reelO c) N9 (by assumption)
       exact ret _ _ [(_, _)] _ _ (by k_asm) n9 o9 ⟨by assumption, .jif _ _, .jif (.head _), by (simp only [regOk]; omega), fun g hg => by (simp only [goals, List.mem_singleton] at hg; subst hg; omega), fun h => by (simp [isGoto] at h)⟩)
    | (obtain ⟨n9, o9⟩ := row_end1 (oc0 := reelO c) N9 (by assumption)
       exact ret _ _ [(_, _)] _ _ (by k_asm) n9 o9 ⟨by assumption, .move _ _, .move (.head _), by (simp only [regOk]; omega), fun g hg => by (simp [goals] at hg), fun h => by (simp [isGoto] at h)⟩)
    | (obtain ⟨n9, o9⟩ := row_end1 (oc0 := reelO c) N9 (by assumption)
       exact ret _ _ [(_, _)] _ _ (by k_asm) n9 o9 ⟨by assumption, .ret _, .ret (.head _), by (simp only [regOk]; omega), fun g hg => by (simp [goals] at hg), fun h => by (simp [isGoto] at h)⟩)
    | (obtain ⟨n9, o9⟩ := row_end2 (oc0 := reelO c) N9 (by assumption) (by assumption)
       exact ret _ _ [(_, _), (_, _)] _ _ (by k_asm) n9 o9 ⟨by assumption, .const _ _, .const (.head _) (.tail _ (.head _)), by (simp only [regOk]; omega), fun g hg => by (simp [goals] at hg), fun h => by (simp [isGoto] at h)⟩)
    | fail "row")
end Mine

namespace Mine
theorem ints_readsA {h : Heap} {vs : List Value} {ns : List Int} (k : IntsAre vs ns) : ReadsAll h vs (ns.map PyData.int) [] := by
  induction k with
  | nil => exact .nil
  | cons _ _ _ ih => exact ReadsAll.cons (Reads.int _ _) ih
theorem ne_script {prog : Program} {w : World} {A : Around} {E : Value → Shared → Prop} {s : Shared} {h₀ : Heap} {L : Addr} {news : Led} {l b : Addr} {vs : List Value} {ns : List Int} {n2 : Nat} {Q : Value → Shared → Prop} (N : News h₀ L s.heap news) (hl : s.heap.IsList l vs.toArray) (hb : (b, listOf #[] n2) ∈ news) (hi : IntsAre vs ns) (hu : A.units + 64 < cLine)
    (h : Q (.bool (!ns.isEmpty)) s) : wpAny (model prog w) A (compareOp .NotEq (.ref l) (.ref b)) Q E s := by
  obtain ⟨o, ho, hc, n, hd⟩ := hl
  refine ne_dataH (da := .list (ns.map PyData.int)) (db := .list []) (Reads.list ho hc hd (by simpa using ints_readsA hi)) (Reads.list (N _ hb).1 rfl rfl ReadsAll.nil) (ke_shaped_ints _) (by decide) hu ?_
  simp only [PyData.eqv, eqvAll_nil]
  simpa using h
theorem reel_call {w : World} {l : Addr} {vs : List Value} {ns : List Int}
  {dp u : Nat} {gd : Option (List Code)} {cn : Str} {cs : Scope} {ca : Addr} {ccd : Value} {cl : List (Str × Addr)} {outer : List Env} {A₀ : Around} {base h₀ : Heap} {L : Addr} {m : Str → Option Value} {news : Led} {s : Shared}
  {p : Program} {loose : List Str} {mean : ExcName → Option Value} {mg mb : Str → Option Value} {Q E : Value → Shared → Prop}
  (hl : h₀.IsList l vs.toArray) (hi : IntsAre vs ns) (hn : ns.length ≤ 63) (B : Below A₀ base outer h₀) (F : Fr h₀ L s.heap m) (X : (Mine.hp.hd.heap_39 w.params).In h₀) (N : News h₀ L s.heap news) (T : Top p loose mean mg mb h₀) (hk : cs.kind = .function)
    (hd : dp + 1 < recursionLimit) (hu : u + 80 < cLine)
    (ret : ∀ R c h' tk', Fr h₀ L h' m → News h₀ L h' ((R, reelO c) :: news) → (∀ p ∈ news, p.1 < R) → ROk c → Q (.ref R) { s with heap := h', toks := tk' }) :
    wpAny (model PySem.Challenge.rw_xm0679_01.prog w) (ktrTop dp u gd cn cs L ca ccd cl outer) (call (.ref 177) [.ref l]) Q E s := by
  have hvl : vs.length ≤ 63 := by have := hi.length; omega
  refine wpAny_call ?_
  k_dflt ktr_enter
  (try (refine gen_tk ?_; intro tk0))
  (try (rename Fr _ _ _ _ => F0; have F1 : Fr _ _ _ (fun y => List.lookup y [(Str.ofString "script", .ref l)]) := F0; clear F0))
  k_steps
  rename_i g9 L9 h9 FG9 B9 X9 T9 l8 h8 F8 N8 l1
  have lifted : g9.IsList l vs.toArray := hl.at fun o e => FG9.keep _ _ e
  refine ne_script N8 (lifted.at fun o e => F8.keep _ _ e) (.head _) hi (by ktr_units) ?_
  have N9 := news_sub N8 fun q hq => List.Mem.tail _ hq
  clear N8 hl
  cases hi with
  | nil =>
    k_steps
    all_goals (rename News _ _ _ (_ :: news) => N5)
    all_goals (rename (∀ p ∈ news, p.1 < _) => l5)
    all_goals exact ret _ (_, _, _, _, _, _, _) _ _ (by k_asm) N5 l5 (by first | exact fmod_ok _ | (refine ⟨?_, ?_⟩ <;> (dsimp only; decide)))
  | cons x t hi' =>
    k_steps
    all_goals (rename News _ _ _ (_ :: news) => N5)
    all_goals (rename (∀ p ∈ news, p.1 < _) => l5)
    all_goals exact ret _ (_, _, _, _, _, _, _) _ _ (by k_asm) N5 l5 (by first | exact fmod_ok _ | (refine ⟨?_, ?_⟩ <;> (dsimp only; decide)))
end Mine

namespace Mine
open Sem (wp) in
open AutoSeq1 (wpAny_loadPart') in
theorem meets_enum_tup (l : Addr) (items : Array Value) (n : Nat) (dct : Option Addr) (sl : Array (Option Value)) :
    Meets (Builtin.«enumerate.__new__» ⟨[.type "enumerate", .ref l], []⟩) (fun _ R s => s.heap.get? l = some { cls := .type "tuple", dict := dct, data := .seq items n, slots := sl } ∧
      R (.ok (.ret (.ref (s.heap.push { cls := .type "tuple_iterator", data := .fields #[.ref l, .int 0 0] }).objs.size)))
        { s with heap := (s.heap.push { cls := .type "tuple_iterator", data := .fields #[.ref l, .int 0 0] }).push { cls := .type "enumerate", data := .fields #[.none, .bool false, .ref s.heap.objs.size, rawInt 0, .none, .none] } }) :=
  .of_wp fun prog w A R s h => by
    obtain ⟨hp, g, d, tk, os⟩ := s; obtain ⟨hl, h⟩ := h
    have hsub := sub_enumerate
    have hL : Heap.IsTuple (Shared.heap ⟨hp, g, d, tk, os⟩) l items := ⟨_, hl, rfl, n, rfl⟩
    wp_walk using wpAny_loadPart' hl
    refine wpAny_stack_any fun st => wpAny_pure ?_
    split
    · rename_i c _ _ _ _ _
      cases (c == Value.type "enumerate")
      · wp_walk using wpAny_loadPart' hl, wpAny_pyIter_tuple hL
        exact ⟨_, rfl, h⟩
      · wp_walk using wpAny_loadPart' hl, wpAny_pyIter_tuple hL
        exact ⟨_, rfl, h⟩
    · wp_walk using wpAny_loadPart' hl, wpAny_pyIter_tuple hL
      exact ⟨_, rfl, h⟩
section
variable {prog : Program} {w : World} {A : Around} {E : Value → Shared → Prop} {s : Shared}
theorem call_enum_tup {l : Addr} {items : Array Value} {Q : Value → Shared → Prop} (hL : s.heap.IsTuple l items)
    (h : ∀ h', IsEnum h' (s.heap.objs.size + 1) s.heap.objs.size 0 .none → h'.IsTupleIter s.heap.objs.size l 0 → h'.objs.size = s.heap.objs.size + 2 →
      (∀ b o, s.heap.get? b = some o → h'.get? b = some o) → Q (.ref (s.heap.objs.size + 1)) { s with heap := h' }) :
    wpAny (model prog w) A (call (.type "enumerate") [.ref l]) Q E s := by
  obtain ⟨⟨c, dct, dt, sl⟩, hl, hc, n, hd⟩ := hL
  replace hc : c = .type "tuple" := hc
  replace hd : dt = .seq items n := hd
  subst hc hd
  refine callType_new F.called_enumerate (by decide) (F.typeCall_enumerate_1 _) (F.newCall_enumerate_1 _) (fun obj => F.args_object_init_2 obj _) F.entry_enumerate_new
    (meets_enum_tup l items n dct sl) ⟨hl, ?_⟩
  have hz : (s.heap.push { cls := .type "tuple_iterator", data := .fields #[.ref l, .int 0 0] }).objs.size = s.heap.objs.size + 1 := Heap.size_push ..
  show _ ∧ _
  rw [hz]
  have he : IsEnum ((s.heap.push { cls := .type "tuple_iterator", data := .fields #[.ref l, .int 0 0] }).push
      { cls := .type "enumerate", data := .fields #[.none, .bool false, .ref s.heap.objs.size, rawInt 0, .none, .none] }) (s.heap.objs.size + 1) s.heap.objs.size 0 .none := by
    have := Heap.get?_push_size (s.heap.push { cls := .type "tuple_iterator", data := .fields #[.ref l, .int 0 0] })
      (o := { cls := .type "enumerate", data := .fields #[.none, .bool false, .ref s.heap.objs.size, rawInt 0, .none, .none] }) rfl
    rw [hz] at this; exact this
  refine ⟨⟨_, he, rfl⟩, h _ he ⟨_, Heap.get?_push_of_some _ (Heap.get?_push_size _ rfl), rfl, rfl⟩ (by rw [Heap.size_push, hz]) fun b o x => Heap.get?_push_of_some _ (Heap.get?_push_of_some _ x)⟩
end
section
variable {prog : Program} {w : World} {A : Around} {E : Value → Shared → Prop} {s : Shared} {h₀ : Heap} {L : Addr} {m : Str → Option Value} {env : Env}
theorem from_enum_tup {ct elt : Expr} {scope : Scope} {cl : List (Str × Addr)} {Q : Value → Shared → Prop} {xa xb : Str} {pa pb tp : Pos} {kk : Nat} {l : Addr} {lo : Obj} {ys : List Value} {n2 : Nat} {news : List (Addr × Obj)} (G : Nat → List Value → Prop)
    (hh : A.handled = none) (F : Fr h₀ L s.heap m) (N : News h₀ L s.heap news) (hm : (l, lo) ∈ news) (hc : lo.cls = .type "tuple") (hd : lo.data = .seq ys.toArray n2) (hsz : ys.length ≤ sizeLine)
    (la : scope.names.lookup xa = some .local) (lb : scope.names.lookup xb = some .local) (hk : scope.kind = .function) (hne : xa ≠ xb) (h0 : G 0 [])
    (turn : ∀ g, CompTurn prog w A h₀ L m env ct elt scope cl { s with heap := g } news (fun i m' => ∃ t y, ys[i]? = some y ∧ m' xa = some (.int (i : Int) t) ∧ m' xb = some y) G ys.length)
    (fin : ∀ D h tk zs, Fr h₀ L h m → News h₀ L h ((D, lst zs) :: news) → (∀ p ∈ news, p.1 < D) → G ys.length zs → Q (.ref D) { s with heap := h, toks := tk }) :
    wpAny (model prog w) A (call (.type "enumerate") [.ref l]) (fun xv s₁ => wpAny (model prog w) A (pyIter xv) (CompFrom prog w A h₀ L m env ct elt (.Tuple [.Name xa pa, .Name xb pb] kk tp) scope cl Q) E s₁) E s := by
  have hax := N _ hm
  have hl : s.heap.IsTuple l ys.toArray := ⟨lo, hax.1, hc, n2, hd⟩
  have hlt : l < s.heap.objs.size := Heap.lt_size hax.1
  have hLs : L < s.heap.objs.size := F.ns.lt
  refine call_enum_tup hl fun h' hE hI hsz' hk' => ?_
  refine wpAny_pyIter_enum hE ?_
  have D := draws_tuple (prog := prog) (w := w) (A := A.in1) hh s.heap.objs.size l (Nat.ne_of_lt hlt) ys.toArray
  have W0 := WalksT.enumerateD D (s.heap.objs.size + 1) (Nat.succ_ne_self _) (by
    intro hb
    have hb' : s.heap.objs.size + 1 = s.heap.objs.size ∨ s.heap.objs.size + 1 = l := by simpa using hb
    rcases hb' with e | e
    · exact Nat.succ_ne_self _ e
    · exact ktu_ne 1 hlt e.symm) (by simp)
  have W := KTurns.ofWalksU (elts := [.Name xa pa, .Name xb pb]) (k := kk) (pos := tp) W0.toU
  refine ⟨_, _, _, _, _, _, _, news, fun i m' => ∃ t y, ys[i]? = some y ∧ m' xa = some (.int (i : Int) t) ∧ m' xb = some y, G, rfl, W, fun s Q E st q => (by obtain ⟨old, he⟩ := st.1; exact wpAny_pyIter_enum he q), by simpa using hsz,
    ⟨⟨_, hE⟩, hI, hl.at fun o e => hk' l o e⟩, ?_, F.keeps hk', N.grown hk', ?_, ?_, ?_, ?_, h0, by simpa using turn h', ?_⟩
  · intro b hb
    have hb' : b = s.heap.objs.size + 1 ∨ b = s.heap.objs.size ∨ b = l := by simpa using hb
    rw [hsz']
    rcases hb' with rfl | rfl | rfl
    · exact Nat.add_lt_add_left (by decide) _
    · exact Nat.lt_add_of_pos_right (by decide)
    · exact Nat.lt_of_lt_of_le hlt (Nat.le_add_right _ _)
  · intro hI'
    have hb' : L = s.heap.objs.size + 1 ∨ L = s.heap.objs.size := by simpa using hI'
    rcases hb' with e | e
    · exact ktu_ne 1 hLs e
    · exact Nat.ne_of_lt hLs e
  · intro b hb
    have hb' : b = s.heap.objs.size + 1 ∨ b = s.heap.objs.size := by simpa using hb
    rcases hb' with rfl | rfl
    · exact ktu_new F (Nat.le_add_right _ _)
    · exact ktu_new F (Nat.le_refl _)
  · intro p hp hI'
    have hb' : p.1 = s.heap.objs.size + 1 ∨ p.1 = s.heap.objs.size := by simpa using hI'
    have hlp := Heap.lt_size (N p hp).1
    rcases hb' with e | e
    · exact ktu_ne 1 hlp e
    · exact Nat.ne_of_lt hlp e
  · intro i v C m₁ s' Q' E' hP hn h
    obtain ⟨T, vals, rfl, ⟨t, y, hy, rfl⟩, hT⟩ := hP
    refine binds_pair (cl := cl) (PP := fun i a b => ∃ t, a = .int (i : Int) t ∧ ys[i]? = some b) hh la lb hk hne i _ C m₁ s' Q' E' ⟨T, _, _, rfl, hT, t, rfl, by simpa using hy⟩ hn ?_
    rintro h'' tk m' hn' ⟨a, b, ⟨t', rfl, hy'⟩, e1, e2⟩ hk''
    exact h h'' tk m' hn' ⟨t', b, hy', e1, e2⟩ hk''
  · intro D' h'' tk zs F' N' lt hG
    exact fin D' h'' tk zs F' N' lt (by simpa using hG)
end
end Mine

namespace Mine
section
variable {prog : Program} {w : World} {A : Around} {E : Value → Shared → Prop} {s : Shared} {h₀ : Heap} {L : Addr} {m : Str → Option Value} {news : Led} {env : Env} {scope : Scope} {cl : List (Str × Addr)} {C : Addr}
theorem row_goto1 {N : Led} {v : Value} {r : Row} (h : RowIn N v r) : ∃ a t ws n, v = .ref a ∧ (a, tupN (.str (headS r) t :: ws) n) ∈ N ∧ ws.length ≤ 2 ∧ (isGoto r = true → ∃ (g : Nat) (u : Tok), r = .goto g ∧ ws[0]? = some (.int (g : Int) u)) := by
  cases h with
  | goto h => exact ⟨_, _, _, _, rfl, h, by simp, fun _ => ⟨_, _, rfl, rfl⟩⟩
  | jif h => exact ⟨_, _, _, _, rfl, h, by simp, fun h => by simp [isGoto] at h⟩
  | const h _ => exact ⟨_, _, _, _, rfl, h, by simp, fun h => by simp [isGoto] at h⟩
  | move h => exact ⟨_, _, _, _, rfl, h, by simp, fun h => by simp [isGoto] at h⟩
  | ret h => exact ⟨_, _, _, _, rfl, h, by simp, fun h => by simp [isGoto] at h⟩
theorem fall_turn {xa xb : Str} {p1 p2 p3 p4 p5 p6 p7 p8 p9 p10 p11 p12 p13 p14 : Pos} {k k2 k3 k4 : Nat} {fz : Led} {ys : List Value} {rs : List Row} {s₀ : Shared} (hrs : RowsIn fz ys rs) (hs : ∀ q ∈ fz, q ∈ news) (hno : ∀ i g : Nat, rs[i]? = some (.goto g) → g ≠ i + 1)
    (hk : scope.kind = .function) (hla : scope.names.lookup xa = some .local) (hlb : scope.names.lookup xb = some .local) (hda : (xa == ("__debug__" : Str)) = false) (hdb : (xb == ("__debug__" : Str)) = false) :
    CompTurn prog w A h₀ L m env (.BoolOp .And [.Compare (.Subscript (.Name xb p1) (.Constant (.int ((0 : Nat) : Int)) k p2) p3) [.Eq] [.Constant (.str (Str.ofString "goto")) k2 p4] p5,
        .Compare (.Subscript (.Name xb p6) (.Constant (.int ((1 : Nat) : Int)) k3 p7) p8) [.Eq] [.BinOp (.Name xa p9) .Add (.Constant (.int 1) k4 p10) p11] p12] p13) (.Name xa p14) scope cl s₀ news
      (fun i m' => ∃ t y, ys[i]? = some y ∧ m' xa = some (.int (i : Int) t) ∧ m' xb = some y) (fun i zs => zs = []) ys.length := by
  rintro i zs C oC m₂ h tk E' hi ⟨ti, y, hy, e0, e1⟩ hG hC F N
  have hn : h.Ns C m₂ := hC.ns (N _ (.head _)).1
  have N' : News h₀ L h news := fun q hq => N q (.tail _ hq)
  obtain ⟨r, hr⟩ : ∃ r, rs[i]? = some r := ⟨rs[i]'(by rw [← hrs.length]; exact hi), List.getElem?_eq_getElem _⟩
  obtain ⟨v', hv', hrv⟩ := hrs.get hr
  obtain rfl : v' = y := by rw [hy] at hv'; cases hv'; rfl
  obtain ⟨a, t, ws, n, rfl, hm, hw, hg⟩ := row_goto1 hrv
  refine isTrue_and (wpAny_isTrue_Compare1 (sub_row (j := 0) N' hn e1 (hs _ hm) hk hlb hdb rfl (by simp; omega) fun tk2 => wpAny_Constant_str (eq_str (wpAny_truthy_bool ?_))))
  rw [goto_head]
  cases hgo : isGoto r with
  | false =>
    simp only [Bool.false_eq_true, if_false]
    exact ⟨h, _, rfl, Kp.refl _, fun _ => hG, fun h => h.elim⟩
  | true =>
    obtain ⟨g, u, rfl, hx⟩ := hg hgo
    rw [if_pos rfl]
    refine isTrue_and (wpAny_isTrue_Compare1 (sub_row (j := 1) N' hn e1 (hs _ hm) hk hlb hdb (by simpa using hx) (by simp; omega) fun tk3 => wpAny_BinOp (ldVarK (by exact hn) e0 (wpAny_Constant_int (PyProof.Rows.add_int (PyProof.Rows.eq_int (wpAny_truthy_bool ?_)))) (by exact hk) (lookup_relabel_local hla) hda)))
    have hne : ((g : Int) == (i : Int) + 1) = false := beq_eq_false_iff_ne.mpr fun e => hno i g hr (by omega)
    rw [hne]
    simp only [Bool.false_eq_true, if_false]
    exact ⟨h, _, rfl, Kp.refl _, fun _ => hG, fun h => h.elim⟩
end
end Mine

namespace Mine
end Mine
-- MACROS
local macro_rules | `(tactic| passes_own) => `(tactic| with_reducible assumption)
local macro_rules | `(tactic| walk_at "compareOp NotEq ref ref") => `(tactic| (k_here; (with_reducible show wpAny _ _ (compareOp CmpOp.NotEq (Value.ref _) (Value.ref _)) _ _ _); refine stop_in ?_))
local macro_rules | `(tactic| walk_at "eval ListComp") => `(tactic| (k_here; refine stop_in ?_))
local macro_rules | `(tactic| walk_at "call builtin:list.append") => `(tactic| (k_here; refine stop_in ?_))
local macro_rules | `(tactic| walk_at "pyIter ref") => `(tactic| (k_here; (with_reducible show wpAny _ _ (pyIter (Value.ref _)) (CompFrom _ _ _ _ _ _ _ _ _ _ _ _ _) _ _); refine stop_in ?_))
-- END
namespace Mine
theorem gen_E {M : Model} {A : Around} {body : List Stmt} {env : Env} {Q : Flow → Shared → Prop} {E : Value → Shared → Prop} {s : Shared} (hp : PassesOwn M A env E) (h : ∀ (E' : Value → Shared → Prop), PassesOwn M A env E' → wpAny M A (execs body env) Q E' s) : wpAny M A (execs body env) Q E s := h E hp
theorem k2 (g : Nat) : (2 : Int) + (g : Int) = ((2 + g : Nat) : Int) := by omega
theorem good_of {rs : List Row} {g s : Nat} (hl : rs.length = g + 1) (h : ∀ r ∈ rs, regOk r ∧ ∀ g' ∈ goals r, g' < 2 + g) (hf : rs.countP isGoto ≤ 2) (hs : s < 4) : Good (rs ++ [.ret s]) where
  closed := by
    refine ⟨by simp, fun i r hr j hj => ?_⟩
    rw [List.length_append, List.length_singleton, hl]
    have hi := (List.getElem?_eq_some_iff.mp hr).1
    rw [List.length_append, List.length_singleton, hl] at hi
    by_cases e : i < rs.length
    · rw [List.getElem?_append_left e] at hr
      have hg := (h r (List.mem_of_getElem? hr)).2
      rcases List.mem_append.mp hj with h1 | h1
      · split at h1
        · simp at h1
        · rw [List.mem_singleton.mp h1]; omega
      · have := hg j h1
        omega
    · have e2 : i = rs.length := by omega
      subst e2
      have : Row.ret s = r := by simpa using hr
      subst this
      simp [follows, ends, goals] at hj
  few := by simpa [List.countP_append, List.countP_cons, isGoto] using hf
  regs := fun r hr => by
    rcases List.mem_append.mp hr with h1 | h1
    · exact (h r h1).1
    · rw [List.mem_singleton.mp h1]; exact hs
theorem run_ne {prog : Program} {w : World} {A : Around} {E : Value → Shared → Prop} {s : Shared} {h₀ : Heap} {L : Addr} {news n1 n2 : Led} {x y : Value} {res : Option Bool} {Q : Value → Shared → Prop} (N : News h₀ L s.heap news) (hx : RunVal n1 x res) (hy : RunVal n2 y res) (s1 : ∀ q ∈ n1, q ∈ news) (s2 : ∀ q ∈ n2, q ∈ news) (hu : A.units + 64 < cLine)
    (h : Q (.bool false) s) : wpAny (model prog w) A (compareOp .NotEq x y) Q E s := by
  cases res with
  | none =>
    obtain ⟨t1, rfl⟩ := hx
    obtain ⟨t2, rfl⟩ := hy
    refine ne_str ?_
    simpa using h
  | some b =>
    obtain ⟨a, n, t, rfl, ma⟩ := hx
    obtain ⟨a', n', t', rfl, mb⟩ := hy
    refine ne_dataH (da := boolP b) (db := boolP b) (reads_tup N (s1 _ ma) (.cons (as := []) (bs := []) (.str _ _) (.cons (as := []) (bs := []) (.bool _) .nil))) (reads_tup N (s2 _ mb) (.cons (as := []) (bs := []) (.str _ _) (.cons (as := []) (bs := []) (.bool _) .nil))) (by cases b <;> decide +kernel) (by cases b <;> decide +kernel) hu ?_
    rw [boolP_eqv]
    simpa using h
theorem off_gt {R : Addr} {l : Led} (h : ∀ p ∈ l, p.1 < R) : Off R l := fun p hp e => by
  have := h p hp
  rw [e] at this; exact Nat.lt_irrefl _ this
end Mine
set_option maxHeartbeats 16000000 in
theorem lawHolds : PySem.Challenge.rw_xm0679_01.Holds := Mine.hp.hd (by
  k_go0
  refine gen_E (by with_unfolding_all passes_own) fun Ek hEk => ?_
  have hd : (0 : Nat) + 0 < 1 := by decide
  have hu : (0 : Nat) + 0 < 1 := by decide
  rename IntsAre _ _ => hIA
  rename World => w
  rename (¬ ((63 : Nat) : Int) < _) => h63
  rename Heap.IsList (ghostOf _ _) _ _ => hIL
  rename (_ ∧ _) => l0
  rename CodeHd _ (162, 158).1 _ => hC2
  rename CodeHd _ (127, 123).1 _ => hC1
  k_steps
  refine stop_out ?_
  refine' reel_call hIL hIA (by omega) ?k0 ?k1 ?k2 ?N ?k4 ?k5 ?k8 ?k9 ?_
  case N => k_asm
  ((case k0 => assumption); (case k1 => k_asm); (case k2 => k_asm); (case k4 => k_asm); (case k5 => first | exact rfl | assumption); (case k8 => (try clear hQk); ktr_room); (case k9 => (try clear hQk); ktr_units))
  rintro R c h1 tk1 F1 N1 l1 hc
  k_steps
  refine stop_out ?_
  rename News _ _ _ ((R, _) :: _) => N2
  refine' ctR_use (spun_ct _ R 8 _ (by decide) (by decide) c hc) ?k0 ?k1 ?k2 N2 ?k4 ?k5 (fun q hq => nomatch hq) (off_gt l1) ?k8 ?k9 ?_
  ((case k0 => assumption); (case k1 => k_asm); (case k2 => k_asm); (case k4 => k_asm); (case k5 => first | exact rfl | assumption); (case k8 => (try clear hQk); ktr_room); (case k9 => (try clear hQk); ktr_units))
  rintro r2 c2 e2 h2 tk2 F2 N3 o2 ⟨rfl, hc2, g, tg, rfl, hg⟩
  (try dsimp only [List.nil_append] at N3)
  clear N2 hc
  k_steps
  refine stop_out ?_
  rename IsRange _ _ _ _ _ _ _ _ => hR
  rename Fr _ _ _ _ => F9
  rename News _ _ _ ((_, W.listOf #[] 0) :: _) => N9
  rename (R < _ ∧ _) => lR
  rename_i Lr h3 h4 F3 N3 h5 tk5 t15 u15 v15 hK5
  refine turns_range (σ := RC × List Value × Nat) (n := g + 1) (fm := [(158, tabObj #[]), (123, tabObj #[])]) (fun c => [(R, reelO c.1), (Lr, listOf c.2.1.toArray c.2.2)]) [R, Lr] (fun _ => []) [Str.ofString "turn"]
    (fun i c tl => ROk c.1 ∧ ∃ rs, RowsIn tl c.2.1 rs ∧ rs.length = i ∧ (∀ r ∈ rs, regOk r ∧ ∀ g' ∈ goals r, g' < 2 + g) ∧ rs.countP isGoto ≤ 2) (c2, [], 0) rfl ⟨_, _, rfl⟩ hR (by omega) (by omega) (fun _ => rfl) F9 ?n0 ?o1 (fun _ h => nomatch h) ⟨hc2, [], .nil, rfl, (fun _ h => nomatch h), by simp⟩ ?turn ?done
  case n0 =>
    refine news_sub N9 fun q hq => ?_
    exact sub_at hq (by walk_at "sub")
  case o1 =>
    intro d hd'
    simp only [List.mem_cons, List.not_mem_nil, or_false] at hd'
    rcases hd' with rfl | rfl
    · exact off_gt l1
    · exact off_gt fun p hp => by
        simp only [List.mem_cons, List.not_mem_nil, or_false] at hp
        rcases hp with rfl | rfl
        · exact lR.2.1
        · exact lR.2.2
  case turn =>
    rintro i t1 ⟨cr, ws, nw⟩ tl lg u h tk hi ⟨hcr, rs, hrs, hrl, hall, hfew⟩ hord hlg hoff F1 N1
    (try dsimp only at hcr hrs F1 N1)
    (try dsimp only [List.cons_append, List.nil_append] at N1)
    have q1 := hoff R (.head _)
    have q2 := hoff Lr (.tail _ (.head _))
    have hwl : ws.length ≤ 99 := by rw [hrs.length]; omega
    clear F9 N9
    k_steps
    refine stop_out ?_
    refine' ListComp_Q ?c0 ?c1 ?c2 ?c3 ?c4 ?_
    case c0 => k_asm
    case c1 => exact rfl
    case c2 => decide
    case c3 => exact rfl
    case c4 => decide
    k_steps
    refine stop_out ?_
    rename News _ _ _ ((R, _) :: (Lr, _) :: lg) => N2
    rename Fr _ _ _ _ => F2
    have hsT : ∀ q ∈ tl, q ∈ (R, reelO cr) :: (Lr, listOf ws.toArray nw) :: lg := fun q hq => .tail _ (.tail _ (hlg q (by simp [hq])))
    refine' from_list (fun i zs => zs.length = (rs.take i).countP isGoto) ?hh F2 N2 (.tail _ (.head _)) rfl rfl ?z ?lx ?hk rfl (fun g => ?t) ?_
    case hh => rfl
    case z => rw [sizeLine_eq]; omega
    case lx => rfl
    case hk => rfl
    case t => exact goto_turn hrs hsT (by rfl) (by rfl) (by decide +kernel)
    intro D hD tkD zs FD ND lD hzs
    rw [List.take_of_length_le (by rw [hrs.length]; exact Nat.le_refl _)] at hzs
    have hzl : zs.length ≤ 99 := by omega
    have ND' : News _ _ hD ((D, listOf zs.toArray zs.length) :: (R, reelO cr) :: (Lr, listOf ws.toArray nw) :: lg) := ND
    clear N2 F2 ND
    k_steps
    refine stop_out ?_
    have Nr : News _ _ hD ((R, reelO cr) :: ((D, listOf zs.toArray zs.length) :: (Lr, listOf ws.toArray nw) :: lg)) := news_sub ND' fun q hq => by
      exact sub_at hq (by walk_at "sub")
    have oR : Off R ((D, listOf zs.toArray zs.length) :: (Lr, listOf ws.toArray nw) :: lg) := off_cons (Nat.ne_of_gt (lD _ (.head _))) (off_cons (Nat.ne_of_gt lR.1) q1)
    refine' ctR_use (row_ct w R (2 + g) tk2 (decide ((zs.length : Int) < 2)) (by omega) (by omega) cr hcr) ?k0 ?k1 ?k2 Nr ?k4 ?k5 (fun q hq => nomatch hq) oR ?k8 ?k9 ?_
    ((case k0 => assumption); (case k1 => k_asm); (case k2 => k_asm); (case k4 => k_asm); (case k5 => first | exact rfl | assumption); (case k8 => (try clear hQk); ktr_room); (case k9 => (try clear hQk); ktr_units))
    rintro x c3 e3 h3' tk3 F3' N3' o3 ⟨hc3, r, hri, hro, hgl, hgb⟩
    clear Nr ND' FD
    k_steps
    refine stop_out ?_
    have N4 : News _ _ h3' ((Lr, listOf ws.toArray nw) :: (R, reelO c3) :: (e3 ++ lg)) := news_sub N3' fun q hq => by
      exact sub_at hq (by walk_at "sub")
    have oL : Off Lr ((R, reelO c3) :: (e3 ++ lg)) := off_cons (Nat.ne_of_lt lR.1) (Off.append (Ord.off o3 (.tail _ (.tail _ (.head _)))) q2)
    refine append_led F3' N4 (UpdF.head oL) (by rw [sizeLine_eq]; omega) ?_
    intro h6 F6 N6
    (try dsimp only at N6)
    clear N3' N4 F3'
    k_steps
    refine tend_next (c3, ws ++ [x], nw + 1) e3 (by k_asm) (news_sub N6 fun q hq => ?_) (o3.sub fun q hq => ?_) (fun _ h => nomatch h) (by (intro z hz1 hz2; repeat (first | exact fmap_off hz1 hz2 | exact rfl | exact if_neg (fun e => Bool.false_ne_true (hz2.symm.trans e)) | refine (if_neg (ne_stored hz2 (by decide +kernel))).trans ?_ | refine (if_neg (hz1 _ (.head _))).trans ?_ | refine (if_neg (hz1 _ (.tail _ (.head _)))).trans ?_ | refine (if_neg (hz1 _ (.tail _ (.tail _ (.head _))))).trans ?_ | refine (fmap_off (ps := []) (List.forall_mem_nil _) (sub_contains hz2 (by decide +kernel))).trans ?_))) ⟨hc3, rs ++ [r], (hrs.mono fun q hq => ?_).snoc (hri.mono fun q hq => ?_), ?_, ?_, ?_⟩
    · exact sub_at hq (by walk_at "sub")
    · exact sub_at hq (by walk_at "sub")
    · exact List.mem_append_right _ hq
    · exact List.mem_append_left _ hq
    · simp [hrl]
    · intro r' hr'
      rcases List.mem_append.mp hr' with h | h
      · exact hall r' h
      · rw [List.mem_singleton.mp h]; exact ⟨hro, hgl⟩
    · rw [List.countP_append]
      cases hgo : isGoto r with
      | false => simp [List.countP_cons, hgo]; omega
      | true =>
        have := of_decide_eq_true (hgb hgo)
        simp [List.countP_cons, hgo]
        omega
  case done =>
    rintro ⟨cr, ws, nw⟩ tl u h tk ⟨hcr, rs, hrs, hrl, hall, hfew⟩ hord F1 N1
    (try dsimp only at hcr hrs F1 N1)
    (try dsimp only [List.cons_append, List.nil_append] at N1)
    have hwl9 : ws.length ≤ 9 := by rw [hrs.length]; omega
    have hwl : ws.length ≤ 99 := by omega
    clear F9 N9
    k_steps
    refine stop_out ?_
    have oR : Off R ((Lr, listOf ws.toArray nw) :: (tl ++ [(158, tabObj #[]), (123, tabObj #[])])) := off_cons (Nat.ne_of_gt lR.1) (Off.append (Ord.off hord (.head _)) (off_gt l1))
    have N2 : News _ _ h ((R, reelO cr) :: ((Lr, listOf ws.toArray nw) :: (tl ++ [(158, tabObj #[]), (123, tabObj #[])]))) := N1
    refine' ctR_use (spun_ct _ R 4 _ (by decide) (by decide) cr hcr) ?k0 ?k1 ?k2 N2 ?k4 ?k5 (fun q hq => nomatch hq) oR ?k8 ?k9 ?_
    ((case k0 => assumption); (case k1 => k_asm); (case k2 => k_asm); (case k4 => k_asm); (case k5 => first | exact rfl | assumption); (case k8 => (try clear hQk); ktr_room); (case k9 => (try clear hQk); ktr_units))
    rintro r4 c4 e4 h4' tk4 F4 N4 o4 ⟨rfl, hc4, s4, t4, rfl, hs4⟩
    (try dsimp only [List.nil_append] at N4)
    clear N1 N2
    have hwz : ws.length + 1 ≤ sizeLine := by rw [sizeLine_eq]; omega
    k_steps
    refine stop_out ?_
    rename_i Dp hp lp Dl hl2 Fl Nl ll Da hDa FDa NDa lDa
    (try clear Fl); (try clear Nl); (try clear F4); (try clear N4)
    refine' ct_use0 (code_ct w _ Da (ws ++ [.ref Dp]) 0 _ _ _ (.head _) (by simp; omega)) ?k0 ?k1 ?k2 NDa ?k4 ?k5 (fun q hq => hq) ?k8 ?k9 ?_
    ((case k0 => assumption); (case k1 => k_asm); (case k2 => k_asm); (case k4 => k_asm); (case k5 => first | exact rfl | assumption); (case k8 => (try clear hQk); ktr_room); (case k9 => (try clear hQk); ktr_units))
    rintro r5 e5 h5' tk5 F5 N5 o5 ⟨xa, rt, rfl, hcd, hrt⟩
    obtain ⟨tP, N5⟩ : ∃ tP, News _ _ h5' (e5 ++ ((Da, W.listOf (ws ++ [Value.ref Dp]).toArray 0) :: (Dl, W.listOf #[Value.ref Dp] 0) :: (Dp, tupN [.str (Str.ofString "return") tP, .int (s4 : Int) t4] 0) :: (R, reelO c4) :: (Lr, W.listOf ws.toArray nw) :: (tl ++ [(158, tabObj #[]), (123, tabObj #[])]))) := ⟨_, N5⟩
    obtain ⟨oP, hoP⟩ : ∃ oP, oP = tupN [.str (Str.ofString "return") tP, .int (s4 : Int) t4] 0 := ⟨_, rfl⟩
    obtain ⟨B1, hB1⟩ : ∃ B1 : Led, B1 = e5 ++ ((Dp, oP) :: tl) := ⟨_, rfl⟩
    have N6 := news_sub (b := tabs (none, none) ++ B1) N5 (by
      rw [hB1, hoP]
      intro q hq
      simp only [tabs, tA, tB, List.mem_cons, List.mem_append, List.not_mem_nil, or_false] at hq ⊢
      rcases hq with (h | h) | h | h | h <;> simp [h])
    have hRS : RowsIn B1 (ws ++ [.ref Dp]) (rs ++ [.ret s4]) := by
      rw [hB1, hoP]
      exact (hrs.mono fun q hq => sub_at hq (by walk_at "sub")).snoc (.ret (n := 0) (t1 := tP) (t2 := t4) (by simp))
    have hlt : ∀ q ∈ tl ++ [(158, tabObj #[]), (123, tabObj #[])], q.1 < Dp := fun q hq => tb_ltOf lp.2.2 q hq
    have p1 : Off 123 B1 := by
      rw [hB1]
      exact Off.append (Ord.off (o := tabObj #[]) o5 (by simp)) (off_cons (Nat.ne_of_gt (hlt (123, tabObj #[]) (by simp))) (Ord.off (o := tabObj #[]) hord (by simp)))
    have p2 : Off 158 B1 := by
      rw [hB1]
      exact Off.append (Ord.off (o := tabObj #[]) o5 (by simp)) (off_cons (Nat.ne_of_gt (hlt (158, tabObj #[]) (by simp))) (Ord.off (o := tabObj #[]) hord (by simp)))
    have hGd : Good (rs ++ [.ret s4]) := good_of hrl hall hfew (by omega)
    have hcd1 : CodeIs w B1 xa rt := hcd.mono fun q hq => by rw [hB1]; simp [hq]
    have hrt1 : (rt, tupN (ws ++ [.ref Dp]) 0) ∈ B1 := by rw [hB1]; simp [hrt]
    (try clear N5); (try clear NDa); (try clear FDa); (try clear hcd); (try clear hrt); (try clear F1)
    k_steps
    refine stop_out ?_
    rename News _ _ _ _ => NA
    refine' ctM_use (pruned_ct w B1 xa rt (ws ++ [.ref Dp]) 0 (rs ++ [.ret s4]) hcd1 hrt1 hRS (by simp; omega) hGd (none, none) ⟨fun _ _ e => (by cases e), fun _ _ e => (by cases e)⟩) ?k0 ?k1 ?k2 NA ?k4 ?k5 (fun q hq => hq) p1 p2 hC1 hC2 ?k8 ?k9 ?_
    ((case k0 => assumption); (case k1 => k_asm); (case k2 => k_asm); (case k4 => k_asm); (case k5 => first | exact rfl | assumption); (case k8 => (try clear hQk); ktr_room); (case k9 => (try clear hQk); ktr_units))
    rintro r6 c6 e6 h6' tk6 F6 N7 o6 ⟨xf, rf, vsf, nf, q, iq, rfl, hcf, hrf, hqr, htk6, hPr, hFx⟩
    obtain ⟨B2, hB2⟩ : ∃ B2 : Led, B2 = e6 ++ B1 := ⟨_, rfl⟩
    rw [← hB2] at N7 hcf hqr htk6
    have s1 : ∀ z ∈ B1, z ∈ B2 := fun z hz => by rw [hB2]; exact List.mem_append_right _ hz
    have hrf2 : (rf, tupN vsf nf) ∈ B2 := by rw [hB2]; exact List.mem_append_left _ hrf
    have hrt2 := s1 _ hrt1
    have hRS2 := hRS.mono s1
    have p12 : Off 123 B2 := by rw [hB2]; exact Off.append (Ord.off o6 (.head _)) p1
    have p22 : Off 158 B2 := by rw [hB2]; exact Off.append (Ord.off o6 (.tail _ (.head _))) p2
    have hcd2 := hcd1.mono s1
    have hql : q.length ≤ g + 2 := by have := hPr.len; simp at this; omega
    have hvl2 : vsf.length = q.length := hqr.length
    have hrl2 : (ws ++ [Value.ref Dp]).length ≤ 99 := by simp; omega
    obtain ⟨da, ka1, ka2, ka3, ka4, ka5, ka6, ka7, ta1, ta2, ta3, na, hxa1, hxa2⟩ := hcd2
    have hcf' := hcf
    obtain ⟨df, kf1, kf2, kf3, kf4, kf5, kf6, kf7, tf1, tf2, tf3, nf2, hxf1, hxf2⟩ := hcf
    clear hB2 hB1 hord o6
    (try clear NA); (try clear N6)
    k_steps
    refine stop_out ?_
    rename News _ _ _ _ => NB
    refine' ct_use0 (run_ct w B2 rf vsf nf q hrf2 hqr (by omega) hPr.good) ?k0 ?k1 ?k2 NB ?k4 ?k5 (fun z hz => List.mem_append_right _ hz) ?k8 ?k9 ?_
    ((case k0 => assumption); (case k1 => k_asm); (case k2 => k_asm); (case k4 => k_asm); (case k5 => first | exact rfl | assumption); (case k8 => (try clear hQk); ktr_room); (case k9 => (try clear hQk); ktr_units))
    rintro r7 e7 h7' tk7 F7 N8 o7 ⟨res, hv7, hr7⟩
    (try clear NB)
    k_steps
    refine stop_out ?_
    rename News _ _ _ _ => NC
    refine' ct_use0 (run_ct w B2 rt (ws ++ [.ref Dp]) 0 (rs ++ [.ret s4]) hrt2 hRS2 (by simp; omega) hGd) ?k0 ?k1 ?k2 NC ?k4 ?k5 (fun z hz => List.mem_append_right _ (List.mem_append_right _ hz)) ?k8 ?k9 ?_
    ((case k0 => assumption); (case k1 => k_asm); (case k2 => k_asm); (case k4 => k_asm); (case k5 => first | exact rfl | assumption); (case k8 => (try clear hQk); ktr_room); (case k9 => (try clear hQk); ktr_units))
    rintro r8 e8 h8' tk8 F8 N9' o8 ⟨res', hv8, hr8⟩
    have heq : res = res' := RunIs.uniq hr7 hr8 fun c => hPr.comes _ c
    subst heq
    refine run_ne N9' hv7 hv8 (fun z hz => ?_) (fun z hz => ?_) (by (try clear hQk); ktr_units) ?_
    · simp only [List.mem_append] at hz ⊢
      rcases hz with h | h <;> simp [h]
    · simp only [List.mem_append] at hz ⊢
      rcases hz with h | h <;> simp [h]
    have N10 := news_sub (b := tabs c6 ++ B2) N9' fun z hz => List.mem_append_right _ (List.mem_append_right _ hz)
    clear hr7 hr8 hv7 hv8 o7 o8
    (try clear N9'); (try clear NC)
    k_steps
    refine stop_out ?_
    rename News _ _ _ _ => NE
    have hLn : LeanQ q := lean_of hPr.good hFx
    refine' ct_use0 (grow_ct w B2 rf vsf q ⟨nf, .inr hrf2⟩ hqr (by omega) hPr.good.closed) ?k0 ?k1 ?k2 NE ?k4 ?k5 (fun z hz => List.mem_append_right _ hz) ?k8 ?k9 ?_
    ((case k0 => assumption); (case k1 => k_asm); (case k2 => k_asm); (case k4 => k_asm); (case k5 => first | exact rfl | assumption); (case k8 => (try clear hQk); ktr_room); (case k9 => (try clear hQk); ktr_units))
    rintro r9 e9 h9' tk9 F9' N11 o9 ⟨lg9, vs9, n9, ns9, rfl, m9, hi9, hnd9, hmem9⟩
    have hlen9 : vs9.length = vsf.length := by
      rw [hi9.length, hvl2]
      refine Nat.le_antisymm (nodup_len _ _ hnd9 fun x hx => reach_lt hPr.good.closed ((hmem9 x).mp hx)) ?_
      have := sub_len (l := List.range q.length) (m := ns9) List.nodup_range fun x hx => (hmem9 x).mpr (hLn.reach x (by simpa using hx))
      simpa using this
    have hv9 : vs9.length ≤ 99 := by omega
    (try clear NE)
    k_steps
    refine stop_out ?_
    rename News _ _ _ _ => NF
    have N12 := news_sub (b := tabs c6 ++ B2) NF fun z hz => List.mem_append_right _ hz
    clear NF hlen9 hv9 hmem9 hnd9 hi9 m9 o9
    refine' ListComp_Q ?c0 ?c1 ?c2 ?c3 ?c4 ?_
    case c0 => k_asm
    case c1 => exact rfl
    case c2 => decide
    case c3 => exact rfl
    case c4 => decide
    k_steps
    refine stop_out ?_
    rename News _ _ _ _ => NJ
    rename Fr _ _ _ _ => FJ
    refine' from_enum_tup (fun i zs => zs = []) ?hh FJ NJ (List.mem_append_right _ hrf2) rfl rfl ?z ?la ?lb ?hk ?hne rfl (fun g => ?t) ?_
    case hh => rfl
    case z => rw [sizeLine_eq]; omega
    case la => rfl
    case lb => rfl
    case hk => rfl
    case hne => decide
    case t => exact fall_turn hqr (fun z hz => List.mem_append_right _ hz) hLn.nofall (by rfl) (by rfl) (by rfl) (by decide +kernel) (by decide +kernel)
    intro D2 hD2 tkD2 zs2 FD2 ND2 lD2 hz2
    subst hz2
    (try clear NJ); (try clear N12)
    k_steps
    refine stop_out ?_
    rename News _ _ _ _ => NK
    refine ne_nil_F NK (.tail _ (.head _)) (.head _) (by (try clear hQk); ktr_units) ?_
    k_steps
    refine stop_out ?_
    rename News _ _ _ _ => NG
    refine' ct_use0 (lean_ct w B2 rf vsf nf q hrf2 hqr (by omega) hPr.good hLn) ?k0 ?k1 ?k2 NG ?k4 ?k5 (fun z hz => .tail _ (.tail _ (List.mem_append_right _ hz))) ?k8 ?k9 ?_
    ((case k0 => assumption); (case k1 => k_asm); (case k2 => k_asm); (case k4 => k_asm); (case k5 => first | exact rfl | assumption); (case k8 => (try clear hQk); ktr_room); (case k9 => (try clear hQk); ktr_units))
    rintro r10 e10 h10' tk10 F10 N13 o10 rfl
    have N14 := news_sub (b := tabs c6 ++ B2) N13 fun z hz => List.mem_append_right _ (.tail _ (.tail _ hz))
    (try clear NG); (try clear N13)
    k_steps
    refine stop_out ?_
    rename News _ _ _ _ => NH
    refine' ctM_use (pruned_ct w B2 xf rf vsf nf q hcf' hrf2 hqr (by omega) hPr.good c6 htk6) ?k0 ?k1 ?k2 NH ?k4 ?k5 (fun q hq => hq) p12 p22 hC1 hC2 ?k8 ?k9 ?_
    ((case k0 => assumption); (case k1 => k_asm); (case k2 => k_asm); (case k4 => k_asm); (case k5 => first | exact rfl | assumption); (case k8 => (try clear hQk); ktr_room); (case k9 => (try clear hQk); ktr_units))
    rintro r11 c11 e11 h11' tk11 F11 N15 o11 ⟨xg, rg, vsg, ng, q2, iq2, rfl, hcg, hrg, hqg, htk11, hPr2, hFx2⟩
    have e2 : q2 = q := hPr2.fix hFx
    rw [e2] at hqg
    obtain ⟨dg, kg1, kg2, kg3, kg4, kg5, kg6, kg7, tg1, tg2, tg3, ng2, hxg1, hxg2⟩ := hcg
    (try clear NH); (try clear N14)
    k_steps
    refine stop_out ?_
    rename News _ _ _ _ => NI
    refine eq_rows_tup NI (List.mem_append_right _ (List.mem_append_left _ hrg)) (List.mem_append_right _ (List.mem_append_right _ hrf2)) (hqg.mono fun z hz => List.mem_append_right _ hz) (hqr.mono fun z hz => List.mem_append_right _ (List.mem_append_right _ hz)) (by (try clear hQk); ktr_units) ?_
    rw [decide_eq_true rfl]
    k_steps)
theorem PySem.Challenge.cw_xm0679_01_holds : PySem.Challenge.rw_xm0679_01.Holds :=
  lawHolds

