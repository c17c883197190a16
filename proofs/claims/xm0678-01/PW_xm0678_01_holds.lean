import PyProof.Rows.All
import Wide.All
import OpenK.AllK
import Wide.FinOn
import PySem.Challenge.RW_xm0678_01
set_option Elab.async false
section
open PySem PySem.W PyProof.Rows
namespace Mine
local macro_rules | `(tactic| walk_at "idle 0") => `(tactic| fail)
set_option pp.deepTerms false
set_option pp.proofs false
set_option maxRecDepth 100000
set_option maxHeartbeats 8000000
section
local macro_rules | `(tactic| o_head $_) => `(tactic| assumption)
/-- the frame: the objects that the top leaves, as k_head lays them (its head is not asked for here) -/
theorem frame (h : OpenRow.Holds (OpenLaw.row PySem.Challenge.rw_xm0678_01)) : OpenRow.Holds (OpenLaw.row PySem.Challenge.rw_xm0678_01) := by
  k_head
end
theorem wellTold : PySem.Challenge.rw_xm0678_01.wellSaid = true := by kernel_rfl
abbrev hview : Program := view PySem.Challenge.pw_xm0678_01 [0, 2, 3, 5, 6, 7, 8, 9, 10, 11, 12, 13, 14, 15, 16, 17, 19, 20, 21, 22, 23, 24, 25]
abbrev hloose : List Str := [Str.ofString "RowsError", Str.ofString "SHAPES", Str.ofString "Code"]
abbrev hrow : OpenRow := OpenLaw.row PySem.Challenge.rw_xm0678_01
abbrev hadr : List Addr := [2, 3, 15, 17, 18, 20, 21, 22, 29, 30, 32, 33, 35, 36, 37, 38, 39, 40, 43, 50, 51, 52, 55, 57, 65, 66, 67, 68, 69, 71, 72, 74, 75, 76, 78, 79, 81, 82, 83, 84, 85, 86, 87, 90, 92, 93, 95, 96, 97, 99, 100, 102, 103, 104, 106, 107, 109, 110, 111, 114, 115, 116, 118, 119, 121, 122, 123, 126, 127, 128, 130, 131, 133, 134, 135, 137, 138, 140, 141, 142, 145, 146, 147, 149, 150, 152, 153, 154, 156, 157, 159, 160, 161, 163, 164, 166, 167, 168, 170, 171, 173, 174, 175, 177, 178, 180, 181, 182, 185, 186, 187, 189, 190, 192, 193, 194, 196, 197, 199, 200]
theorem hadr_eq : ∀ P, hadr = (Mine.frame.heap_1 P).map (·.1) := fun P => by kernel_rfl
noncomputable abbrev hhook : Hook := kHook Mine.frame.heap_1 hadr hadr_eq
/-- the top's run, at once by the kernel: once for each answer of the world's one row -/
abbrev hP (w : World) : Prop := (openEnds treeTable hrow.prog w 3602).map (fun s => (openSeen hview hloose (importedModules hrow.prog.main.body) (fun s => xlAt hview [] s && recOk (RowW.records hrow.toRowW) s) true s, Hook.obs hhook s)) = some (openGood hview hloose, Hook.val hhook w)
theorem hleftF : ∀ w : World, hP (w.withFollow "special-get-raises" false) := fun w => by kernel_rfl
theorem hleftT : ∀ w : World, hP (w.withFollow "special-get-raises" true) := fun w => by kernel_rfl
theorem hleft : LeftO hrow.prog hview hloose (fun s => xlAt hview [] s && recOk (RowW.records hrow.toRowW) s) (Hook.obs hhook) (Hook.val hhook) 3602 := byRow2 "special-get-raises" (P := hP) hleftF hleftT
end Mine
end
section
set_option maxRecDepth 100000
namespace Mine
open PySem PySem.Spec PySem.Calls PyProof.Rows PySem.W

section
variable {prog : Program} {w : World} {A : Around} {E : Value → Shared → Prop} {s : Shared}

theorem nextTup_item {it t : Addr} {i : Nat} {items} {x : Value} {Q : Value → Shared → Prop} (hit : s.heap.IsTupleIter it t i)
    (ht : s.heap.IsTuple t items) (hx : items[i]? = some x)
    (hQ : ∀ h', h'.IsTupleIter it t (i + 1) → Heap.SameBut it s.heap h' → Q x { s with heap := h' }) :
    wpAny (model prog w) A (Builtin.SmallTypes.nextOf (.ref it)) Q E s := by
  obtain ⟨o, ho, hc, hd⟩ := id hit
  obtain ⟨ol, hol, _, nl, hdl⟩ := ht
  unfold Builtin.SmallTypes.nextOf
  refine wpAny_bind (wpAny_callSpecial?_slot (name := Str.ofString "__next__") hit.typeIs F.slot_tuple_iterator_next
    (wpAny_call_entry F.slot_tuple_iterator_next hit.typeIs F.entry_tuple_iterator_next ?_ (F.args_tuple_iterator_next_1 _)))
  show wpAny _ _ (field (.ref it) 0 >>= _) _ _ s
  refine wpAny_bind (wpAny_field ho hd (x := .ref t) rfl ?_)
  show wpAny _ _ (if (Value.ref t == Value.none) = true then _ else _) _ _ s
  rw [if_neg (show ¬ ((Value.ref t == Value.none) = true) from Bool.false_ne_true)]
  show wpAny _ _ (field (.ref it) 1 >>= _) _ _ s
  refine wpAny_bind (wpAny_field ho hd (x := .int i 0) rfl ?_)
  show wpAny _ _ (seqItems? (.ref t) >>= _) _ _ s
  refine wpAny_bind (wpAny_seqItems hol hdl ?_)
  simp only [Int.toNat_natCast, hx]
  refine wpAny_bind (wpAny_setField ho hd (by simp) (wpAny_pure ⟨x, rfl, wpAny_pure (hQ _ ?_ (Heap.SameBut.update ..))⟩))
  exact ⟨_, Heap.get?_update_self _ ho (Obj.isFreed_of_fields (Obj.data_mapFields hd _)), (Obj.cls_mapFields ..).trans hc, by
    rw [Obj.data_mapFields hd]; simp [rawInt]⟩

theorem nextTup_end {it t : Addr} {i : Nat} {items} {Q : Value → Shared → Prop} (hh : A.handled = none)
    (hit : s.heap.IsTupleIter it t i) (ht : s.heap.IsTuple t items) (hx : items[i]? = none)
    (hE : ∀ h' e, Heap.ExtBut it s.heap h' → (∃ o, h'.get? e = some o ∧ o.cls = .type "StopIteration") → E (.ref e) { s with heap := h' }) :
    wpAny (model prog w) A (Builtin.SmallTypes.nextOf (.ref it)) Q E s := by
  obtain ⟨o, ho, hc, hd⟩ := id hit
  obtain ⟨ol, hol, _, nl, hdl⟩ := ht
  unfold Builtin.SmallTypes.nextOf
  refine wpAny_bind (wpAny_callSpecial?_slot (name := Str.ofString "__next__") hit.typeIs F.slot_tuple_iterator_next
    (wpAny_call_entry F.slot_tuple_iterator_next hit.typeIs F.entry_tuple_iterator_next ?_ (F.args_tuple_iterator_next_1 _)))
  show wpAny _ _ (field (.ref it) 0 >>= _) _ _ s
  refine wpAny_bind (wpAny_field ho hd (x := .ref t) rfl ?_)
  show wpAny _ _ (if (Value.ref t == Value.none) = true then _ else _) _ _ s
  rw [if_neg (show ¬ ((Value.ref t == Value.none) = true) from Bool.false_ne_true)]
  show wpAny _ _ (field (.ref it) 1 >>= _) _ _ s
  refine wpAny_bind (wpAny_field ho hd (x := .int i 0) rfl ?_)
  show wpAny _ _ (seqItems? (.ref t) >>= _) _ _ s
  refine wpAny_bind (wpAny_seqItems hol hdl ?_)
  simp only [Int.toNat_natCast, hx]
  refine wpAny_bind (wpAny_rule (wpAny_bind (wpAny_setField ho hd (by simp) ?_)))
  show wpAny _ _ (newExc (.type "StopIteration") [] >>= _) _ _ _
  refine wpAny_bind ?_
  simp only [newExc, newTuple]
  refine wpAny_bind (wpAny_newObj_type ?_ (by size_fits))
  refine wpAny_bind (m := firstArgMember _ _) (wpAny_of_eq (a := Value.none) (by first | rfl | (simp only [firstArgMember]; rfl)) ?_)
  refine wpAny_newObj_type ?_ (by size_fits)
  simp only [raiseNew]
  refine wpAny_bind (wpAny_handled ?_)
  first | rw [show A.in1.handled = none from hh] | rw [hh]
  refine wpAny_bind (wpAny_pure (wpAny_throw ?_))
  exact hE _ _ (((Heap.SameBut.update ..).extBut.push _).push _) ⟨_, Heap.get?_push_size _ rfl, rfl⟩
end

theorem drawsTuple {prog : Program} {w : World} {A : Around} (hh : A.handled = none) (it t : Addr) (hne : t ≠ it) (items : Array Value) :
    Draws prog w A it [it, t] items.size (fun i v => items[i]? = some v) (fun i h => h.IsTupleIter it t i ∧ h.IsTuple t items) where
  live := fun _ _ st => let ⟨o, ho, _⟩ := st.1; ⟨o, ho⟩
  frame := fun _ _ _ st hk => ⟨let ⟨o, ho, r⟩ := st.1; ⟨o, hk it (by simp) o ho, r⟩, let ⟨o, ho, r⟩ := st.2; ⟨o, hk t (by simp) o ho, r⟩⟩
  item := fun i s Q E hi st hQ => by
    refine nextTup_item st.1 st.2 (x := items[i]) (by simp [hi]) fun h' hit' hs' => ?_
    exact hQ _ h' s.toks (by simp [hi]) ⟨hit', st.2.extBut hs'.extBut hne⟩ hs'
  done := fun s Q E st hE => nextTup_end hh st.1 st.2 (by simp) hE

structure ZApart (z TI TO i1 i2 : Addr) (f1 f2 : List Addr) : Prop where
  TIz : TI ≠ z
  TOz : TO ≠ z
  i1z : i1 ≠ z
  i2z : i2 ≠ z
  TITO : TI ≠ TO
  TIi1 : TI ≠ i1
  TIi2 : TI ≠ i2
  TOi1 : TO ≠ i1
  TOi2 : TO ≠ i2
  i12 : i1 ≠ i2
  z1 : z ∉ f1
  z2 : z ∉ f2
  o1 : TO ∉ f1
  o2 : TO ∉ f2
  a12 : i1 ∉ f2
  a21 : i2 ∉ f1
  m1 : i1 ∈ f1
  m2 : i2 ∈ f2

section
variable {prog : Program} {w : World} {A : Around} {E : Value → Shared → Prop} {s : Shared} {f1 f2 : List Addr} {n : Nat} {P1 P2 : Nat → Value → Prop} {S1 S2 : Nat → Heap → Prop}
  {z TI TO i1 i2 : Addr}

theorem frameBut {f : List Addr} {S : Nat → Heap → Prop} {P : Nat → Value → Prop} {it : Addr} (D : Draws prog w A it f n P S) {i : Nat} {h h' : Heap} {b : Addr} (st : S i h) (hs : Heap.SameBut b h h') (hb : b ∉ f) : S i h' :=
  D.frame _ _ _ st fun c hc o e => hs.extBut c o (fun q => hb (q ▸ hc)) e

theorem zipD_item {i : Nat} {a b : Value} {Q : Value → Shared → Prop} (D : ZApart z TI TO i1 i2 f1 f2) (D1 : Draws prog w A i1 f1 n P1 S1) (D2 : Draws prog w A i2 f2 n P2 S2) (hi : i < n)
    (hz : IsZip s.heap z TI TO .none) (hTI : IsPair s.heap TI (.ref i1) (.ref i2)) (hTO : IsPair s.heap TO a b) (h1 : S1 i s.heap) (h2 : S2 i s.heap)
    (hQ : ∀ x y h' tk, P1 i x → P2 i y → IsZip h' z TI TO (rawInt s.heap.objs.size) → IsPair h' TO x y → S1 (i + 1) h' → S2 (i + 1) h' → IsPair h' s.heap.objs.size x y → h'.objs.size = s.heap.objs.size + 1 →
      (∀ c o, c ≠ z → c ≠ TO → c ≠ i1 → c ≠ i2 → s.heap.get? c = some o → h'.get? c = some o) → Q (.ref s.heap.objs.size) { s with heap := h', toks := tk }) :
    wpAny (model prog w) A (Builtin.«zip.__next__» ⟨[.ref z], []⟩) (fun fin s' => ∃ v, fin = .done (.ret v) ∧ Q v s') E s := by
  obtain ⟨hp, g, d, tk, os⟩ := s
  show wpAny _ _ (field (.ref z) 2 >>= _) _ _ _
  refine wpAny_bind (wpAny_field hz rfl (x := .bool false) rfl ?_)
  show wpAny _ _ (field (.ref z) 3 >>= _) _ _ _
  refine wpAny_bind (wpAny_field hz rfl (x := .ref TI) rfl ?_)
  refine wpAny_bind (wpAny_seqItems hTI rfl ?_)
  show wpAny _ _ (Builtin.SmallTypes.ownedTupleIsFree (.ref z) >>= _) _ _ _
  refine wpAny_bind ?_
  unfold Builtin.SmallTypes.ownedTupleIsFree
  refine wpAny_bind (wpAny_field hz rfl (x := .none) rfl (wpAny_pure ?_))
  simp only [if_true]
  refine wpAny_bind (wpAny_rule ?_)
  refine wpAny_bind (wpAny_field hz rfl (x := .ref TO) rfl ?_)
  refine wpAny_bind (wpAny_setField_rec hz (by simp) fun h₁ hz₁ hs₁ => ?_)
  replace hz₁ : IsZip h₁ z TI TO .ellipsis := hz₁
  replace hs₁ : Heap.SameBut z hp h₁ := hs₁
  refine wpAny_bind ?_
  simp only [List.zipIdx_cons, List.zipIdx_nil, List.forIn_cons, List.forIn_nil]
  refine wpAny_bind (wpAny_bind (wpAny_onRaise ?_))
  show wpAny _ _ (Builtin.SmallTypes.nextOf (.ref i1) >>= _) _ _ _
  refine wpAny_bind (D1.item i _ _ _ hi (frameBut D1 h1 hs₁ D.z1) fun x h₂ tk₂ hx h1₂ hs₂ => wpAny_pure ?_)
  replace hs₂ : Heap.SameBut i1 h₁ h₂ := hs₂
  have hTO₂ : IsPair h₂ TO a b := hs₂.extBut _ _ D.TOi1 (hs₁.extBut _ _ D.TOz hTO)
  refine wpAny_bind (wpAny_seqItems hTO₂ rfl ?_)
  refine wpAny_bind (wpAny_updateSeq_pair hTO₂ fun h₃ hTO₃ hs₃ => ?_)
  replace hTO₃ : IsPair h₃ TO x b := hTO₃
  replace hs₃ : Heap.SameBut TO h₂ h₃ := hs₃
  refine wpAny_bind (wpAny_letGo (wpAny_pure ?_))
  refine wpAny_bind (wpAny_bind (wpAny_onRaise ?_))
  show wpAny _ _ (Builtin.SmallTypes.nextOf (.ref i2) >>= _) _ _ _
  refine wpAny_bind (D2.item i _ _ _ hi (frameBut D2 (frameBut D2 (frameBut D2 h2 hs₁ D.z2) hs₂ D.a12) hs₃ D.o2) fun y h₄ tk₄ hy h2₄ hs₄ => wpAny_pure ?_)
  replace hs₄ : Heap.SameBut i2 h₃ h₄ := hs₄
  have hTO₄ : IsPair h₄ TO x b := hs₄.extBut _ _ D.TOi2 hTO₃
  refine wpAny_bind (wpAny_seqItems hTO₄ rfl ?_)
  refine wpAny_bind (wpAny_updateSeq_pair hTO₄ fun h₅ hTO₅ hs₅ => ?_)
  replace hTO₅ : IsPair h₅ TO x y := hTO₅
  replace hs₅ : Heap.SameBut TO h₄ h₅ := hs₅
  refine wpAny_bind (wpAny_letGo (wpAny_pure (wpAny_pure ?_)))
  refine wpAny_bind (wpAny_seqItems hTO₅ rfl ?_)
  refine wpAny_bind (wpAny_newTuple ?_)
  have hsz : h₅.objs.size = hp.objs.size := by rw [hs₅.1, hs₄.1, hs₃.1, hs₂.1, hs₁.1]
  have hz₅ : IsZip h₅ z TI TO .ellipsis := hs₅.extBut _ _ D.TOz.symm (hs₄.extBut _ _ D.i2z.symm (hs₃.extBut _ _ D.TOz.symm (hs₂.extBut _ _ D.i1z.symm hz₁)))
  have hk₅ : ∀ c o, c ≠ z → c ≠ TO → c ≠ i1 → c ≠ i2 → hp.get? c = some o → h₅.get? c = some o := fun c o c1 c2 c3 c4 e =>
    hs₅.extBut _ _ c2 (hs₄.extBut _ _ c4 (hs₃.extBut _ _ c2 (hs₂.extBut _ _ c3 (hs₁.extBut _ _ c1 e))))
  have h1₅ : S1 (i + 1) h₅ := frameBut D1 (frameBut D1 (frameBut D1 h1₂ hs₃ D.o1) hs₄ D.a21) hs₅ D.o1
  have h2₅ : S2 (i + 1) h₅ := frameBut D2 h2₄ hs₅ D.o2
  have hzlt : z < h₅.objs.size := Heap.lt_size hz₅
  show wpAny _ _ (Builtin.SmallTypes.ownedTupleHandOut (.ref z) (.ref h₅.objs.size) >>= _) _ _ _
  refine wpAny_bind ?_
  unfold Builtin.SmallTypes.ownedTupleHandOut
  have hz₆ : IsZip (h₅.push { cls := .type "tuple", data := .seq #[x, y] }) z TI TO .ellipsis := Heap.get?_push_of_some _ hz₅
  refine wpAny_bind (wpAny_setField_rec hz₆ (by simp) fun h₇ hz₇ hs₇ => ?_)
  replace hz₇ : IsZip h₇ z TI TO (rawInt h₅.objs.size) := hz₇
  refine wpAny_setField_rec hz₇ (by simp) fun h₈ hz₈ hs₈ => ?_
  replace hz₈ : IsZip h₈ z TI TO (rawInt h₅.objs.size) := hz₈
  have up : ∀ c o, c ≠ z → h₅.get? c = some o → h₈.get? c = some o := fun c o c1 e => hs₈.extBut _ _ c1 (hs₇.extBut _ _ c1 (Heap.get?_push_of_some _ e))
  have hT₈ : IsPair h₈ h₅.objs.size x y := hs₈.extBut _ _ (Nat.ne_of_gt hzlt) (hs₇.extBut _ _ (Nat.ne_of_gt hzlt) (Heap.get?_push_size _ rfl))
  have hz8 : h₈.objs.size = h₅.objs.size + 1 := by rw [hs₈.1, hs₇.1, Heap.size_push]
  rw [hsz] at hz₈ hT₈ hz8
  refine wpAny_pure ⟨_, rfl, ?_⟩
  show Q (.ref h₅.objs.size) _
  rw [hsz]
  exact hQ x y h₈ _ hx hy hz₈ (up _ _ D.TOz hTO₅) (D1.frame _ _ _ h1₅ fun c hc o e => up c o (fun q => D.z1 (q ▸ hc)) e) (D2.frame _ _ _ h2₅ fun c hc o e => up c o (fun q => D.z2 (q ▸ hc)) e) hT₈ hz8
    fun c o c1 c2 c3 c4 e => up c o c1 (hk₅ c o c1 c2 c3 c4 e)

theorem zipD_end {a b : Value} {Q : Fin → Shared → Prop} (D : ZApart z TI TO i1 i2 f1 f2) (D1 : Draws prog w A i1 f1 n P1 S1)
    (hz : IsZip s.heap z TI TO .none) (hTI : IsPair s.heap TI (.ref i1) (.ref i2)) (hTO : IsPair s.heap TO a b) (h1 : S1 n s.heap)
    (hE : ∀ h' e, (∀ c o, c ≠ z → c ≠ TO → c ≠ i1 → c ≠ i2 → s.heap.get? c = some o → h'.get? c = some o) → (∃ o, h'.get? e = some o ∧ o.cls = .type "StopIteration") → E (.ref e) { s with heap := h' }) :
    wpAny (model prog w) A (Builtin.«zip.__next__» ⟨[.ref z], []⟩) Q E s := by
  obtain ⟨hp, g, d, tk, os⟩ := s
  show wpAny _ _ (field (.ref z) 2 >>= _) _ _ _
  refine wpAny_bind (wpAny_field hz rfl (x := .bool false) rfl ?_)
  show wpAny _ _ (field (.ref z) 3 >>= _) _ _ _
  refine wpAny_bind (wpAny_field hz rfl (x := .ref TI) rfl ?_)
  refine wpAny_bind (wpAny_seqItems hTI rfl ?_)
  show wpAny _ _ (Builtin.SmallTypes.ownedTupleIsFree (.ref z) >>= _) _ _ _
  refine wpAny_bind ?_
  unfold Builtin.SmallTypes.ownedTupleIsFree
  refine wpAny_bind (wpAny_field hz rfl (x := .none) rfl (wpAny_pure ?_))
  simp only [if_true]
  refine wpAny_bind (wpAny_rule ?_)
  refine wpAny_bind (wpAny_field hz rfl (x := .ref TO) rfl ?_)
  refine wpAny_bind (wpAny_setField_rec hz (by simp) fun h₁ hz₁ hs₁ => ?_)
  replace hz₁ : IsZip h₁ z TI TO .ellipsis := hz₁
  replace hs₁ : Heap.SameBut z hp h₁ := hs₁
  refine wpAny_bind ?_
  simp only [List.zipIdx_cons, List.zipIdx_nil, List.forIn_cons, List.forIn_nil]
  refine wpAny_bind (wpAny_bind (wpAny_onRaise ?_))
  show wpAny _ _ (Builtin.SmallTypes.nextOf (.ref i1) >>= _) _ _ _
  refine wpAny_bind (D1.done _ _ _ (frameBut D1 h1 hs₁ D.z1) fun h₂ e hs₂ he => ?_)
  obtain ⟨oe, hoe, hce⟩ := he
  have hz₂ : IsZip h₂ z TI TO .ellipsis := hs₂ _ _ D.i1z.symm hz₁
  have hez : e ≠ z := fun x => by subst x; rw [hz₂] at hoe; cases hoe; simp at hce
  refine wpAny_setField_rec hz₂ (by simp) fun h₃ _ hs₃ => hE h₃ e (fun c o c1 _ c3 _ x => hs₃.extBut _ _ c1 (hs₂ _ _ c3 (hs₁.extBut _ _ c1 x))) ⟨oe, hs₃.extBut _ _ hez hoe, hce⟩

theorem walksZip (D : ZApart z TI TO i1 i2 f1 f2) (D1 : Draws prog w A.in1 i1 f1 n P1 S1) (D2 : Draws prog w A.in1 i2 f2 n P2 S2) :
    WalksT prog w A z ([z, TI, TO] ++ (f1 ++ f2)) [z, TO, i1, i2] n
      (fun i vals => ∃ x y, P1 i x ∧ P2 i y ∧ vals = #[x, y])
      (fun i h => IsZip h z TI TO .none ∧ IsPair h TI (.ref i1) (.ref i2) ∧ (∃ a b, IsPair h TO a b) ∧ S1 i h ∧ S2 i h)
      (fun i T h => IsZip h z TI TO (rawInt T) ∧ IsPair h TI (.ref i1) (.ref i2) ∧ (∃ a b, IsPair h TO a b) ∧ S1 (i + 1) h ∧ S2 (i + 1) h ∧ T ≠ z ∧ T ≠ TO ∧ T ≠ i1 ∧ T ≠ i2) where
  sub := fun c hc => by
    have := D.m1
    have := D.m2
    simp only [List.mem_cons, List.not_mem_nil, or_false, List.mem_append] at hc ⊢
    rcases hc with rfl | rfl | rfl | rfl <;> simp [*]
  frame := fun i h h' hst hk => by
    obtain ⟨hz, hT, ⟨a, b, hTO⟩, h1, h2⟩ := hst
    exact ⟨hk z (by simp) _ hz, hk TI (by simp) _ hT, ⟨a, b, hk TO (by simp) _ hTO⟩, D1.frame _ _ _ h1 fun b hb o e => hk b (by simp [hb]) o e, D2.frame _ _ _ h2 fun b hb o e => hk b (by simp [hb]) o e⟩
  item := fun i s Q E hi hst hQ => by
    obtain ⟨hz, hT, ⟨a, b, hTO⟩, h1, h2⟩ := hst
    have hTy : s.TypeIs (.ref z) "zip" := ⟨_, hz, rfl⟩
    have lt : ∀ {c o}, s.heap.get? c = some o → s.heap.objs.size ≠ c := fun e => Nat.ne_of_gt (Heap.lt_size e)
    unfold pyNext
    refine wpAny_bind (wpAny_attempt (wpAny_callSpecial?_slot (name := Str.ofString "__next__") hTy F.slot_zip_next
      (wpAny_call_entry F.slot_zip_next hTy F.entry_zip_next
        (zipD_item D D1 D2 hi hz hT hTO h1 h2 fun x y h' tk hx hy a1 a2 a3 a4 a5 a6 hk => wpAny_pure ?_) (F.args_zip_next_1 _))))
    exact hQ s.heap.objs.size #[x, y] h' tk ⟨x, y, hx, hy, rfl⟩ (Nat.le_refl _) ⟨_, a5, rfl, _, rfl⟩
      ⟨a1, hk _ _ D.TIz D.TITO D.TIi1 D.TIi2 hT, ⟨_, _, a2⟩, a3, a4, lt hz, lt hTO, (by obtain ⟨_, e⟩ := D1.live _ _ h1; exact lt e), (by obtain ⟨_, e⟩ := D2.live _ _ h2; exact lt e)⟩
      fun c o hc e => hk c o (fun x => hc (by simp [x])) (fun x => hc (by simp [x])) (fun x => hc (by simp [x])) (fun x => hc (by simp [x])) e
  go := fun elts k pos i T s Q E hm hQ => by
    obtain ⟨hz, hT, ⟨a, b, hTO⟩, h1, h2, _⟩ := hm
    refine wpAny_letOwnedTupleGo_zip hz fun h' hz' hs' => hQ h' ⟨hz', hs'.extBut _ _ D.TIz hT, ⟨a, b, hs'.extBut _ _ D.TOz hTO⟩, frameBut D1 h1 hs' D.z1, frameBut D2 h2 hs' D.z2⟩ fun c o hc e => hs'.extBut _ _ (fun x => hc (by simp [x])) e
  apart := fun i T h hm hT => by
    obtain ⟨_, _, _, _, _, t1, t2, t3, t4⟩ := hm
    simp at hT
    rcases hT with rfl | rfl | rfl | rfl
    · exact t1 rfl
    · exact t2 rfl
    · exact t3 rfl
    · exact t4 rfl
  done := fun s Q E hst hQ => by
    obtain ⟨hz, hT, ⟨a, b, hTO⟩, h1, h2⟩ := hst
    have hTy : s.TypeIs (.ref z) "zip" := ⟨_, hz, rfl⟩
    unfold pyNext
    refine wpAny_bind (wpAny_attempt (wpAny_callSpecial?_slot (name := Str.ofString "__next__") hTy F.slot_zip_next
      (wpAny_call_entry F.slot_zip_next hTy F.entry_zip_next (zipD_end D D1 hz hT hTO h1 fun h' e hk he => ?_) (F.args_zip_next_1 _))))
    obtain ⟨o, ho, hc⟩ := he
    refine wpAny_bind (wpAny_isInstance (T := "StopIteration") (b := true) ⟨o, ho, hc⟩ isSubtype_stop ?_)
    exact wpAny_pure (hQ _ s.toks fun c o hc e => hk c o (fun x => hc (by simp [x])) (fun x => hc (by simp [x])) (fun x => hc (by simp [x])) (fun x => hc (by simp [x])) e)
  self := fun i s Q E hst hQ => wpAny_pyIter_zip hst.1 hQ
end

abbrev zh1 (h : Heap) (x : Str) (t : Tok) : Heap := h.push { cls := .type "str_ascii_iterator", data := .fields #[.str x t, .int 0 0] }
abbrev zh2 (h : Heap) (x : Str) (t : Tok) (p : Addr) : Heap := (zh1 h x t).push { cls := .type "tuple_iterator", data := .fields #[.ref p, .int 0 0] }
abbrev zh3 (h : Heap) (x : Str) (t : Tok) (p : Addr) : Heap := (zh2 h x t p).push { cls := .type "tuple", data := .seq #[.ref h.objs.size, .ref (zh1 h x t).objs.size] }
abbrev zh4 (h : Heap) (x : Str) (t : Tok) (p : Addr) : Heap := (zh3 h x t p).push { cls := .type "tuple", data := .seq #[.none, .none] }
abbrev zh5 (h : Heap) (x : Str) (t : Tok) (p : Addr) : Heap := (zh4 h x t p).push { cls := .type "zip", data := .fields #[.none, .bool false, .bool false, .ref (zh2 h x t p).objs.size, .ref (zh3 h x t p).objs.size] }

set_option maxHeartbeats 4000000 in
theorem meets_zip_strtup (x : Str) (t : Tok) (p : Addr) (ys : Array Value) (ha : x.cps.all (· < 128) = true) :
    Meets (Builtin.«zip.__new__» ⟨[.type "zip", .str x t, .ref p], []⟩) (fun _ R s => s.heap.IsTuple p ys ∧
      R (.ok (.ret (.ref (zh4 s.heap x t p).objs.size))) { s with heap := zh5 s.heap x t p }) :=
  .of_wp fun prog w A R s h => by
    obtain ⟨hp, g, d, tk, os⟩ := s; obtain ⟨hl, h⟩ := h
    have hsub := sub_zip
    have hL : Heap.IsTuple (Shared.heap ⟨hp.push { cls := .type "str_ascii_iterator", data := .fields #[.str x t, .int 0 0] }, g, d, tk, os⟩) p ys := Heap.IsTuple.push hl _
    wp_walk using wpAny_pyIter_ascii ha, wpAny_pyIter_tuple hL
    exact ⟨_, rfl, h⟩

section
variable {prog : Program} {w : World} {A : Around} {E : Value → Shared → Prop} {s : Shared}
theorem call_zip_strtup {x : Str} {t : Tok} {p : Addr} {ys : Array Value} {Q : Value → Shared → Prop} (hp : s.heap.IsTuple p ys) (ha : x.cps.all (· < 128) = true)
    (h : ∀ h', IsZip h' (s.heap.objs.size + 4) (s.heap.objs.size + 2) (s.heap.objs.size + 3) .none → IsPair h' (s.heap.objs.size + 2) (.ref s.heap.objs.size) (.ref (s.heap.objs.size + 1)) →
      IsPair h' (s.heap.objs.size + 3) .none .none → h'.IsStrIter s.heap.objs.size "str_ascii_iterator" x t 0 → h'.IsTupleIter (s.heap.objs.size + 1) p 0 → h'.objs.size = s.heap.objs.size + 5 →
      (∀ c o, s.heap.get? c = some o → h'.get? c = some o) → Q (.ref (s.heap.objs.size + 4)) { s with heap := h' }) :
    wpAny (model prog w) A (call (.type "zip") [.str x t, .ref p]) Q E s := by
  refine callType_new F.called_zip (by decide) (F.typeCall_zip_2 _ _) (F.newCall_zip_2 _ _) (fun obj => F.args_object_init_3 obj _ _) F.entry_zip_new
    (meets_zip_strtup x t p ys ha) ⟨hp, ?_⟩
  have z1 : (zh1 s.heap x t).objs.size = s.heap.objs.size + 1 := Heap.size_push ..
  have z2 : (zh2 s.heap x t p).objs.size = s.heap.objs.size + 2 := by rw [Heap.size_push, z1]
  have z3 : (zh3 s.heap x t p).objs.size = s.heap.objs.size + 3 := by rw [Heap.size_push, z2]
  have z4 : (zh4 s.heap x t p).objs.size = s.heap.objs.size + 4 := by rw [Heap.size_push, z3]
  have z5 : (zh5 s.heap x t p).objs.size = s.heap.objs.size + 5 := by rw [Heap.size_push, z4]
  have g5 : (zh5 s.heap x t p).get? (zh4 s.heap x t p).objs.size = some _ := Heap.get?_push_size _ rfl
  have g4 : (zh5 s.heap x t p).get? (zh3 s.heap x t p).objs.size = some _ := Heap.get?_push_of_some _ (Heap.get?_push_size _ rfl)
  have g3 : (zh5 s.heap x t p).get? (zh2 s.heap x t p).objs.size = some _ := Heap.get?_push_of_some _ (Heap.get?_push_of_some _ (Heap.get?_push_size _ rfl))
  have g2 : (zh5 s.heap x t p).get? (zh1 s.heap x t).objs.size = some _ := Heap.get?_push_of_some _ (Heap.get?_push_of_some _ (Heap.get?_push_of_some _ (Heap.get?_push_size _ rfl)))
  have g1 : (zh5 s.heap x t p).get? s.heap.objs.size = some _ := Heap.get?_push_of_some _ (Heap.get?_push_of_some _ (Heap.get?_push_of_some _ (Heap.get?_push_of_some _ (Heap.get?_push_size _ rfl))))
  show _ ∧ _
  rw [z2, z3, z4] at g5
  rw [z1, z2] at g3
  rw [z3] at g4
  rw [z1] at g2
  rw [z4]
  exact ⟨⟨_, g5, rfl⟩, h _ g5 g3 g4 ⟨_, g1, rfl, rfl⟩ ⟨_, g2, rfl, rfl⟩ z5 fun c o x =>
    Heap.get?_push_of_some _ (Heap.get?_push_of_some _ (Heap.get?_push_of_some _ (Heap.get?_push_of_some _ (Heap.get?_push_of_some _ x))))⟩
end

section
variable {prog : Program} {w : World} {A : Around} {E : Value → Shared → Prop} {s : Shared} {h₀ : Heap} {L : Addr} {m : Str → Option Value} {news : List (Addr × Obj)}

def ZipReady (h₀ : Heap) (L : Addr) (news : List (Addr × Obj)) (x : Str) (p : Addr) (ys : List Value) (z : Addr) (h : Heap) : Prop :=
  ∃ TI TO i1 i2 t, ZApart z TI TO i1 i2 [i1] [i2, p] ∧ IsZip h z TI TO .none ∧ IsPair h TI (.ref i1) (.ref i2) ∧ (∃ a b, IsPair h TO a b) ∧ h.IsStrIter i1 "str_ascii_iterator" x t 0 ∧ h.IsTupleIter i2 p 0 ∧ h.IsTuple p ys.toArray ∧
    p ≠ i2 ∧ (∀ b ∈ [z, TI, TO, i1, i2], L ≠ b ∧ h₀.get? b = none ∧ ∀ q ∈ news, q.1 ≠ b) ∧ L ≠ p

theorem nm1 {a b : Nat} (h : a ≠ b) : a ∉ [b] := by simpa using h
theorem nm2 {a b c : Nat} (h : a ≠ b ∧ a ≠ c) : a ∉ [b, c] := by simpa using h
theorem zapart_new (n p : Nat) (h : p < n) : @ZApart (n + 4) (n + 2) (n + 3) n (n + 1) [n] [n + 1, p] where
  TIz := Nat.ne_of_lt (by omega)
  TOz := Nat.ne_of_lt (by omega)
  i1z := Nat.ne_of_lt (by omega)
  i2z := Nat.ne_of_lt (by omega)
  TITO := Nat.ne_of_lt (by omega)
  TIi1 := Nat.ne_of_gt (by omega)
  TIi2 := Nat.ne_of_gt (by omega)
  TOi1 := Nat.ne_of_gt (by omega)
  TOi2 := Nat.ne_of_gt (by omega)
  i12 := Nat.ne_of_lt (by omega)
  z1 := nm1 (by omega)
  z2 := nm2 (by omega)
  o1 := nm1 (by omega)
  o2 := nm2 (by omega)
  a12 := nm2 (by omega)
  a21 := nm1 (by omega)
  m1 := List.mem_cons_self
  m2 := List.mem_cons_self
theorem call_zipK {x : Str} {t : Tok} {p : Addr} {ys : List Value} {n : Nat} {Q : Value → Shared → Prop} (F : Fr h₀ L s.heap m) (N : News h₀ L s.heap news) (hp : (p, ({ cls := .type "tuple", data := .seq ys.toArray n } : Obj)) ∈ news) (ha : x.cps.all (· < 128) = true)
    (h : ∀ h' z, Fr h₀ L h' m → News h₀ L h' news → ZipReady h₀ L news x p ys z h' → Q (.ref z) { s with heap := h' }) :
    wpAny (model prog w) A (call (.type "zip") [.str x t, .ref p]) Q E s := by
  have hpt : s.heap.IsTuple p ys.toArray := ⟨_, (N _ hp).1, rfl, _, rfl⟩
  have plt : p < s.heap.objs.size := Heap.lt_size (N _ hp).1
  have Llt : L < s.heap.objs.size := F.ns.lt
  have fresh : ∀ b, s.heap.objs.size ≤ b → L ≠ b ∧ h₀.get? b = none ∧ ∀ q ∈ news, q.1 ≠ b := fun b hb =>
    ⟨Nat.ne_of_lt (Nat.lt_of_lt_of_le Llt hb), by
      cases e : h₀.get? b with
      | none => rfl
      | some o => exact absurd (Heap.lt_size (F.keep _ _ e)) (Nat.not_lt.mpr hb), fun q hq => Nat.ne_of_lt (Nat.lt_of_lt_of_le (Heap.lt_size (N q hq).1) hb)⟩
  refine call_zip_strtup hpt ha fun h' g1 g2 g3 g4 g5 _ hk => h h' _ (F.keeps hk) (fun q hq => ⟨hk _ _ (N q hq).1, (N q hq).2⟩) ?_
  refine ⟨s.heap.objs.size + 2, s.heap.objs.size + 3, s.heap.objs.size, s.heap.objs.size + 1, t, ?_, g1, g2, ⟨_, _, g3⟩, g4, g5, (let ⟨o, ho, r⟩ := hpt; ⟨o, hk _ _ ho, r⟩), Nat.ne_of_lt (Nat.lt_succ_of_lt plt), fun b hb => ?_, (N _ hp).2.1.symm⟩
  · exact zapart_new _ _ plt
  · refine fresh b ?_
    simp only [List.mem_cons, List.not_mem_nil, or_false] at hb
    rcases hb with rfl | rfl | rfl | rfl | rfl <;> first | exact Nat.le_add_right _ _ | exact Nat.le_refl _

theorem zipLoop {env : Env} {x : Str} {p z : Addr} {ys : List Value} {xi xc : Str} {body : List Stmt} {Q : Flow → Shared → Prop} (J : Nat → (Str → Option Value) → List (Addr × Obj) → Prop)
    (hh : A.handled = none) (hL : env.locals = L) (hx : x.cps.size = ys.length) (Z : ZipReady h₀ L news x p ys z s.heap) (F : Fr h₀ L s.heap m) (N : News h₀ L s.heap news) (h0 : J 0 m news)
    (step : ∀ i c u v m₁ news₁ s₁ own, (∃ h tk, s₁ = { s with heap := h, toks := tk }) → x.cps[i]? = some c → ys[i]? = some v → J i m₁ news₁ → news₁.map (·.1) = news.map (·.1) → (∀ q ∈ own, q.1 = p ∨ ∀ n ∈ news, n.1 ≠ q.1) →
      Fr h₀ L s₁.heap (fun y => if y = xc then some v else if y = xi then some (.str ⟨#[c]⟩ u) else m₁ y) → News h₀ L s₁.heap (own ++ news₁) →
      wpAny (model prog w) A (execs body env) (LoopStep3 h₀ L own news₁ (J (i + 1)) s₁ (fun v s' => Q (.ret v) s') fun s' => Q .next s') E s₁)
    (done : ∀ h' tk m' news', Fr h₀ L h' m' → News h₀ L h' news' → news'.map (·.1) = news.map (·.1) → J ys.length m' news' → Q .next { s with heap := h', toks := tk }) :
    wpAny (model prog w) A (pyIter (.ref z)) (fun it s₂ => PairAt3 prog w A h₀ env xi xc body Q E it s₂) E s := by
  subst hL
  obtain ⟨TI, TO, i1, i2, t, D, g1, g2, g3, g4, g5, g6, hpi, fr, hLp⟩ := Z
  have hh' : A.in1.handled = none := hh
  have W := walksZip (n := x.cps.size) D (Draws.strAscii (prog := prog) (w := w) hh' i1 x t) (by have := drawsTuple (prog := prog) (w := w) hh' i2 p hpi ys.toArray; rwa [List.size_toArray, ← hx] at this)
  have hst := (⟨g1, g2, g3, g4, g5, g6⟩ : IsZip s.heap z TI TO .none ∧ IsPair s.heap TI (.ref i1) (.ref i2) ∧ (∃ a b, IsPair s.heap TO a b) ∧ s.heap.IsStrIter i1 "str_ascii_iterator" x t 0 ∧ s.heap.IsTupleIter i2 p 0 ∧ s.heap.IsTuple p ys.toArray)
  have at_ := fun b hb => fr b hb
  simp only [List.mem_cons, List.not_mem_nil, or_false] at at_
  refine W.self 0 _ _ _ hst ?_
  refine ⟨z, [z, TI, TO] ++ ([i1] ++ [i2, p]), [z, TO, i1, i2], _, _, _, _, (fun i v0 v1 => ∃ c u, x.cps[i]? = some c ∧ v0 = .str ⟨#[c]⟩ u ∧ ys[i]? = some v1), m, news, J, rfl, W, ?_, ?_, ?_, ?_, hst, F, N, h0, ?_, ?_⟩
  · rintro i vals ⟨v0, v1, ⟨c, u, hc, rfl⟩, hv, rfl⟩
    exact ⟨_, _, rfl, c, u, hc, rfl, by simpa using hv⟩
  · intro hm
    simp only [List.mem_cons, List.not_mem_nil, or_false, List.mem_append] at hm
    rcases hm with (e | e | e) | e | e | e
    · exact (at_ z (.inl rfl)).1 e
    · exact (at_ TI (.inr (.inl rfl))).1 e
    · exact (at_ TO (.inr (.inr (.inl rfl)))).1 e
    · exact (at_ i1 (.inr (.inr (.inr (.inl rfl))))).1 e
    · exact (at_ i2 (.inr (.inr (.inr (.inr rfl))))).1 e
    · exact hLp e
  · intro b hb
    simp only [List.mem_cons, List.not_mem_nil, or_false] at hb
    rcases hb with rfl | rfl | rfl | rfl
    · exact (at_ _ (.inl rfl)).2.1
    · exact (at_ _ (.inr (.inr (.inl rfl)))).2.1
    · exact (at_ _ (.inr (.inr (.inr (.inl rfl))))).2.1
    · exact (at_ _ (.inr (.inr (.inr (.inr rfl))))).2.1
  · intro q hq hb
    simp only [List.mem_cons, List.not_mem_nil, or_false] at hb
    rcases hb with e | e | e | e
    · exact (at_ _ (.inl rfl)).2.2 q hq e
    · exact (at_ _ (.inr (.inr (.inl rfl)))).2.2 q hq e
    · exact (at_ _ (.inr (.inr (.inr (.inl rfl))))).2.2 q hq e
    · exact (at_ _ (.inr (.inr (.inr (.inr rfl))))).2.2 q hq e
  · rintro i v0 v1 m₁ news₁ s₁ own hs₁ _ ⟨c, u, hc, rfl, hv⟩ hJ hmap hsub F₁ N₁
    refine step i c u v1 m₁ news₁ s₁ own hs₁ hc hv hJ hmap (fun q hq => ?_) F₁ N₁
    have := hsub q hq
    simp only [List.mem_cons, List.not_mem_nil, or_false, List.mem_append] at this
    rcases this with (e | e | e) | e | e | e
    · exact .inr (e ▸ (at_ _ (.inl rfl)).2.2)
    · exact .inr (e ▸ (at_ _ (.inr (.inl rfl))).2.2)
    · exact .inr (e ▸ (at_ _ (.inr (.inr (.inl rfl)))).2.2)
    · exact .inr (e ▸ (at_ _ (.inr (.inr (.inr (.inl rfl))))).2.2)
    · exact .inr (e ▸ (at_ _ (.inr (.inr (.inr (.inr rfl))))).2.2)
    · exact .inl e
  · exact hx ▸ done
end
theorem ite_no {c : Prop} [Decidable c] {P Q : Prop} (h : ¬ c) (q : Q) : if c then P else Q := by rw [if_neg h]; exact q
theorem ite_yes {c : Prop} [Decidable c] {P Q : Prop} (h : c) (p : P) : if c then P else Q := by rw [if_pos h]; exact p
end Mine
end
local macro_rules | `(tactic| k_mem) => `(tactic| first | assumption | exact List.mem_cons_self | (refine List.mem_cons_of_mem _ ?_; k_mem) | (refine List.mem_append.mpr (Or.inr ?_); k_mem) | (refine List.mem_append.mpr (Or.inl ?_); k_mem))
local macro_rules | `(tactic| walk_at "ite") => `(tactic| first | (with_reducible refine Mine.ite_no ?xc ?_; (case xc => first | with_reducible assumption | omega | (simp only [bne_iff_ne, beq_iff_eq, ne_eq, Decidable.not_not, decide_eq_true_eq]; first | omega | with_reducible assumption) | decide)) | (with_reducible refine Mine.ite_yes ?xc ?_; (case xc => first | with_reducible assumption | omega | (simp only [bne_iff_ne, beq_iff_eq, ne_eq, Decidable.not_not, decide_eq_true_eq]; first | omega | with_reducible assumption) | decide)))
section
open PySem PySem.W PySem.Spec PySem.Calls PyProof.Rows
namespace Mine
local macro_rules | `(tactic| walk_at "idle 0") => `(tactic| fail)
set_option pp.deepTerms false
set_option pp.proofs false
set_option maxRecDepth 100000
set_option maxHeartbeats 4000000

abbrev prog := PySem.Challenge.pw_xm0678_01
abbrev tupO (vs : List Value) (n : Nat) : Obj := { cls := .type "tuple", data := .seq vs.toArray n }
abbrev lstO (vs : List Value) (n : Nat) : Obj := { cls := .type "list", data := .seq vs.toArray n }

theorem fill0 : Mine.frame.heap_1 = Mine.frame.heap_1 ∧ PySem.Challenge.rw_xm0678_01 = PySem.Challenge.rw_xm0678_01 := by
  k_fill
  exact ⟨rfl, rfl⟩

/-- a contract of a def that neither raises nor turns what stands -/
abbrev Ctr (w : World) (p : Program) (loose : List Str) (mean : ExcName → Option Value) (mg mb : Str → Option Value) (k : Nat) (f : Addr) (news : List (Addr × Obj)) (vs : List Value) (Post : Value → List (Addr × Obj) → Prop) : Prop :=
  ∀ (dp un : Nat) (gd : Option (List Code)) (cn : Str) (cs : Scope) (a : Addr) (ccd : Value) (cl : List (Str × Addr)) (outer : List Env) (A₀ : Around) (base h₀ : Heap) (L : Addr) (m : Str → Option Value) (s : Shared)
    (Q E : Value → Shared → Prop), Below A₀ base outer h₀ → Fr h₀ L s.heap m → (Mine.frame.heap_1 w.params).In h₀ → News h₀ L s.heap news → Top p loose mean mg mb h₀ → cs.kind = .function → dp + k < recursionLimit → un + 8 * k < cLine →
    (∀ r tl h' tk', Fr h₀ L h' m → News h₀ L h' (tl ++ news) → (∀ q ∈ news, ∀ p ∈ tl, q.1 < p.1) → Post r tl → Q r { s with heap := h', toks := tk' }) →
    wpAny (model prog w) (ktrTop dp un gd cn cs L a ccd cl outer) (call (.ref f) vs) Q E s
section
variable {w : World} {p : Program} {loose : List Str} {mean : ExcName → Option Value} {mg mb : Str → Option Value} {k : Nat} {f : Addr} {news : List (Addr × Obj)} {vs : List Value} {dp un : Nat} {gd : Option (List Code)} {cn : Str} {cs : Scope} {a : Addr} {ccd : Value} {cl : List (Str × Addr)} {outer : List Env} {A₀ : Around} {base h₀ : Heap} {L : Addr} {m : Str → Option Value} {s : Shared} {Q E : Value → Shared → Prop}
/-- a contract at its call -/
theorem Ctr.same {v : Value} (B : Below A₀ base outer h₀) (F : Fr h₀ L s.heap m) (X : (Mine.frame.heap_1 w.params).In h₀) (N : News h₀ L s.heap news) (T : Top p loose mean mg mb h₀) (hk : cs.kind = .function) (hd : dp + k < recursionLimit) (hu : un + 8 * k < cLine) (C : Ctr w p loose mean mg mb k f news vs fun r tl => r = v ∧ tl = []) (h : ∀ h' tk', Fr h₀ L h' m → News h₀ L h' news → True → Q v { s with heap := h', toks := tk' }) : wpAny (model prog w) (ktrTop dp un gd cn cs L a ccd cl outer) (call (.ref f) vs) Q E s :=
  C dp un gd cn cs a ccd cl outer A₀ base h₀ L m s Q E B F X N T hk hd hu fun _ _ _ _ F' N' _ e => by obtain ⟨rfl, rfl⟩ := e; exact h _ _ F' N' trivial
theorem Ctr.new {o : Nat → Obj} (B : Below A₀ base outer h₀) (F : Fr h₀ L s.heap m) (X : (Mine.frame.heap_1 w.params).In h₀) (N : News h₀ L s.heap news) (T : Top p loose mean mg mb h₀) (hk : cs.kind = .function) (hd : dp + k < recursionLimit) (hu : un + 8 * k < cLine) (C : Ctr w p loose mean mg mb k f news vs fun r tl => ∃ a k, r = .ref a ∧ tl = [(a, o k)]) (h : ∀ h' tk', Fr h₀ L h' m → ∀ a k, News h₀ L h' ((a, o k) :: news) → (∀ q ∈ news, q.1 < a) → Q (.ref a) { s with heap := h', toks := tk' }) : wpAny (model prog w) (ktrTop dp un gd cn cs L a ccd cl outer) (call (.ref f) vs) Q E s :=
  C dp un gd cn cs a ccd cl outer A₀ base h₀ L m s Q E B F X N T hk hd hu fun _ _ _ _ F' N' l e => by obtain ⟨a, k, rfl, rfl⟩ := e; exact h _ _ F' a k N' fun q hq => l q hq _ List.mem_cons_self
theorem Ctr.new1 {o : Nat → Tok → Obj} (B : Below A₀ base outer h₀) (F : Fr h₀ L s.heap m) (X : (Mine.frame.heap_1 w.params).In h₀) (N : News h₀ L s.heap news) (T : Top p loose mean mg mb h₀) (hk : cs.kind = .function) (hd : dp + k < recursionLimit) (hu : un + 8 * k < cLine) (C : Ctr w p loose mean mg mb k f news vs fun r tl => ∃ a k u, r = .ref a ∧ tl = [(a, o k u)]) (h : ∀ h' tk', Fr h₀ L h' m → ∀ a k u, News h₀ L h' ((a, o k u) :: news) → (∀ q ∈ news, q.1 < a) → Q (.ref a) { s with heap := h', toks := tk' }) : wpAny (model prog w) (ktrTop dp un gd cn cs L a ccd cl outer) (call (.ref f) vs) Q E s :=
  C dp un gd cn cs a ccd cl outer A₀ base h₀ L m s Q E B F X N T hk hd hu fun _ _ _ _ F' N' l e => by obtain ⟨a, k, u, rfl, rfl⟩ := e; exact h _ _ F' a k u N' fun q hq => l q hq _ List.mem_cons_self
theorem Ctr.any {P : Value → List (Addr × Obj) → Prop} (B : Below A₀ base outer h₀) (F : Fr h₀ L s.heap m) (X : (Mine.frame.heap_1 w.params).In h₀) (N : News h₀ L s.heap news) (T : Top p loose mean mg mb h₀) (hk : cs.kind = .function) (hd : dp + k < recursionLimit) (hu : un + 8 * k < cLine) (C : Ctr w p loose mean mg mb k f news vs P) (h : ∀ r h' tk', Fr h₀ L h' m → News h₀ L h' news → Q r { s with heap := h', toks := tk' }) : wpAny (model prog w) (ktrTop dp un gd cn cs L a ccd cl outer) (call (.ref f) vs) Q E s :=
  C dp un gd cn cs a ccd cl outer A₀ base h₀ L m s Q E B F X N T hk hd hu fun _ _ _ _ F' N' _ _ => h _ _ _ F' fun q hq => N' q (List.mem_append.mpr (Or.inr hq))
end

section
variable {w : World} {A : Around} {E : Value → Shared → Prop} {s : Shared} {h₀ : Heap} {L : Addr} {m : Str → Option Value} {news : List (Addr × Obj)}
theorem get_K {K : Frag} {a : Addr} {es : Array DictEntry} {n : Nat} {x : Str} {t : Tok} {v : Value} {Q : Value → Shared → Prop} (F : Fr h₀ L s.heap m) (X₀ : K.In h₀) (hl : K.lookup a = some ⟨.type "dict", none, .dict es n, #[]⟩) (hk : KeysLit w.params es.toList)
    (e : nsIn K a x = some (some v)) (lo : (a == sysModules) = false) (h : Q v { s with toks := s.toks + 1 }) : wpAny (model prog w) A (call (.builtin "dict.get") [.ref a, .str x t]) Q E s :=
  have hm := mapOf_K (prog := prog) (X₀.keeps F.keep) hl hk
  call_meetsIn PySem.F.slot_dict_get hm.typeIs PySem.F.entry_dict_get (PySem.F.args_dict_get_2 _ _) (meets_dict_get (strKind prog w) a (strKind_is prog w x t) lo) ⟨_, hm, by rw [find_K hl e]; exact h⟩
theorem row0 {value slice : Expr} {r : Addr} {v : Value} {ps : List Value} {n : Nat} {u : Tok} {Q : Value → Shared → Prop} (N : News h₀ L s.heap news) (hm : (r, tupO (v :: ps) n) ∈ news) (h : Q v s)
    (hs : subscripted slice false (.ref r) (.int 0 u) = operate [.ref r, .int 0 u] (getItem (.ref r) (.int 0 u)) := by with_unfolding_all rfl) :
    wpAny (model prog w) A (subscriptTail value slice (.ref r) (.int 0 u)) Q E s :=
  item_tupleT (News.isTup N hm) (by decide) (by decide) (j := 0) (by unfold seqIndex?; simp [List.length_cons]) rfl h hs
theorem row_i {value slice : Expr} {r : Addr} {v : Value} {vs : List Value} {n : Nat} {u : Tok} {Q : Value → Shared → Prop} (i : Nat) (N : News h₀ L s.heap news) (hm : (r, tupO vs n) ∈ news) (hv : vs[i]? = some v) (hi : i < 1000) (h : Q v s)
    (hs : subscripted slice false (.ref r) (.int (i : Int) u) = operate [.ref r, .int (i : Int) u] (getItem (.ref r) (.int (i : Int) u)) := by with_unfolding_all rfl) :
    wpAny (model prog w) A (subscriptTail value slice (.ref r) (.int (i : Int) u)) Q E s := by
  obtain ⟨hl, _⟩ := List.getElem?_eq_some_iff.mp hv
  refine item_tupleT (News.isTup N hm) (by omega) (by omega) (j := i) ?_ hv h hs
  unfold seqIndex?
  have h1 : ¬ ((i : Int) < 0) := by omega
  simp only [h1, if_false, Int.toNat_natCast]
  rw [if_pos (by simp; omega)]
theorem row1 {value slice : Expr} {r : Addr} {v0 v : Value} {ps : List Value} {n : Nat} {u : Tok} {Q : Value → Shared → Prop} (N : News h₀ L s.heap news) (hm : (r, tupO (v0 :: v :: ps) n) ∈ news) (h : Q v s)
    (hs : subscripted slice false (.ref r) (.int 1 u) = operate [.ref r, .int 1 u] (getItem (.ref r) (.int 1 u)) := by with_unfolding_all rfl) :
    wpAny (model prog w) A (subscriptTail value slice (.ref r) (.int 1 u)) Q E s := row_i 1 N hm rfl (by decide) h hs
theorem row2 {value slice : Expr} {r : Addr} {v0 v1 v : Value} {ps : List Value} {n : Nat} {u : Tok} {Q : Value → Shared → Prop} (N : News h₀ L s.heap news) (hm : (r, tupO (v0 :: v1 :: v :: ps) n) ∈ news) (h : Q v s)
    (hs : subscripted slice false (.ref r) (.int 2 u) = operate [.ref r, .int 2 u] (getItem (.ref r) (.int 2 u)) := by with_unfolding_all rfl) :
    wpAny (model prog w) A (subscriptTail value slice (.ref r) (.int 2 u)) Q E s := row_i 2 N hm rfl (by decide) h hs
theorem row3 {value slice : Expr} {r : Addr} {v0 v1 v2 v : Value} {ps : List Value} {n : Nat} {u : Tok} {Q : Value → Shared → Prop} (N : News h₀ L s.heap news) (hm : (r, tupO (v0 :: v1 :: v2 :: v :: ps) n) ∈ news) (h : Q v s)
    (hs : subscripted slice false (.ref r) (.int 3 u) = operate [.ref r, .int 3 u] (getItem (.ref r) (.int 3 u)) := by with_unfolding_all rfl) :
    wpAny (model prog w) A (subscriptTail value slice (.ref r) (.int 3 u)) Q E s := row_i 3 N hm rfl (by decide) h hs
theorem row4 {value slice : Expr} {r : Addr} {v0 v1 v2 v3 v : Value} {ps : List Value} {n : Nat} {u : Tok} {Q : Value → Shared → Prop} (N : News h₀ L s.heap news) (hm : (r, tupO (v0 :: v1 :: v2 :: v3 :: v :: ps) n) ∈ news) (h : Q v s)
    (hs : subscripted slice false (.ref r) (.int 4 u) = operate [.ref r, .int 4 u] (getItem (.ref r) (.int 4 u)) := by with_unfolding_all rfl) :
    wpAny (model prog w) A (subscriptTail value slice (.ref r) (.int 4 u)) Q E s := row_i 4 N hm rfl (by decide) h hs
theorem len_row {r : Addr} {v : Value} {ps : List Value} {n : Nat} {Q : Value → Shared → Prop} (N : News h₀ L s.heap news) (hm : (r, tupO (v :: ps) n) ∈ news) (hn : ps.length < 100)
    (h : ∀ t tk, Q (.int ((ps.length : Int) + 1) t) { s with toks := tk }) : wpAny (model prog w) A (call (.builtin "len") [.ref r]) Q E s := by
  refine len_tuple (News.isTup N hm) (by rw [List.size_toArray, List.length_cons]; omega) ?_
  rw [List.size_toArray, List.length_cons]
  exact h _ _
theorem len_sx {x : Str} {t : Tok} {Q : Value → Shared → Prop} (hx : x.cps.size < 100) (h : ∀ t tk, Q (.int (x.cps.size : Int) t) { s with toks := tk }) : wpAny (model prog w) A (call (.builtin "len") [.str x t]) Q E s :=
  len_str (by show ¬ ((x.cps.size : Int) ≥ 2 ^ 63); omega) (h _ _)
end

section
variable {w : World} {p : Program} {loose : List Str} {mean : ExcName → Option Value} {mg mb : Str → Option Value}
/-- op has the shape x -/
abbrev Shp (w : World) (op x : Str) (xt : Tok) : Prop := nsIn (Mine.frame.heap_1 w.params) 55 op = some (some (.str x xt))

theorem shape_ctr {news : List (Addr × Obj)} {r : Addr} {op x : Str} {t xt : Tok} {ps : List Value} {n : Nat} (hr : (r, tupO (.str op t :: ps) n) ∈ news) (hs : Shp w op x xt) (hl : x.cps.size = ps.length) (hn : ps.length < 100) :
    Ctr w p loose mean mg mb 3 96 news [.ref r] (fun v tl => v = .str x xt ∧ tl = []) := by
  (intro dp un gd cn cs a ccd cl outer A₀ base h₀ L m s Q E B F X N T hk hd hu hret
   refine wpAny_call ?_
   k_dflt (refine' code_def (binds := [(Str.ofString "row", .ref r)]) ?k1 ?k2 ?k3 ?k4 ?k5 ?kA ?kF ?kK ?k6 ?k7 ?k8 ?k9 ?kB ?_ ?c2 ?c3 ?c4 ?c5; (case kA => exact rfl); (case kF => exact rfl); (case kK => assumption); (case k1 => k_asm); (case k2 => k_asm); (case k3 => k_asm); (case k4 => k_asm); (case k5 => k_asm); (case k6 => k_is); (case k7 => k_is); (case k8 => ktr_room); (case k9 => exact BindsTo.of_eq rfl); (case c5 => decide); (case kB => exact locs rfl); (case c2 => exact rfl); (case c3 => exact rfl); (case c4 => exact rfl); k_whole)
   intro g' L' h' FG' F' N' B' X' T'
   (try dsimp only)
   (try k_fold))
  (repeat' (first | (k_unfold; (try dsimp only)) | (k_end; wrow_close) | ((fail_if_success (fail_if_success (with_reducible show wpAny _ _ (call _ _ _) _ _ _))); first | (with_reducible (k_here; (fail_if_success (fail_if_success (with_reducible show wpAny _ _ (call (Value.builtin "len") [Value.ref _]) _ _ _))); (refine len_row (by assumption) (by assumption) (by omega) ?_); intro _ _)) | (with_reducible (k_here; (fail_if_success (fail_if_success (with_reducible show wpAny _ _ (call (Value.builtin "len") [Value.str _ _]) _ _ _))); (refine len_sx (by omega) ?_); intro _ _)) | ((fail_if_success (fail_if_success (with_reducible show wpAny _ _ (call (Value.builtin "dict.get") _ _) _ _ _))); with_reducible (k_here; k_dflt (refine get_K (by k_asm) (by k_asm) (by k_is) (by k_keys) (by assumption) (by decide) ?_)))) | ((fail_if_success (fail_if_success (with_reducible show wpAny _ _ (subscriptTail _ _ _ _) _ _ _))); first | (with_reducible (k_here; (fail_if_success (fail_if_success (with_reducible show wpAny _ _ (subscriptTail _ _ (Value.ref _) (Value.int _ _)) _ _ _))); (with_unfolding_all refine row0 (by k_asm) (by k_mem) ?_ (by with_unfolding_all rfl))))) | walk1 | (dsimp only; walk1) | (leave1; walk_say "STEP leave1"; try dsimp only) | fail "no step"))
  exact hret _ [] _ _ (by assumption) (by assumption) (fun _ _ _ h => nomatch h) ⟨rfl, rfl⟩
end
end Mine
end
section
open PySem PySem.W PySem.Spec PySem.Calls PyProof.Rows
namespace Mine
set_option pp.deepTerms false
set_option pp.proofs false
set_option maxRecDepth 100000
set_option maxHeartbeats 4000000


/-- what a row's letters and parts read: the registers -/
inductive Uses (news : List (Addr × Obj)) : List Nat → List Value → List Value → Prop where
  | nil : Uses news [] [] []
  | s {cs ps us v} : Uses news cs ps us → Uses news (115 :: cs) (v :: ps) (v :: us)
  | m {cs ps us a vs n} : (a, tupO vs n) ∈ news → vs ≠ [] → Uses news cs ps us → Uses news (109 :: cs) (.ref a :: ps) (vs ++ us)
  | o {c cs ps us v} : c ≠ 115 → c ≠ 109 → Uses news cs ps us → Uses news (c :: cs) (v :: ps) us

theorem upd_app {d : Addr} {o o' : Obj} {news : List (Addr × Obj)} (h2 : ∀ q ∈ news, q.1 ≠ d) : ∀ {own : List (Addr × Obj)}, (∀ q ∈ own, q.1 ≠ d) → Upd d o o' (own ++ (d, o) :: news) (own ++ (d, o') :: news)
  | [], _ => .head h2
  | q :: r, h => .tail (h q (.head _)) (upd_app h2 fun x hx => h x (.tail _ hx))

theorem upd_app2 {d : Addr} {o o' : Obj} {x : Addr × Obj} {news : List (Addr × Obj)} (h2 : ∀ q ∈ news, q.1 ≠ d) (hx : x.1 ≠ d) : ∀ {own : List (Addr × Obj)}, (∀ q ∈ own, q.1 ≠ d) → Upd d o o' (own ++ x :: (d, o) :: news) (own ++ x :: (d, o') :: news)
  | [], _ => .tail hx (.head h2)
  | q :: r, h => .tail (h q (.head _)) (upd_app2 h2 hx fun x hx => h x (.tail _ hx))

theorem news_apart {h₀ h : Heap} {L a b : Addr} {o o' : Obj} {news : List (Addr × Obj)} (N : News h₀ L h news) (ha : (a, o) ∈ news) (hb : (b, o') ∈ news) (hc : o.cls ≠ o'.cls) : a ≠ b := fun e => by
  subst e
  have := (N _ ha).1.symm.trans (N _ hb).1
  exact hc (congrArg Obj.cls (Option.some.inj this))

section
variable {w : World} {A : Around} {E : Value → Shared → Prop} {s : Shared} {h₀ : Heap} {L : Addr} {m : Str → Option Value} {news : List (Addr × Obj)}
theorem row_tail {value slice : Expr} {r : Addr} {v : Value} {ps : List Value} {n : Nat} {u : Tok} {Q : Value → Shared → Prop} (F : Fr h₀ L s.heap m) (N : News h₀ L s.heap news) (hm : (r, tupO (v :: ps) n) ∈ news) (hn : ps.length < 100)
    (h : ∀ D h', Fr h₀ L h' m → News h₀ L h' ((D, tupO ps 0) :: news) → (∀ p ∈ news, p.1 < D) → Q (.ref D) { s with heap := h' })
    (hs : subscripted slice false (.ref r) (.ref s.heap.objs.size) = operate [.ref s.heap.objs.size, .ref r] (getItem (.ref r) (.ref s.heap.objs.size)) := by with_unfolding_all rfl)
    (hg : ∀ q, letTemporaryGo value (.ref r) q = pure () := by intro _; with_unfolding_all rfl) :
    wpAny (model prog w) A (subscriptTail value slice (.ref r) (.ref s.heap.objs.size)) Q E { s with heap := s.heap.push { cls := .type "slice", data := .fields #[.int 1 u, .none, .none] } } := by
  refine slice_tuple_from (a := 1) F N (News.isTup N hm) (Nat.le_refl 1) (by simp) (fun h' F' N' => h _ h' F' ?_ fun q hq => Nat.lt_succ_of_lt (Heap.lt_size (N q hq).1)) hs hg ?_
  · simpa using N'
  · rw [List.size_toArray, List.length_cons, sizeLine_eq]; omega
end

/-- between the turns of uses_of's loop -/
def UJ (news : List (Addr × Obj)) (us ps : List Value) (x : Str) (Dp fa : Addr) (m : Str → Option Value) (i : Nat) (m₁ : Str → Option Value) (n₁ : List (Addr × Obj)) : Prop :=
  ∃ us₀ us₁ k vp vl, Uses news (x.cps.toList.drop i) (ps.drop i) us₁ ∧ us₀ ++ us₁ = us ∧ n₁ = (Dp, tupO ps 0) :: (fa, lstO us₀ k) :: news ∧
    m₁ = fun y => if y = Str.ofString "part" then vp else if y = Str.ofString "letter" then vl else m y

theorem two_map {m : Str → Option Value} {a b : Str} {vp vl v u : Option Value} :
    (fun y => if y = a then v else if y = b then u else if y = a then vp else if y = b then vl else m y) = fun y => if y = a then v else if y = b then u else m y := by
  funext y
  by_cases h1 : y = a <;> by_cases h2 : y = b <;> simp [h1, h2]
theorem not_too_long {n k : Nat} {b : Bool} (h : n + k < 2000) : ¬ ((!b) && Builtin.List.listTooLong (n + k)) = true := by
  have : Builtin.List.listTooLong (n + k) = false := by unfold Builtin.List.listTooLong; simp only [decide_eq_false_iff_not, gt_iff_lt, Nat.not_lt]; rw [sizeLine_eq]; omega
  simp [this]

section
variable {w : World} {p : Program} {loose : List Str} {mean : ExcName → Option Value} {mg mb : Str → Option Value}

theorem uses_ctr {news : List (Addr × Obj)} {r : Addr} {op x : Str} {t xt : Tok} {ps us : List Value} {n : Nat} (hr : (r, tupO (.str op t :: ps) n) ∈ news) (hs : Shp w op x xt) (hl : x.cps.size = ps.length) (hn : ps.length < 100) (ha : x.cps.all (· < 128) = true)
    (hus : Uses news x.cps.toList ps us) (hz : us.length < 1000) :
    Ctr w p loose mean mg mb 6 103 news [.ref r] (fun v tl => ∃ a k, v = .ref a ∧ tl = [(a, lstO us k)]) := by
  (intro dp un gd cn cs a ccd cl outer A₀ base h₀ L m s Q E B F X N T hk hd hu hret
   refine wpAny_call ?_
   k_dflt (refine' code_def (binds := [(Str.ofString "row", .ref r)]) ?k1 ?k2 ?k3 ?k4 ?k5 ?kA ?kF ?kK ?k6 ?k7 ?k8 ?k9 ?kB ?_ ?c2 ?c3 ?c4 ?c5; (case kA => exact rfl); (case kF => exact rfl); (case kK => assumption); (case k1 => k_asm); (case k2 => k_asm); (case k3 => k_asm); (case k4 => k_asm); (case k5 => k_asm); (case k6 => k_is); (case k7 => k_is); (case k8 => ktr_room); (case k9 => exact BindsTo.of_eq rfl); (case c5 => decide); (case kB => exact locs rfl); (case c2 => exact rfl); (case c3 => exact rfl); (case c4 => exact rfl); k_whole)
   intro g' L' h' FG' F' N' B' X' T'
   (try dsimp only)
   (try k_fold))
  (repeat' (first | (k_unfold; (try dsimp only)) | (k_end; wrow_close) | ((fail_if_success (fail_if_success (with_reducible show wpAny _ _ (call _ _ _) _ _ _))); first | ((fail_if_success (fail_if_success (with_reducible show wpAny _ _ (call (Value.type "zip") _ _) _ _ _))); with_reducible (k_here; k_dflt (refine call_zipK (by k_asm) (by k_asm) (by k_mem) (by assumption) ?_); intro _ _ _ _ _)) | (with_reducible (k_here; (fail_if_success (fail_if_success (with_reducible show wpAny _ _ (call (Value.ref _) [_]) _ _ _))); k_dflt (refine Ctr.same (by k_asm) (by k_asm) (by k_asm) (by k_asm) (by k_asm) (by exact rfl) (by ktr_room) (by ktr_units) (shape_ctr (by k_mem) (by assumption) (by assumption) (by assumption)) ?_); (intro _ _ _ _ _); (try dsimp only); (try k_fold)))) | ((fail_if_success (fail_if_success (with_reducible show wpAny _ _ (subscriptTail _ _ _ _) _ _ _))); first | (with_reducible (k_here; (fail_if_success (fail_if_success (with_reducible show wpAny _ _ (subscriptTail _ _ (Value.ref _) (Value.int _ _)) _ _ _))); first | ((fail_if_success (fail_if_success (with_reducible show wpAny _ _ (subscriptTail _ _ _ (Value.int 0 _)) _ _ _))); (with_unfolding_all refine row0 (by k_asm) (by k_mem) ?_ (by with_unfolding_all rfl))) | ((fail_if_success (fail_if_success (with_reducible show wpAny _ _ (subscriptTail _ _ _ (Value.int 1 _)) _ _ _))); (with_unfolding_all refine row1 (by k_asm) (by k_mem) ?_ (by with_unfolding_all rfl))) | ((fail_if_success (fail_if_success (with_reducible show wpAny _ _ (subscriptTail _ _ _ (Value.int 2 _)) _ _ _))); (with_unfolding_all refine row2 (by k_asm) (by k_mem) ?_ (by with_unfolding_all rfl))) | ((fail_if_success (fail_if_success (with_reducible show wpAny _ _ (subscriptTail _ _ _ (Value.int 3 _)) _ _ _))); (with_unfolding_all refine row3 (by k_asm) (by k_mem) ?_ (by with_unfolding_all rfl))) | ((fail_if_success (fail_if_success (with_reducible show wpAny _ _ (subscriptTail _ _ _ (Value.int 4 _)) _ _ _))); (with_unfolding_all refine row4 (by k_asm) (by k_mem) ?_ (by with_unfolding_all rfl))) | ((fail_if_success (fail_if_success (with_reducible show wpAny _ _ (subscriptTail _ _ _ (Value.int (Nat.cast _) _)) _ _ _))); (with_unfolding_all refine row_i _ (by k_asm) (by k_mem) (by assumption) (by omega) ?_ (by with_unfolding_all rfl))))) | (with_reducible (k_here; (fail_if_success (fail_if_success (with_reducible show wpAny _ _ (subscriptTail _ _ (Value.ref _) (Value.ref _)) _ _ _))); (with_unfolding_all refine row_tail (by k_asm) (by k_asm) (by k_mem) (by assumption) ?_ (by with_unfolding_all rfl) (by (intro _; with_unfolding_all rfl))); intro _ _ _ _ _))) | walk1 | (dsimp only; walk1) | (leave1; walk_say "STEP leave1"; try dsimp only) | fail "no step"))
  rename_i fa _ l1 _ _ _ _ _ _ _ _ Dp _ _ _ l9 h8 z8 F8 N8 Z8
  refine zipLoop (UJ news us ps x Dp fa (fun y => if y = Str.ofString "found" then some (Value.ref fa) else List.lookup y [(Str.ofString "row", Value.ref r)].reverse))
    rfl rfl hl Z8 F8 N8 ⟨[], us, 0, none, none, by simpa using hus, rfl, rfl, ?_⟩ ?_ ?_
  · funext y
    by_cases h1 : y = Str.ofString "part"
    · subst h1; rfl
    by_cases h2 : y = Str.ofString "letter"
    · subst h2; rfl
    rw [if_neg h1, if_neg h2]
  · intro i c u v m₁ n₁ s₁ own hs₁ hc hv hJ hmap hown F₁ N₁
    obtain ⟨us₀, us₁, k, vp, vl, hU, he, rfl, rfl⟩ := hJ
    obtain ⟨hh, tkk, rfl⟩ := hs₁
    have dc : x.cps.toList.drop i = c :: x.cps.toList.drop (i + 1) := by
      obtain ⟨hi, e⟩ := Array.getElem?_eq_some_iff.mp hc
      rw [List.drop_eq_getElem_cons (by simpa using hi)]; simp [e]
    have dv : ps.drop i = v :: ps.drop (i + 1) := by
      obtain ⟨hi, e⟩ := List.getElem?_eq_some_iff.mp hv
      rw [List.drop_eq_getElem_cons hi, e]
    rw [dc, dv] at hU
    have fne : ∀ q ∈ own, q.1 ≠ fa := fun q hq => by
      rcases hown q hq with e | e
      · rw [e]; exact Nat.ne_of_gt (l9 _ List.mem_cons_self)
      · exact (e (fa, W.listOf #[] 0) (by simp)).symm
    have fdp : ((Dp, tupO ps 0) : Addr × Obj).1 ≠ fa := Nat.ne_of_gt (l9 _ List.mem_cons_self)
    have fnw : ∀ q ∈ news, q.1 ≠ fa := fun q hq => Nat.ne_of_lt (l1 q hq)
    have hz0 : us₀.length + us₁.length < 1000 := by rw [← List.length_append, he]; exact hz
    clear F8 N8 Z8
    dsimp only at F₁ N₁
    cases hU
    · rename_i us₁ hU
      (repeat' (first | (k_unfold; (try dsimp only)) | (k_end; wrow_close) | ((fail_if_success (fail_if_success (with_reducible show wpAny _ _ (call _ _ _) _ _ _))); first | ((fail_if_success (fail_if_success (with_reducible show wpAny _ _ (call (Value.type "zip") _ _) _ _ _))); with_reducible (k_here; k_dflt (refine call_zipK (by k_asm) (by k_asm) (by k_mem) (by assumption) ?_); intro _ _ _ _ _)) | (with_reducible (k_here; (fail_if_success (fail_if_success (with_reducible show wpAny _ _ (call (Value.ref _) [_]) _ _ _))); k_dflt (refine Ctr.same (by k_asm) (by k_asm) (by k_asm) (by k_asm) (by k_asm) (by exact rfl) (by ktr_room) (by ktr_units) (shape_ctr (by k_mem) (by assumption) (by assumption) (by assumption)) ?_); (intro _ _ _ _ _); (try dsimp only); (try k_fold)))) | ((fail_if_success (fail_if_success (with_reducible show wpAny _ _ (subscriptTail _ _ _ _) _ _ _))); first | (with_reducible (k_here; (fail_if_success (fail_if_success (with_reducible show wpAny _ _ (subscriptTail _ _ (Value.ref _) (Value.int _ _)) _ _ _))); first | ((fail_if_success (fail_if_success (with_reducible show wpAny _ _ (subscriptTail _ _ _ (Value.int 0 _)) _ _ _))); (with_unfolding_all refine row0 (by k_asm) (by k_mem) ?_ (by with_unfolding_all rfl))) | ((fail_if_success (fail_if_success (with_reducible show wpAny _ _ (subscriptTail _ _ _ (Value.int 1 _)) _ _ _))); (with_unfolding_all refine row1 (by k_asm) (by k_mem) ?_ (by with_unfolding_all rfl))) | ((fail_if_success (fail_if_success (with_reducible show wpAny _ _ (subscriptTail _ _ _ (Value.int 2 _)) _ _ _))); (with_unfolding_all refine row2 (by k_asm) (by k_mem) ?_ (by with_unfolding_all rfl))) | ((fail_if_success (fail_if_success (with_reducible show wpAny _ _ (subscriptTail _ _ _ (Value.int 3 _)) _ _ _))); (with_unfolding_all refine row3 (by k_asm) (by k_mem) ?_ (by with_unfolding_all rfl))) | ((fail_if_success (fail_if_success (with_reducible show wpAny _ _ (subscriptTail _ _ _ (Value.int 4 _)) _ _ _))); (with_unfolding_all refine row4 (by k_asm) (by k_mem) ?_ (by with_unfolding_all rfl))) | ((fail_if_success (fail_if_success (with_reducible show wpAny _ _ (subscriptTail _ _ _ (Value.int (Nat.cast _) _)) _ _ _))); (with_unfolding_all refine row_i _ (by k_asm) (by k_mem) (by assumption) (by omega) ?_ (by with_unfolding_all rfl))))) | (with_reducible (k_here; (fail_if_success (fail_if_success (with_reducible show wpAny _ _ (subscriptTail _ _ (Value.ref _) (Value.ref _)) _ _ _))); (with_unfolding_all refine row_tail (by k_asm) (by k_asm) (by k_mem) (by assumption) ?_ (by with_unfolding_all rfl) (by (intro _; with_unfolding_all rfl))); intro _ _ _ _ _))) | walk1 | (dsimp only; walk1) | (leave1; walk_say "STEP leave1"; try dsimp only) | fail "no step"))
      refine append_K (its := us₀.toArray) (by assumption) (by assumption) (upd_app2 fnw fdp fne) (fun h6 F6 N6 => ?_) (by rw [List.size_toArray, sizeLine_eq]; omega)
      (repeat' (first | (k_unfold; (try dsimp only)) | (k_end; wrow_close) | ((fail_if_success (fail_if_success (with_reducible show wpAny _ _ (call _ _ _) _ _ _))); first | ((fail_if_success (fail_if_success (with_reducible show wpAny _ _ (call (Value.type "zip") _ _) _ _ _))); with_reducible (k_here; k_dflt (refine call_zipK (by k_asm) (by k_asm) (by k_mem) (by assumption) ?_); intro _ _ _ _ _)) | (with_reducible (k_here; (fail_if_success (fail_if_success (with_reducible show wpAny _ _ (call (Value.ref _) [_]) _ _ _))); k_dflt (refine Ctr.same (by k_asm) (by k_asm) (by k_asm) (by k_asm) (by k_asm) (by exact rfl) (by ktr_room) (by ktr_units) (shape_ctr (by k_mem) (by assumption) (by assumption) (by assumption)) ?_); (intro _ _ _ _ _); (try dsimp only); (try k_fold)))) | ((fail_if_success (fail_if_success (with_reducible show wpAny _ _ (subscriptTail _ _ _ _) _ _ _))); first | (with_reducible (k_here; (fail_if_success (fail_if_success (with_reducible show wpAny _ _ (subscriptTail _ _ (Value.ref _) (Value.int _ _)) _ _ _))); first | ((fail_if_success (fail_if_success (with_reducible show wpAny _ _ (subscriptTail _ _ _ (Value.int 0 _)) _ _ _))); (with_unfolding_all refine row0 (by k_asm) (by k_mem) ?_ (by with_unfolding_all rfl))) | ((fail_if_success (fail_if_success (with_reducible show wpAny _ _ (subscriptTail _ _ _ (Value.int 1 _)) _ _ _))); (with_unfolding_all refine row1 (by k_asm) (by k_mem) ?_ (by with_unfolding_all rfl))) | ((fail_if_success (fail_if_success (with_reducible show wpAny _ _ (subscriptTail _ _ _ (Value.int 2 _)) _ _ _))); (with_unfolding_all refine row2 (by k_asm) (by k_mem) ?_ (by with_unfolding_all rfl))) | ((fail_if_success (fail_if_success (with_reducible show wpAny _ _ (subscriptTail _ _ _ (Value.int 3 _)) _ _ _))); (with_unfolding_all refine row3 (by k_asm) (by k_mem) ?_ (by with_unfolding_all rfl))) | ((fail_if_success (fail_if_success (with_reducible show wpAny _ _ (subscriptTail _ _ _ (Value.int 4 _)) _ _ _))); (with_unfolding_all refine row4 (by k_asm) (by k_mem) ?_ (by with_unfolding_all rfl))) | ((fail_if_success (fail_if_success (with_reducible show wpAny _ _ (subscriptTail _ _ _ (Value.int (Nat.cast _) _)) _ _ _))); (with_unfolding_all refine row_i _ (by k_asm) (by k_mem) (by assumption) (by omega) ?_ (by with_unfolding_all rfl))))) | (with_reducible (k_here; (fail_if_success (fail_if_success (with_reducible show wpAny _ _ (subscriptTail _ _ (Value.ref _) (Value.ref _)) _ _ _))); (with_unfolding_all refine row_tail (by k_asm) (by k_asm) (by k_mem) (by assumption) ?_ (by with_unfolding_all rfl) (by (intro _; with_unfolding_all rfl))); intro _ _ _ _ _))) | walk1 | (dsimp only; walk1) | (leave1; walk_say "STEP leave1"; try dsimp only) | fail "no step"))
      refine ⟨us₀ ++ [v], us₁, k + 1, some v, some (.str ⟨#[115]⟩ u), hU, by rw [← he]; simp, by simp, two_map⟩
    · rename_i us₁ a₁ vs₁ n₁ hm hne hU
      (repeat' (first | (k_unfold; (try dsimp only)) | (k_end; wrow_close) | ((fail_if_success (fail_if_success (with_reducible show wpAny _ _ (call _ _ _) _ _ _))); first | ((fail_if_success (fail_if_success (with_reducible show wpAny _ _ (call (Value.type "zip") _ _) _ _ _))); with_reducible (k_here; k_dflt (refine call_zipK (by k_asm) (by k_asm) (by k_mem) (by assumption) ?_); intro _ _ _ _ _)) | (with_reducible (k_here; (fail_if_success (fail_if_success (with_reducible show wpAny _ _ (call (Value.ref _) [_]) _ _ _))); k_dflt (refine Ctr.same (by k_asm) (by k_asm) (by k_asm) (by k_asm) (by k_asm) (by exact rfl) (by ktr_room) (by ktr_units) (shape_ctr (by k_mem) (by assumption) (by assumption) (by assumption)) ?_); (intro _ _ _ _ _); (try dsimp only); (try k_fold)))) | ((fail_if_success (fail_if_success (with_reducible show wpAny _ _ (subscriptTail _ _ _ _) _ _ _))); first | (with_reducible (k_here; (fail_if_success (fail_if_success (with_reducible show wpAny _ _ (subscriptTail _ _ (Value.ref _) (Value.int _ _)) _ _ _))); first | ((fail_if_success (fail_if_success (with_reducible show wpAny _ _ (subscriptTail _ _ _ (Value.int 0 _)) _ _ _))); (with_unfolding_all refine row0 (by k_asm) (by k_mem) ?_ (by with_unfolding_all rfl))) | ((fail_if_success (fail_if_success (with_reducible show wpAny _ _ (subscriptTail _ _ _ (Value.int 1 _)) _ _ _))); (with_unfolding_all refine row1 (by k_asm) (by k_mem) ?_ (by with_unfolding_all rfl))) | ((fail_if_success (fail_if_success (with_reducible show wpAny _ _ (subscriptTail _ _ _ (Value.int 2 _)) _ _ _))); (with_unfolding_all refine row2 (by k_asm) (by k_mem) ?_ (by with_unfolding_all rfl))) | ((fail_if_success (fail_if_success (with_reducible show wpAny _ _ (subscriptTail _ _ _ (Value.int 3 _)) _ _ _))); (with_unfolding_all refine row3 (by k_asm) (by k_mem) ?_ (by with_unfolding_all rfl))) | ((fail_if_success (fail_if_success (with_reducible show wpAny _ _ (subscriptTail _ _ _ (Value.int 4 _)) _ _ _))); (with_unfolding_all refine row4 (by k_asm) (by k_mem) ?_ (by with_unfolding_all rfl))) | ((fail_if_success (fail_if_success (with_reducible show wpAny _ _ (subscriptTail _ _ _ (Value.int (Nat.cast _) _)) _ _ _))); (with_unfolding_all refine row_i _ (by k_asm) (by k_mem) (by assumption) (by omega) ?_ (by with_unfolding_all rfl))))) | (with_reducible (k_here; (fail_if_success (fail_if_success (with_reducible show wpAny _ _ (subscriptTail _ _ (Value.ref _) (Value.ref _)) _ _ _))); (with_unfolding_all refine row_tail (by k_asm) (by k_asm) (by k_mem) (by assumption) ?_ (by with_unfolding_all rfl) (by (intro _; with_unfolding_all rfl))); intro _ _ _ _ _))) | walk1 | (dsimp only; walk1) | (leave1; walk_say "STEP leave1"; try dsimp only) | fail "no step"))
      refine kup_extend (its := us₀.toArray) (its2 := vs₁.toArray) (by assumption) (by assumption) (by k_mem) rfl (by simpa using hne) (upd_app2 fnw fdp fne) (not_too_long (by simp only [List.size_toArray]; simp only [List.length_append] at hz0; omega)) (by rw [sizeLine_eq]; simp; omega) (by rw [sizeLine_eq]; simp only [List.size_toArray]; simp only [List.length_append] at hz0; omega) (fun h6 F6 N6 => ?_)
      (repeat' (first | (k_unfold; (try dsimp only)) | (k_end; wrow_close) | ((fail_if_success (fail_if_success (with_reducible show wpAny _ _ (call _ _ _) _ _ _))); first | ((fail_if_success (fail_if_success (with_reducible show wpAny _ _ (call (Value.type "zip") _ _) _ _ _))); with_reducible (k_here; k_dflt (refine call_zipK (by k_asm) (by k_asm) (by k_mem) (by assumption) ?_); intro _ _ _ _ _)) | (with_reducible (k_here; (fail_if_success (fail_if_success (with_reducible show wpAny _ _ (call (Value.ref _) [_]) _ _ _))); k_dflt (refine Ctr.same (by k_asm) (by k_asm) (by k_asm) (by k_asm) (by k_asm) (by exact rfl) (by ktr_room) (by ktr_units) (shape_ctr (by k_mem) (by assumption) (by assumption) (by assumption)) ?_); (intro _ _ _ _ _); (try dsimp only); (try k_fold)))) | ((fail_if_success (fail_if_success (with_reducible show wpAny _ _ (subscriptTail _ _ _ _) _ _ _))); first | (with_reducible (k_here; (fail_if_success (fail_if_success (with_reducible show wpAny _ _ (subscriptTail _ _ (Value.ref _) (Value.int _ _)) _ _ _))); first | ((fail_if_success (fail_if_success (with_reducible show wpAny _ _ (subscriptTail _ _ _ (Value.int 0 _)) _ _ _))); (with_unfolding_all refine row0 (by k_asm) (by k_mem) ?_ (by with_unfolding_all rfl))) | ((fail_if_success (fail_if_success (with_reducible show wpAny _ _ (subscriptTail _ _ _ (Value.int 1 _)) _ _ _))); (with_unfolding_all refine row1 (by k_asm) (by k_mem) ?_ (by with_unfolding_all rfl))) | ((fail_if_success (fail_if_success (with_reducible show wpAny _ _ (subscriptTail _ _ _ (Value.int 2 _)) _ _ _))); (with_unfolding_all refine row2 (by k_asm) (by k_mem) ?_ (by with_unfolding_all rfl))) | ((fail_if_success (fail_if_success (with_reducible show wpAny _ _ (subscriptTail _ _ _ (Value.int 3 _)) _ _ _))); (with_unfolding_all refine row3 (by k_asm) (by k_mem) ?_ (by with_unfolding_all rfl))) | ((fail_if_success (fail_if_success (with_reducible show wpAny _ _ (subscriptTail _ _ _ (Value.int 4 _)) _ _ _))); (with_unfolding_all refine row4 (by k_asm) (by k_mem) ?_ (by with_unfolding_all rfl))) | ((fail_if_success (fail_if_success (with_reducible show wpAny _ _ (subscriptTail _ _ _ (Value.int (Nat.cast _) _)) _ _ _))); (with_unfolding_all refine row_i _ (by k_asm) (by k_mem) (by assumption) (by omega) ?_ (by with_unfolding_all rfl))))) | (with_reducible (k_here; (fail_if_success (fail_if_success (with_reducible show wpAny _ _ (subscriptTail _ _ (Value.ref _) (Value.ref _)) _ _ _))); (with_unfolding_all refine row_tail (by k_asm) (by k_asm) (by k_mem) (by assumption) ?_ (by with_unfolding_all rfl) (by (intro _; with_unfolding_all rfl))); intro _ _ _ _ _))) | walk1 | (dsimp only; walk1) | (leave1; walk_say "STEP leave1"; try dsimp only) | fail "no step"))
      refine ⟨us₀ ++ vs₁, us₁, k + 1, some (.ref a₁), some (.str ⟨#[109]⟩ u), hU, by rw [← he]; simp, by simp, two_map⟩
    · rename_i h115 h109 hU
      have e1 : ¬ (((⟨#[c]⟩ : Str) == Str.ofString "s") = true) := fun e => h115 (by replace e := eq_of_beq e; have h := congrArg Str.cps e; rw [show (Str.ofString "s").cps = #[115] from rfl] at h; simpa using h)
      have e2 : ¬ (((⟨#[c]⟩ : Str) == Str.ofString "m") = true) := fun e => h109 (by replace e := eq_of_beq e; have h := congrArg Str.cps e; rw [show (Str.ofString "m").cps = #[109] from rfl] at h; simpa using h)
      (repeat' (first | (k_unfold; (try dsimp only)) | (k_end; wrow_close) | ((fail_if_success (fail_if_success (with_reducible show wpAny _ _ (call _ _ _) _ _ _))); first | ((fail_if_success (fail_if_success (with_reducible show wpAny _ _ (call (Value.type "zip") _ _) _ _ _))); with_reducible (k_here; k_dflt (refine call_zipK (by k_asm) (by k_asm) (by k_mem) (by assumption) ?_); intro _ _ _ _ _)) | (with_reducible (k_here; (fail_if_success (fail_if_success (with_reducible show wpAny _ _ (call (Value.ref _) [_]) _ _ _))); k_dflt (refine Ctr.same (by k_asm) (by k_asm) (by k_asm) (by k_asm) (by k_asm) (by exact rfl) (by ktr_room) (by ktr_units) (shape_ctr (by k_mem) (by assumption) (by assumption) (by assumption)) ?_); (intro _ _ _ _ _); (try dsimp only); (try k_fold)))) | ((fail_if_success (fail_if_success (with_reducible show wpAny _ _ (subscriptTail _ _ _ _) _ _ _))); first | (with_reducible (k_here; (fail_if_success (fail_if_success (with_reducible show wpAny _ _ (subscriptTail _ _ (Value.ref _) (Value.int _ _)) _ _ _))); first | ((fail_if_success (fail_if_success (with_reducible show wpAny _ _ (subscriptTail _ _ _ (Value.int 0 _)) _ _ _))); (with_unfolding_all refine row0 (by k_asm) (by k_mem) ?_ (by with_unfolding_all rfl))) | ((fail_if_success (fail_if_success (with_reducible show wpAny _ _ (subscriptTail _ _ _ (Value.int 1 _)) _ _ _))); (with_unfolding_all refine row1 (by k_asm) (by k_mem) ?_ (by with_unfolding_all rfl))) | ((fail_if_success (fail_if_success (with_reducible show wpAny _ _ (subscriptTail _ _ _ (Value.int 2 _)) _ _ _))); (with_unfolding_all refine row2 (by k_asm) (by k_mem) ?_ (by with_unfolding_all rfl))) | ((fail_if_success (fail_if_success (with_reducible show wpAny _ _ (subscriptTail _ _ _ (Value.int 3 _)) _ _ _))); (with_unfolding_all refine row3 (by k_asm) (by k_mem) ?_ (by with_unfolding_all rfl))) | ((fail_if_success (fail_if_success (with_reducible show wpAny _ _ (subscriptTail _ _ _ (Value.int 4 _)) _ _ _))); (with_unfolding_all refine row4 (by k_asm) (by k_mem) ?_ (by with_unfolding_all rfl))) | ((fail_if_success (fail_if_success (with_reducible show wpAny _ _ (subscriptTail _ _ _ (Value.int (Nat.cast _) _)) _ _ _))); (with_unfolding_all refine row_i _ (by k_asm) (by k_mem) (by assumption) (by omega) ?_ (by with_unfolding_all rfl))))) | (with_reducible (k_here; (fail_if_success (fail_if_success (with_reducible show wpAny _ _ (subscriptTail _ _ (Value.ref _) (Value.ref _)) _ _ _))); (with_unfolding_all refine row_tail (by k_asm) (by k_asm) (by k_mem) (by assumption) ?_ (by with_unfolding_all rfl) (by (intro _; with_unfolding_all rfl))); intro _ _ _ _ _))) | walk1 | (dsimp only; walk1) | (leave1; walk_say "STEP leave1"; try dsimp only) | fail "no step"))
      refine ⟨us₀, us₁, k, some v, some (.str ⟨#[c]⟩ u), hU, he, rfl, two_map⟩
  · intro h7 tk7 m7 n7 F7 N7 hmap hJ
    obtain ⟨us₀, us₁, k, vp, vl, hU, he, rfl, rfl⟩ := hJ
    have e0 : us₁ = [] := by
      rw [List.drop_of_length_le (by simp [hl]), List.drop_of_length_le (Nat.le_refl _)] at hU
      cases hU; rfl
    subst e0
    rw [List.append_nil] at he
    subst he
    (repeat' (first | (k_unfold; (try dsimp only)) | (k_end; wrow_close) | ((fail_if_success (fail_if_success (with_reducible show wpAny _ _ (call _ _ _) _ _ _))); first | ((fail_if_success (fail_if_success (with_reducible show wpAny _ _ (call (Value.type "zip") _ _) _ _ _))); with_reducible (k_here; k_dflt (refine call_zipK (by k_asm) (by k_asm) (by k_mem) (by assumption) ?_); intro _ _ _ _ _)) | (with_reducible (k_here; (fail_if_success (fail_if_success (with_reducible show wpAny _ _ (call (Value.ref _) [_]) _ _ _))); k_dflt (refine Ctr.same (by k_asm) (by k_asm) (by k_asm) (by k_asm) (by k_asm) (by exact rfl) (by ktr_room) (by ktr_units) (shape_ctr (by k_mem) (by assumption) (by assumption) (by assumption)) ?_); (intro _ _ _ _ _); (try dsimp only); (try k_fold)))) | ((fail_if_success (fail_if_success (with_reducible show wpAny _ _ (subscriptTail _ _ _ _) _ _ _))); first | (with_reducible (k_here; (fail_if_success (fail_if_success (with_reducible show wpAny _ _ (subscriptTail _ _ (Value.ref _) (Value.int _ _)) _ _ _))); first | ((fail_if_success (fail_if_success (with_reducible show wpAny _ _ (subscriptTail _ _ _ (Value.int 0 _)) _ _ _))); (with_unfolding_all refine row0 (by k_asm) (by k_mem) ?_ (by with_unfolding_all rfl))) | ((fail_if_success (fail_if_success (with_reducible show wpAny _ _ (subscriptTail _ _ _ (Value.int 1 _)) _ _ _))); (with_unfolding_all refine row1 (by k_asm) (by k_mem) ?_ (by with_unfolding_all rfl))) | ((fail_if_success (fail_if_success (with_reducible show wpAny _ _ (subscriptTail _ _ _ (Value.int 2 _)) _ _ _))); (with_unfolding_all refine row2 (by k_asm) (by k_mem) ?_ (by with_unfolding_all rfl))) | ((fail_if_success (fail_if_success (with_reducible show wpAny _ _ (subscriptTail _ _ _ (Value.int 3 _)) _ _ _))); (with_unfolding_all refine row3 (by k_asm) (by k_mem) ?_ (by with_unfolding_all rfl))) | ((fail_if_success (fail_if_success (with_reducible show wpAny _ _ (subscriptTail _ _ _ (Value.int 4 _)) _ _ _))); (with_unfolding_all refine row4 (by k_asm) (by k_mem) ?_ (by with_unfolding_all rfl))) | ((fail_if_success (fail_if_success (with_reducible show wpAny _ _ (subscriptTail _ _ _ (Value.int (Nat.cast _) _)) _ _ _))); (with_unfolding_all refine row_i _ (by k_asm) (by k_mem) (by assumption) (by omega) ?_ (by with_unfolding_all rfl))))) | (with_reducible (k_here; (fail_if_success (fail_if_success (with_reducible show wpAny _ _ (subscriptTail _ _ (Value.ref _) (Value.ref _)) _ _ _))); (with_unfolding_all refine row_tail (by k_asm) (by k_asm) (by k_mem) (by assumption) ?_ (by with_unfolding_all rfl) (by (intro _; with_unfolding_all rfl))); intro _ _ _ _ _))) | walk1 | (dsimp only; walk1) | (leave1; walk_say "STEP leave1"; try dsimp only) | fail "no step"))
    exact hret _ [(fa, lstO us₀ k)] _ _ (by assumption) (fun q hq => by have N9 := ‹News h₀ L _ ((Dp, tupO ps 0) :: (fa, lstO us₀ k) :: news)›; exact N9 q (.tail _ hq)) (fun q hq z hz => by rw [List.mem_singleton.mp hz]; exact l1 q hq) ⟨_, _, rfl, rfl⟩
end
end Mine
end
section
set_option maxRecDepth 100000
namespace Mine
local macro_rules | `(tactic| walk_at "idle 0") => `(tactic| fail)
open PySem PySem.Spec PySem.Calls PyProof.Rows PySem.W PyProof.Rows.LCg

def pickZ (q : Nat → Value → Bool) : List Nat → List Value → List Value
  | c :: cs, v :: vs => if q c v then v :: pickZ q cs vs else pickZ q cs vs
  | _, _ => []

section
variable {prog : Program} {w : World} {A : Around} {E : Value → Shared → Prop} {s : Shared} {h₀ : Heap} {L : Addr} {m : Str → Option Value} {env : Env}

theorem fr_off {h h' : Heap} {wr : List Addr} (F : Fr h₀ L h m) (hk : ∀ b o, b ∉ wr → h.get? b = some o → h'.get? b = some o) (hL : L ∉ wr) (h0 : ∀ b ∈ wr, h₀.get? b = none) : Fr h₀ L h' m :=
  ⟨F.ns.at' fun o e => hk L o hL e, fun b o e => hk b o (fun hm => by rw [h0 b hm] at e; cases e) (F.keep b o e), F.above⟩
theorem news_off {h h' : Heap} {wr : List Addr} {news : List (Addr × Obj)} (N : News h₀ L h news) (hk : ∀ b o, b ∉ wr → h.get? b = some o → h'.get? b = some o) (off : ∀ p ∈ news, p.1 ∉ wr) : News h₀ L h' news :=
  fun p hp => ⟨hk _ _ (off p hp) (N p hp).1, (N p hp).2⟩

def ZipSrc (prog : Program) (w : World) (A : Around) (h₀ : Heap) (L : Addr) (m : Str → Option Value) (env : Env) (q : Nat → Value → Bool) (c : Expr) (a b : Str) (scope : Scope) (cl : List (Str × Addr)) (Q : Value → Shared → Prop) (xv : Value) (s₁ : Shared) : Prop :=
  ∃ (z p : Addr) (x : Str) (ys : List Value) (news : List (Addr × Obj)), xv = .ref z ∧ Fr h₀ L s₁.heap m ∧ News h₀ L s₁.heap news ∧ ZipReady h₀ L news x p ys z s₁.heap ∧ x.cps.size = ys.length ∧ ys.length ≤ 1000 ∧
      (∀ (i c' : Nat) u v C oC h tk m₂ E', x.cps[i]? = some c' → ys[i]? = some v → NsObj oC m₂ → m₂ a = some (.str ⟨#[c']⟩ u) → m₂ b = some v → Fr h₀ L h m → News h₀ L h ((C, oC) :: news) →
        wpAny (model prog w) A (isTrue c (compEnvC scope cl C env) (eval c (compEnvC scope cl C env))) (fun ok s₃ => ok = q c' v ∧ Keeps { s₁ with heap := h, toks := tk } s₃) E' { s₁ with heap := h, toks := tk }) ∧
      (∀ D h' tk, Fr h₀ L h' m → News h₀ L h' ((D, lst (pickZ q x.cps.toList ys)) :: news) → (∀ p ∈ news, p.1 < D) → Q (.ref D) { s₁ with heap := h', toks := tk })

theorem zipComp {iter c : Expr} {a b : Str} {pa pb tp pe : Pos} {kk : Nat} {scope : Scope} {cl : List (Str × Addr)} {pos : Pos} {Q : Value → Shared → Prop} (q : Nat → Value → Bool) (_F : Fr h₀ L s.heap m) (_hLe : env.locals = L)
    (hclos : closureFor scope env = pure cl) (hcell : ∀ y ∈ scope.names, y.2 ≠ .cell) (hkind : scope.kind = .function)
    (hnames : ∀ y ∈ scope.names, y.2 = .local → scope.names.lookup y.1 = some .local) (hxa : scope.names.lookup a = some .local) (hxb : scope.names.lookup b = some .local) (hab : ¬ a = b) (hbd : (b == ("__debug__" : Str)) = false)
    (hh : A.handled = none)
      (h : wpAny (model prog w) A (eval iter env) (ZipSrc prog w A h₀ L m env q c a b scope cl Q) E s)
    (hs : ∀ x, foldedSetIterable iter env x = pure x := by intro _; rfl) :
    wpAny (model prog w) A (eval (.ListComp (.Name b pe) [⟨.Tuple [.Name a pa, .Name b pb] kk tp, iter, [c], 0⟩] scope pos) env) Q E s := by
  rw [eval_ListComp]
  refine wpAny_comprehension_free (use := none) rfl hs hclos hkind hnames (wpAny_mono h (fun xv s₁ h₁ => ?_) fun _ _ e => e)
  obtain ⟨z, p, x, ys, news, rfl, F, N, Z, hx, hys, htest, hQ⟩ := h₁
  obtain ⟨TI, TO, i1, i2, t, D0, g1, g2, g3, g4, g5, g6, hpi, fr, hLp⟩ := Z
  have hh' : A.in1.handled = none := hh
  have W := walksZip (n := x.cps.size) D0 (Draws.strAscii (prog := prog) (w := w) hh' i1 x t) (by have := drawsTuple (prog := prog) (w := w) hh' i2 p hpi ys.toArray; rwa [List.size_toArray, ← hx] at this)
  have hst := (⟨g1, g2, g3, g4, g5, g6⟩ : IsZip s₁.heap z TI TO .none ∧ IsPair s₁.heap TI (.ref i1) (.ref i2) ∧ (∃ a b, IsPair s₁.heap TO a b) ∧ s₁.heap.IsStrIter i1 "str_ascii_iterator" x t 0 ∧ s₁.heap.IsTupleIter i2 p 0 ∧ s₁.heap.IsTuple p ys.toArray)
  have fpl : ∀ y ∈ [z, TI, TO] ++ ([i1] ++ [i2, p]), y < s₁.heap.objs.size := fun y hy => by
    simp only [List.mem_cons, List.not_mem_nil, or_false, List.mem_append] at hy
    obtain ⟨_, _, e3⟩ := g3
    obtain ⟨_, e4, _⟩ := g4
    obtain ⟨_, e5, _⟩ := g5
    obtain ⟨_, e6, _⟩ := g6
    rcases hy with (e | e | e) | e | e | e <;> subst e <;> first | exact Heap.lt_size g1 | exact Heap.lt_size g2 | exact Heap.lt_size e3 | exact Heap.lt_size e4 | exact Heap.lt_size e5 | exact Heap.lt_size e6
  have wrf : ∀ y ∈ [z, TO, i1, i2], L ≠ y ∧ h₀.get? y = none ∧ ∀ q ∈ news, q.1 ≠ y := fun y hy => by
    refine fr y ?_
    simp only [List.mem_cons, List.not_mem_nil, or_false] at hy ⊢
    rcases hy with e | e | e | e <;> simp [e]
  have hLw : L ∉ [z, TO, i1, i2] := fun e => (wrf L e).1 rfl
  generalize hfp : [z, TI, TO] ++ ([i1] ++ [i2, p]) = fp at W fpl
  generalize hwr : [z, TO, i1, i2] = wr at W wrf hLw
  refine W.self 0 _ _ _ hst ?_
  refine wpAny_newObj_type (wpAny_newFunctionEnv hcell (by intro y hy; simp at hy) (fun h₁ hns₁ hsb₁ => ?_) hkind)
  dsimp only at hns₁ hsb₁ ⊢
  generalize hH2 : s₁.heap.push { cls := .type "list", dict := none, data := .seq ([] : List Value).toArray } = H2 at hns₁ hsb₁ ⊢
  have hC : H2.objs.size = s₁.heap.objs.size + 1 := by rw [← hH2, Heap.size_push]
  have hDC : s₁.heap.objs.size ≠ H2.objs.size := by rw [hC]; exact Nat.ne_of_lt (Nat.lt_succ_self _)
  have below : ∀ b, b < s₁.heap.objs.size → b ≠ H2.objs.size ∧ b ≠ s₁.heap.objs.size := fun b hb => ⟨by rw [hC]; exact Nat.ne_of_lt (Nat.lt_succ_of_lt hb), Nat.ne_of_lt hb⟩
  have old : ∀ b o, s₁.heap.get? b = some o → h₁.get? b = some o := fun b o e => hsb₁.extBut b o (below b (Heap.lt_size e)).1 (Heap.get?_push_of_some _ (hH2 ▸ Heap.get?_push_of_some _ e))
  have hacc : h₁.get? s₁.heap.objs.size = some (lst []) := hsb₁.extBut _ _ hDC (Heap.get?_push_of_some _ (hH2 ▸ Heap.get?_push_size _ rfl))
  have fresh₀ : ∀ a, s₁.heap.objs.size ≤ a → h₀.get? a = none := fun a ha => by
    cases e : h₀.get? a with
    | none => rfl
    | some o' => exact absurd (Heap.lt_size (F.keep a o' e)) (Nat.not_lt.mpr ha)
  have hD₀ : h₀.get? s₁.heap.objs.size = none := fresh₀ _ (Nat.le_refl _)
  have hC₀ : h₀.get? H2.objs.size = none := fresh₀ _ (by rw [hC]; exact Nat.le_succ _)
  have hLlt : L < s₁.heap.objs.size := F.ns.lt
  have hDL : s₁.heap.objs.size ≠ L := Ne.symm (below L hLlt).2
  have hCL : H2.objs.size ≠ L := Ne.symm (below L hLlt).1
  have nlt : ∀ p ∈ news, p.1 < s₁.heap.objs.size := fun p hp => Heap.lt_size (N p hp).1
  have hDw : s₁.heap.objs.size ∉ wr := fun e => Nat.lt_irrefl _ (fpl _ (W.sub _ e))
  have hCw : H2.objs.size ∉ wr := fun e => by have := fpl _ (W.sub _ e); rw [hC] at this; exact Nat.lt_irrefl _ (Nat.lt_of_succ_lt this)
  have nw : ∀ p ∈ news, p.1 ∉ wr := fun p hp e => (wrf _ e).2.2 p hp rfl
  have w0 : ∀ b ∈ wr, h₀.get? b = none := fun b hb => (wrf b hb).2.1
  have loop : ∀ s₃ : Shared, s₃ = { s₁ with heap := h₁, toks := s₁.toks + ([] : List (Str × Value)).length } →
      codeAny (model prog w) A (.compLoop (.ListComp (.Name b pe) [⟨.Tuple [.Name a pa, .Name b pb] kk tp, iter, [c], 0⟩] scope pos) 0 (.ref z) (.ref s₁.heap.objs.size) (compEnvC scope cl H2.objs.size env))
        (compPost (model prog w) A E none Q (.ref s₁.heap.objs.size) H2.objs.size) s₃ := by
    rintro s₃ rfl
    refine kct_loop
      (fun k s' => ∃ h' tk i m' ys', s' = { s₁ with heap := h', toks := tk } ∧ i ≤ x.cps.size ∧ k = x.cps.size + 1 - i ∧ ys'.length ≤ i ∧ (IsZip h' z TI TO .none ∧ IsPair h' TI (.ref i1) (.ref i2) ∧ (∃ a b, IsPair h' TO a b) ∧ h'.IsStrIter i1 "str_ascii_iterator" x t i ∧ h'.IsTupleIter i2 p i ∧ h'.IsTuple p ys.toArray) ∧
        Fr h₀ L h' m ∧ h'.Ns H2.objs.size m' ∧ h'.get? s₁.heap.objs.size = some (lst ys') ∧ News h₀ L h' news ∧ ys' ++ pickZ q (x.cps.toList.drop i) (ys.drop i) = pickZ q x.cps.toList ys) ?_ (x.cps.size + 1)
      ⟨h₁, _, 0, _, [], rfl, Nat.zero_le _, rfl, Nat.le_refl _, W.frame 0 _ _ hst (fun b hb o e => old b o e), F.keeps old, hns₁, hacc, fun p hp => ⟨old _ _ (N p hp).1, (N p hp).2⟩, rfl⟩
    rintro k s' ⟨h', tk, i, m', ys', rfl, hi, rfl, hyl, hst', F', hn', hD', N', hpk⟩
    by_cases hlt : i < x.cps.size
    · refine W.item i _ _ _ hlt hst' fun T vals h₂ tk₂ hP _ hT hMd hk₂ => ?_
      obtain ⟨v0, v1, ⟨c', u, hc', rfl⟩, hv, rfl⟩ := hP
      replace hv : ys[i]? = some v1 := by simpa using hv
      refine W.go _ kk tp i T _ _ _ hMd fun h₃ hst₃ hk₃ => ?_
      have hT₃ : h₃.IsTuple T #[.str ⟨#[c']⟩ u, v1] := let ⟨o, e, r⟩ := hT; ⟨o, hk₃ _ _ (W.apart i T h₂ hMd) e, r⟩
      have up₃ : ∀ c o, c ∉ wr → h'.get? c = some o → h₃.get? c = some o := fun c o hc e => hk₃ c o hc (hk₂ c o hc e)
      refine kcp_assign (env := compEnvC scope cl H2.objs.size env) hh hT₃ (lookup_relabel_local hxa) (lookup_relabel_local hxb) (by simp [compEnvC, relabel, hkind]) (hn'.at' fun o e => up₃ _ o hCw e) fun h₄ tk₄ hn₄ hs₄ => ?_
      have up : ∀ c o, c ∉ wr → c ≠ H2.objs.size → h'.get? c = some o → h₄.get? c = some o := fun c o h1 h2 e => hs₄ c o h2 (up₃ c o h1 e)
      have F₄ : Fr h₀ L h₄ m := ⟨F'.ns.at' fun o e => up _ o hLw (Ne.symm hCL) e, fun c o e => up c o (fun q => by rw [w0 c q] at e; cases e) (fun q => by rw [q, hC₀] at e; cases e) (F'.keep c o e), F'.above⟩
      have N₄ : News h₀ L h₄ news := fun q hq => ⟨up _ _ (nw q hq) (below _ (nlt q hq)).1 (N' q hq).1, (N' q hq).2⟩
      have D₄ : h₄.get? s₁.heap.objs.size = some (lst ys') := up _ _ hDw hDC hD'
      have hst₄ := W.frame (i + 1) _ h₄ hst₃ fun b hb o e => hs₄ b o (fun q => (below _ (fpl _ hb)).1 q) e
      have hnC : h₄.Ns H2.objs.size _ := hn₄
      have dc : x.cps.toList.drop i = c' :: x.cps.toList.drop (i + 1) := by
        obtain ⟨hi, e⟩ := Array.getElem?_eq_some_iff.mp hc'
        rw [List.drop_eq_getElem_cons (by simpa using hi)]; simp [e]
      have dv : ys.drop i = v1 :: ys.drop (i + 1) := by
        obtain ⟨hi, e⟩ := List.getElem?_eq_some_iff.mp hv
        rw [List.drop_eq_getElem_cons hi, e]
      rw [dc, dv] at hpk
      obtain ⟨oC, heC, hoC⟩ := ns_obj hnC
      have NC₄ : News h₀ L h₄ ((H2.objs.size, oC) :: news) := fun q hq => by
        rcases List.mem_cons.mp hq with rfl | hq
        · exact ⟨heC, hCL, hC₀⟩
        · exact N₄ q hq
      refine wpAny_mono (htest i c' u v1 H2.objs.size oC h₄ tk₄ _ _ hc' hv hoC (by simp [hab]) (by simp) F₄ NC₄) (fun ok s₅ h₅ => ?_) fun _ _ e => e
      obtain ⟨rfl, h₅, tk₅, rfl, hk₅⟩ := h₅
      replace hk₅ : ∀ b o, h₄.get? b = some o → h₅.get? b = some o := hk₅
      have F₅ := F₄.keeps hk₅
      have N₅ : News h₀ L h₅ news := fun q hq => ⟨hk₅ _ _ (N₄ q hq).1, (N₄ q hq).2⟩
      have hst₅ := W.frame (i + 1) _ h₅ hst₄ fun b hb o e => hk₅ b o e
      have hn₅ : h₅.Ns H2.objs.size _ := hnC.keeps hk₅
      cases hq : q c' v1 with
      | false =>
        simp only [Bool.false_eq_true, if_false]
        refine ⟨x.cps.size + 1 - (i + 1), by omega, h₅, tk₅, i + 1, _, ys', rfl, hlt, rfl, Nat.le_succ_of_le hyl, hst₅, F₅, hn₅, hk₅ _ _ D₄, N₅, ?_⟩
        rw [← hpk]; simp [pickZ, hq]
      | true =>
        simp only [if_true]
        refine wpAny_Name (wpAny_loadName_local (by simp [compEnvC, relabel, hkind]) (lookup_relabel_local hxb) hn₅ (by simp; rfl) ?_) hbd
        refine append_at (hsz := by rw [List.size_toArray, sizeLine_eq]; omega) (hk₅ _ _ D₄) fun h₆ hs₆ hD₆ => ?_
        replace hs₆ : Heap.SameBut s₁.heap.objs.size h₅ h₆ := hs₆
        refine ⟨x.cps.size + 1 - (i + 1), by omega, h₆, tk₅, i + 1, _, ys' ++ [v1], rfl, hlt, rfl, by simp; omega, W.frame (i + 1) _ h₆ hst₅ (fun b hb o e => hs₆.extBut b o (below _ (fpl _ hb)).2 e), F₅.change hs₆ hDL hD₀, hn₅.sameBut hs₆ (Ne.symm hDC), hD₆.trans (congrArg some (lst_snoc ys' v1)),
          fun q hq => ⟨hs₆.extBut _ _ (below _ (nlt q hq)).2 (N₅ q hq).1, (N₅ q hq).2⟩, ?_⟩
        rw [← hpk]; simp [pickZ, hq]
    · have hin : i = x.cps.size := Nat.le_antisymm hi (Nat.not_lt.mp hlt)
      subst hin
      refine W.done _ _ _ hst' fun h₂ tk₂ hk₂ => ?_
      rw [List.drop_of_length_le (by simp), List.drop_of_length_le (by omega)] at hpk
      have hys' : ys' = pickZ q x.cps.toList ys := by rw [← hpk]; simp [pickZ]
      refine ⟨m', hn'.at' fun o e => hk₂ _ o hCw e, fun h'' hs'' => ?_⟩
      have D₂ : h₂.get? s₁.heap.objs.size = some (lst ys') := hk₂ _ _ hDw hD'
      refine hQ _ h'' tk₂ ((fr_off F' hk₂ hLw w0).change hs'' hCL hC₀) (fun q hq => ?_) nlt
      rcases List.mem_cons.mp hq with rfl | hq
      · exact ⟨hs''.extBut _ _ hDC (hys' ▸ D₂), hDL, hD₀⟩
      · exact ⟨hs''.extBut _ _ (below _ (nlt q hq)).1 (hk₂ _ _ (nw q hq) (N' q hq).1), (N' q hq).2⟩
  refine codeAny_compStart_list (loop _ rfl) (W.self 0 _ _ _ (W.frame 0 _ _ hst fun b hb o e => old b o e) (loop _ rfl))
end
end Mine
end
section
open PySem PySem.W PySem.Spec PySem.Calls PyProof.Rows PyProof.Rows.LCg
namespace Mine
local macro_rules | `(tactic| walk_at "idle 0") => `(tactic| fail)
local macro_rules | `(tactic| walk_at "idle 1") => `(tactic| fail)
set_option pp.deepTerms false
set_option pp.proofs false
set_option maxRecDepth 100000
set_option maxHeartbeats 4000000



theorem sign_eq (c : Nat) (t : Str) (k : Nat) (ht : t.cps = #[k]) : ((⟨#[c]⟩ : Str) == t) = (c == k) := by
  obtain ⟨a⟩ := t
  simp only at ht
  subst ht
  by_cases h : c = k
  · subst h; simp
  · have h1 : ¬ ((⟨#[c]⟩ : Str) = ⟨#[k]⟩) := fun e => h (by simpa using congrArg Str.cps e)
    rw [beq_eq_false_iff_ne.mpr h1, beq_eq_false_iff_ne.mpr h]

section
variable {w : World} {A : Around} {E : Value → Shared → Prop} {s : Shared} {h₀ : Heap} {L : Addr} {m : Str → Option Value} {news : List (Addr × Obj)}
theorem addL {l b : Addr} {vs ws : List Value} {n n2 : Nat} {Q : Value → Shared → Prop} (F : Fr h₀ L s.heap m) (N : News h₀ L s.heap news) (hl : (l, lstO vs n) ∈ news) (hb : (b, lstO ws n2) ∈ news) (hz : vs.length + ws.length ≤ 5000)
    (h : ∀ D h', Fr h₀ L h' m → News h₀ L h' ((D, lstO (vs ++ ws) 0) :: news) → (∀ q ∈ news, q.1 < D) → Q (.ref D) { s with heap := h' }) : wpAny (model prog w) A (binaryOp .Add (.ref l) (.ref b)) Q E s :=
  add_lists F N (N.isList hl) (N.isList hb) (fun h' F' N' => h _ h' F' N' fun q hq => Heap.lt_size (N q hq).1) (by rw [sizeLine_eq]; omega)
theorem pickZ_le (q : Nat → Value → Bool) : ∀ (cs : List Nat) (vs : List Value), (pickZ q cs vs).length ≤ vs.length
  | [], _ => by simp [pickZ]
  | _ :: _, [] => by simp [pickZ]
  | c :: cs, v :: vs => by
    have := pickZ_le q cs vs
    simp only [pickZ]
    split <;> simp <;> omega
theorem News.sub {h₀ h : Heap} {L : Addr} {l l' : List (Addr × Obj)} (N : News h₀ L h l) (s : ∀ q ∈ l', q ∈ l) : News h₀ L h l' := fun q hq => N q (s q hq)
def strIs (x : Str) (y : Value) : Bool := match y with | .str z _ => z == x | _ => false
theorem in_strs {a : Addr} {l : List Value} {x : Str} {t : Tok} {Q : Value → Shared → Prop} (hl : IsTup s.heap a l.toArray) (hall : l.all (fun y => match y with | .str _ _ => true | _ => false) = true) (h : Q (.bool (l.any (strIs x))) s) :
    wpAny (model prog w) A (compareOp .In (.str x t) (.ref a)) Q E s := by
  refine SeqAt.in_tupleAt (strIs x) hl (fun y hy => ?_) (by simpa using h)
  have := List.all_eq_true.mp hall y (by simpa using hy)
  cases y <;> first | exact SeqAt.EqAt.str_str _ _ _ _ | simp at this
end
def isEnd (op : Str) : Bool := (Str.ofString "goto" == op) || ((Str.ofString "return" == op) || ((Str.ofString "rethrow" == op) || false))
theorem idx_one (n : Nat) : Builtin.Str.strSliceIndices none (some 1) 1 (n + 1) = [0] := by
  unfold Builtin.Str.strSliceIndices sliceRange
  simp only [show (1 : Int) > 0 by decide, if_true, show ¬ ((1 : Int) < 0) by decide, if_false]
  have h : max 0 (min (1 : Int) ((n + 1 : Nat) : Int)) = 1 := by omega
  rw [h]
  rfl
theorem slice_one {x : Str} {c0 : Nat} (h0 : x.cps[0]? = some c0) : (Txt.slice x none (some 1) == Str.ofString "d") = (c0 == 100) := by
  obtain ⟨⟨l⟩⟩ := x
  cases l with
  | nil => simp at h0
  | cons a r =>
    have e : a = c0 := by simpa using h0
    subst e
    have hl : (⟨⟨a :: r⟩⟩ : Str).length = r.length + 1 := rfl
    have : Txt.slice ⟨⟨a :: r⟩⟩ none (some 1) = ⟨#[a]⟩ := by
      unfold Txt.slice
      rw [hl, idx_one]
      split
      · rename_i h
        have : r = [] := by simpa using h
        subst this; rfl
      · rfl
    rw [this]
    exact sign_eq a _ 100 rfl

local macro_rules | `(tactic| walk_at "compareOp In str ref") => `(tactic| (k_here; first
  | (refine in_strs (News.isTup (by k_asm) (by k_mem)) (by rfl) ?_)
  | (refine in_strs (tupK (Frag.In.keeps (by k_asm) (Fr.keep (by k_asm))) (by k_is)) (by rfl) ?_)))
section
variable {w : World} {p : Program} {loose : List Str} {mean : ExcName → Option Value} {mg mb : Str → Option Value}

theorem goals_ctr {news : List (Addr × Obj)} {r : Addr} {op x : Str} {t xt : Tok} {ps : List Value} {n : Nat} (hr : (r, tupO (.str op t :: ps) n) ∈ news) (hs : Shp w op x xt) (hl : x.cps.size = ps.length) (hn : ps.length < 100) (ha : x.cps.all (· < 128) = true) :
    Ctr w p loose mean mg mb 6 115 news [.ref r] (fun v tl => ∃ a k, v = .ref a ∧ tl = [(a, lstO (pickZ (fun c _ => c == 103) x.cps.toList ps) k)]) := by
  (intro dp un gd cn cs a ccd cl outer A₀ base h₀ L m s Q E B F X N T hk hd hu hret
   refine wpAny_call ?_
   k_dflt (refine' code_def (binds := [(Str.ofString "row", .ref r)]) ?k1 ?k2 ?k3 ?k4 ?k5 ?kA ?kF ?kK ?k6 ?k7 ?k8 ?k9 ?kB ?_ ?c2 ?c3 ?c4 ?c5; (case kA => exact rfl); (case kF => exact rfl); (case kK => assumption); (case k1 => k_asm); (case k2 => k_asm); (case k3 => k_asm); (case k4 => k_asm); (case k5 => k_asm); (case k6 => k_is); (case k7 => k_is); (case k8 => ktr_room); (case k9 => exact BindsTo.of_eq rfl); (case c5 => decide); (case kB => exact locs rfl); (case c2 => exact rfl); (case c3 => exact rfl); (case c4 => exact rfl); k_whole)
   intro g' L' h' FG' F' N' B' X' T'
   (try dsimp only)
   (try k_fold))
  (first | ((fail_if_success (fail_if_success (with_reducible show wpAny _ _ (call _ _ _) _ _ _))); first | ((fail_if_success (fail_if_success (with_reducible show wpAny _ _ (call (Value.type "zip") _ _) _ _ _))); with_reducible (k_here; k_dflt (refine call_zipK (by k_asm) (by k_asm) (by k_mem) (by assumption) ?_); intro _ _ _ _ _)) | (with_reducible (k_here; (fail_if_success (fail_if_success (with_reducible show wpAny _ _ (call (Value.ref _) [_]) _ _ _))); k_dflt (refine Ctr.same (by k_asm) (by k_asm) (by k_asm) (by k_asm) (by k_asm) (by exact rfl) (by ktr_room) (by ktr_units) (shape_ctr (by k_mem) (by assumption) (by assumption) (by assumption)) ?_); (intro _ _ _ _ _); (try dsimp only); (try k_fold)))) | ((fail_if_success (fail_if_success (with_reducible show wpAny _ _ (subscriptTail _ _ _ _) _ _ _))); first | (with_reducible (k_here; (fail_if_success (fail_if_success (with_reducible show wpAny _ _ (subscriptTail _ _ (Value.ref _) (Value.int _ _)) _ _ _))); first | ((fail_if_success (fail_if_success (with_reducible show wpAny _ _ (subscriptTail _ _ _ (Value.int 0 _)) _ _ _))); (with_unfolding_all refine row0 (by k_asm) (by k_mem) ?_ (by with_unfolding_all rfl))) | ((fail_if_success (fail_if_success (with_reducible show wpAny _ _ (subscriptTail _ _ _ (Value.int 1 _)) _ _ _))); (with_unfolding_all refine row1 (by k_asm) (by k_mem) ?_ (by with_unfolding_all rfl))) | ((fail_if_success (fail_if_success (with_reducible show wpAny _ _ (subscriptTail _ _ _ (Value.int 2 _)) _ _ _))); (with_unfolding_all refine row2 (by k_asm) (by k_mem) ?_ (by with_unfolding_all rfl))) | ((fail_if_success (fail_if_success (with_reducible show wpAny _ _ (subscriptTail _ _ _ (Value.int 3 _)) _ _ _))); (with_unfolding_all refine row3 (by k_asm) (by k_mem) ?_ (by with_unfolding_all rfl))) | ((fail_if_success (fail_if_success (with_reducible show wpAny _ _ (subscriptTail _ _ _ (Value.int 4 _)) _ _ _))); (with_unfolding_all refine row4 (by k_asm) (by k_mem) ?_ (by with_unfolding_all rfl))) | ((fail_if_success (fail_if_success (with_reducible show wpAny _ _ (subscriptTail _ _ _ (Value.int (Nat.cast _) _)) _ _ _))); (with_unfolding_all refine row_i _ (by k_asm) (by k_mem) (by assumption) (by omega) ?_ (by with_unfolding_all rfl))))) | (with_reducible (k_here; (fail_if_success (fail_if_success (with_reducible show wpAny _ _ (subscriptTail _ _ (Value.ref _) (Value.ref _)) _ _ _))); (with_unfolding_all refine row_tail (by k_asm) (by k_asm) (by k_mem) (by assumption) ?_ (by with_unfolding_all rfl) (by (intro _; with_unfolding_all rfl))); intro _ _ _ _ _))) | walk1)
  (first | ((fail_if_success (fail_if_success (with_reducible show wpAny _ _ (call _ _ _) _ _ _))); first | ((fail_if_success (fail_if_success (with_reducible show wpAny _ _ (call (Value.type "zip") _ _) _ _ _))); with_reducible (k_here; k_dflt (refine call_zipK (by k_asm) (by k_asm) (by k_mem) (by assumption) ?_); intro _ _ _ _ _)) | (with_reducible (k_here; (fail_if_success (fail_if_success (with_reducible show wpAny _ _ (call (Value.ref _) [_]) _ _ _))); k_dflt (refine Ctr.same (by k_asm) (by k_asm) (by k_asm) (by k_asm) (by k_asm) (by exact rfl) (by ktr_room) (by ktr_units) (shape_ctr (by k_mem) (by assumption) (by assumption) (by assumption)) ?_); (intro _ _ _ _ _); (try dsimp only); (try k_fold)))) | ((fail_if_success (fail_if_success (with_reducible show wpAny _ _ (subscriptTail _ _ _ _) _ _ _))); first | (with_reducible (k_here; (fail_if_success (fail_if_success (with_reducible show wpAny _ _ (subscriptTail _ _ (Value.ref _) (Value.int _ _)) _ _ _))); first | ((fail_if_success (fail_if_success (with_reducible show wpAny _ _ (subscriptTail _ _ _ (Value.int 0 _)) _ _ _))); (with_unfolding_all refine row0 (by k_asm) (by k_mem) ?_ (by with_unfolding_all rfl))) | ((fail_if_success (fail_if_success (with_reducible show wpAny _ _ (subscriptTail _ _ _ (Value.int 1 _)) _ _ _))); (with_unfolding_all refine row1 (by k_asm) (by k_mem) ?_ (by with_unfolding_all rfl))) | ((fail_if_success (fail_if_success (with_reducible show wpAny _ _ (subscriptTail _ _ _ (Value.int 2 _)) _ _ _))); (with_unfolding_all refine row2 (by k_asm) (by k_mem) ?_ (by with_unfolding_all rfl))) | ((fail_if_success (fail_if_success (with_reducible show wpAny _ _ (subscriptTail _ _ _ (Value.int 3 _)) _ _ _))); (with_unfolding_all refine row3 (by k_asm) (by k_mem) ?_ (by with_unfolding_all rfl))) | ((fail_if_success (fail_if_success (with_reducible show wpAny _ _ (subscriptTail _ _ _ (Value.int 4 _)) _ _ _))); (with_unfolding_all refine row4 (by k_asm) (by k_mem) ?_ (by with_unfolding_all rfl))) | ((fail_if_success (fail_if_success (with_reducible show wpAny _ _ (subscriptTail _ _ _ (Value.int (Nat.cast _) _)) _ _ _))); (with_unfolding_all refine row_i _ (by k_asm) (by k_mem) (by assumption) (by omega) ?_ (by with_unfolding_all rfl))))) | (with_reducible (k_here; (fail_if_success (fail_if_success (with_reducible show wpAny _ _ (subscriptTail _ _ (Value.ref _) (Value.ref _)) _ _ _))); (with_unfolding_all refine row_tail (by k_asm) (by k_asm) (by k_mem) (by assumption) ?_ (by with_unfolding_all rfl) (by (intro _; with_unfolding_all rfl))); intro _ _ _ _ _))) | walk1)
  (first | ((fail_if_success (fail_if_success (with_reducible show wpAny _ _ (call _ _ _) _ _ _))); first | ((fail_if_success (fail_if_success (with_reducible show wpAny _ _ (call (Value.type "zip") _ _) _ _ _))); with_reducible (k_here; k_dflt (refine call_zipK (by k_asm) (by k_asm) (by k_mem) (by assumption) ?_); intro _ _ _ _ _)) | (with_reducible (k_here; (fail_if_success (fail_if_success (with_reducible show wpAny _ _ (call (Value.ref _) [_]) _ _ _))); k_dflt (refine Ctr.same (by k_asm) (by k_asm) (by k_asm) (by k_asm) (by k_asm) (by exact rfl) (by ktr_room) (by ktr_units) (shape_ctr (by k_mem) (by assumption) (by assumption) (by assumption)) ?_); (intro _ _ _ _ _); (try dsimp only); (try k_fold)))) | ((fail_if_success (fail_if_success (with_reducible show wpAny _ _ (subscriptTail _ _ _ _) _ _ _))); first | (with_reducible (k_here; (fail_if_success (fail_if_success (with_reducible show wpAny _ _ (subscriptTail _ _ (Value.ref _) (Value.int _ _)) _ _ _))); first | ((fail_if_success (fail_if_success (with_reducible show wpAny _ _ (subscriptTail _ _ _ (Value.int 0 _)) _ _ _))); (with_unfolding_all refine row0 (by k_asm) (by k_mem) ?_ (by with_unfolding_all rfl))) | ((fail_if_success (fail_if_success (with_reducible show wpAny _ _ (subscriptTail _ _ _ (Value.int 1 _)) _ _ _))); (with_unfolding_all refine row1 (by k_asm) (by k_mem) ?_ (by with_unfolding_all rfl))) | ((fail_if_success (fail_if_success (with_reducible show wpAny _ _ (subscriptTail _ _ _ (Value.int 2 _)) _ _ _))); (with_unfolding_all refine row2 (by k_asm) (by k_mem) ?_ (by with_unfolding_all rfl))) | ((fail_if_success (fail_if_success (with_reducible show wpAny _ _ (subscriptTail _ _ _ (Value.int 3 _)) _ _ _))); (with_unfolding_all refine row3 (by k_asm) (by k_mem) ?_ (by with_unfolding_all rfl))) | ((fail_if_success (fail_if_success (with_reducible show wpAny _ _ (subscriptTail _ _ _ (Value.int 4 _)) _ _ _))); (with_unfolding_all refine row4 (by k_asm) (by k_mem) ?_ (by with_unfolding_all rfl))) | ((fail_if_success (fail_if_success (with_reducible show wpAny _ _ (subscriptTail _ _ _ (Value.int (Nat.cast _) _)) _ _ _))); (with_unfolding_all refine row_i _ (by k_asm) (by k_mem) (by assumption) (by omega) ?_ (by with_unfolding_all rfl))))) | (with_reducible (k_here; (fail_if_success (fail_if_success (with_reducible show wpAny _ _ (subscriptTail _ _ (Value.ref _) (Value.ref _)) _ _ _))); (with_unfolding_all refine row_tail (by k_asm) (by k_asm) (by k_mem) (by assumption) ?_ (by with_unfolding_all rfl) (by (intro _; with_unfolding_all rfl))); intro _ _ _ _ _))) | walk1)
  refine zipComp (fun c _ => c == 103) F' rfl (by rfl) (by decide) (by rfl) (by decide) (by rfl) (by rfl) (by decide) (by decide) (by rfl) ?_
  (repeat' (first | (k_unfold; (try dsimp only)) | (k_end; wrow_close) | ((fail_if_success (fail_if_success (with_reducible show wpAny _ _ (call _ _ _) _ _ _))); first | ((fail_if_success (fail_if_success (with_reducible show wpAny _ _ (call (Value.type "zip") _ _) _ _ _))); with_reducible (k_here; k_dflt (refine call_zipK (by k_asm) (by k_asm) (by k_mem) (by assumption) ?_); intro _ _ _ _ _)) | (with_reducible (k_here; (fail_if_success (fail_if_success (with_reducible show wpAny _ _ (call (Value.ref _) [_]) _ _ _))); k_dflt (refine Ctr.same (by k_asm) (by k_asm) (by k_asm) (by k_asm) (by k_asm) (by exact rfl) (by ktr_room) (by ktr_units) (shape_ctr (by k_mem) (by assumption) (by assumption) (by assumption)) ?_); (intro _ _ _ _ _); (try dsimp only); (try k_fold)))) | ((fail_if_success (fail_if_success (with_reducible show wpAny _ _ (subscriptTail _ _ _ _) _ _ _))); first | (with_reducible (k_here; (fail_if_success (fail_if_success (with_reducible show wpAny _ _ (subscriptTail _ _ (Value.ref _) (Value.int _ _)) _ _ _))); first | ((fail_if_success (fail_if_success (with_reducible show wpAny _ _ (subscriptTail _ _ _ (Value.int 0 _)) _ _ _))); (with_unfolding_all refine row0 (by k_asm) (by k_mem) ?_ (by with_unfolding_all rfl))) | ((fail_if_success (fail_if_success (with_reducible show wpAny _ _ (subscriptTail _ _ _ (Value.int 1 _)) _ _ _))); (with_unfolding_all refine row1 (by k_asm) (by k_mem) ?_ (by with_unfolding_all rfl))) | ((fail_if_success (fail_if_success (with_reducible show wpAny _ _ (subscriptTail _ _ _ (Value.int 2 _)) _ _ _))); (with_unfolding_all refine row2 (by k_asm) (by k_mem) ?_ (by with_unfolding_all rfl))) | ((fail_if_success (fail_if_success (with_reducible show wpAny _ _ (subscriptTail _ _ _ (Value.int 3 _)) _ _ _))); (with_unfolding_all refine row3 (by k_asm) (by k_mem) ?_ (by with_unfolding_all rfl))) | ((fail_if_success (fail_if_success (with_reducible show wpAny _ _ (subscriptTail _ _ _ (Value.int 4 _)) _ _ _))); (with_unfolding_all refine row4 (by k_asm) (by k_mem) ?_ (by with_unfolding_all rfl))) | ((fail_if_success (fail_if_success (with_reducible show wpAny _ _ (subscriptTail _ _ _ (Value.int (Nat.cast _) _)) _ _ _))); (with_unfolding_all refine row_i _ (by k_asm) (by k_mem) (by assumption) (by omega) ?_ (by with_unfolding_all rfl))))) | (with_reducible (k_here; (fail_if_success (fail_if_success (with_reducible show wpAny _ _ (subscriptTail _ _ (Value.ref _) (Value.ref _)) _ _ _))); (with_unfolding_all refine row_tail (by k_asm) (by k_asm) (by k_mem) (by assumption) ?_ (by with_unfolding_all rfl) (by (intro _; with_unfolding_all rfl))); intro _ _ _ _ _))) | walk1 | (dsimp only; walk1) | (leave1; walk_say "STEP leave1"; try dsimp only) | fail "no step"))
  rename_i Dp _ _ _ l9 h8 z8 F8 N8 Z8
  refine ⟨z8, Dp, x, ps, _, rfl, F8, N8, Z8, hl, by omega, ?_, ?_⟩
  · intro i c' u v C oC h tk m₂ E' hc hv hC ha hb F7 N7
    (repeat' (first | (k_unfold; (try dsimp only)) | (k_end; wrow_close) | ((fail_if_success (fail_if_success (with_reducible show wpAny _ _ (call _ _ _) _ _ _))); first | ((fail_if_success (fail_if_success (with_reducible show wpAny _ _ (call (Value.type "zip") _ _) _ _ _))); with_reducible (k_here; k_dflt (refine call_zipK (by k_asm) (by k_asm) (by k_mem) (by assumption) ?_); intro _ _ _ _ _)) | (with_reducible (k_here; (fail_if_success (fail_if_success (with_reducible show wpAny _ _ (call (Value.ref _) [_]) _ _ _))); k_dflt (refine Ctr.same (by k_asm) (by k_asm) (by k_asm) (by k_asm) (by k_asm) (by exact rfl) (by ktr_room) (by ktr_units) (shape_ctr (by k_mem) (by assumption) (by assumption) (by assumption)) ?_); (intro _ _ _ _ _); (try dsimp only); (try k_fold)))) | ((fail_if_success (fail_if_success (with_reducible show wpAny _ _ (subscriptTail _ _ _ _) _ _ _))); first | (with_reducible (k_here; (fail_if_success (fail_if_success (with_reducible show wpAny _ _ (subscriptTail _ _ (Value.ref _) (Value.int _ _)) _ _ _))); first | ((fail_if_success (fail_if_success (with_reducible show wpAny _ _ (subscriptTail _ _ _ (Value.int 0 _)) _ _ _))); (with_unfolding_all refine row0 (by k_asm) (by k_mem) ?_ (by with_unfolding_all rfl))) | ((fail_if_success (fail_if_success (with_reducible show wpAny _ _ (subscriptTail _ _ _ (Value.int 1 _)) _ _ _))); (with_unfolding_all refine row1 (by k_asm) (by k_mem) ?_ (by with_unfolding_all rfl))) | ((fail_if_success (fail_if_success (with_reducible show wpAny _ _ (subscriptTail _ _ _ (Value.int 2 _)) _ _ _))); (with_unfolding_all refine row2 (by k_asm) (by k_mem) ?_ (by with_unfolding_all rfl))) | ((fail_if_success (fail_if_success (with_reducible show wpAny _ _ (subscriptTail _ _ _ (Value.int 3 _)) _ _ _))); (with_unfolding_all refine row3 (by k_asm) (by k_mem) ?_ (by with_unfolding_all rfl))) | ((fail_if_success (fail_if_success (with_reducible show wpAny _ _ (subscriptTail _ _ _ (Value.int 4 _)) _ _ _))); (with_unfolding_all refine row4 (by k_asm) (by k_mem) ?_ (by with_unfolding_all rfl))) | ((fail_if_success (fail_if_success (with_reducible show wpAny _ _ (subscriptTail _ _ _ (Value.int (Nat.cast _) _)) _ _ _))); (with_unfolding_all refine row_i _ (by k_asm) (by k_mem) (by assumption) (by omega) ?_ (by with_unfolding_all rfl))))) | (with_reducible (k_here; (fail_if_success (fail_if_success (with_reducible show wpAny _ _ (subscriptTail _ _ (Value.ref _) (Value.ref _)) _ _ _))); (with_unfolding_all refine row_tail (by k_asm) (by k_asm) (by k_mem) (by assumption) ?_ (by with_unfolding_all rfl) (by (intro _; with_unfolding_all rfl))); intro _ _ _ _ _))) | walk1 | (dsimp only; walk1) | (leave1; walk_say "STEP leave1"; try dsimp only) | fail "no step"))
    · exact sign_eq c' _ 103 rfl
    · exact ⟨_, _, rfl, fun _ _ e => e⟩
  · intro D h7 tk7 F7 N7 l7
    (repeat' (first | (k_unfold; (try dsimp only)) | (k_end; wrow_close) | ((fail_if_success (fail_if_success (with_reducible show wpAny _ _ (call _ _ _) _ _ _))); first | ((fail_if_success (fail_if_success (with_reducible show wpAny _ _ (call (Value.type "zip") _ _) _ _ _))); with_reducible (k_here; k_dflt (refine call_zipK (by k_asm) (by k_asm) (by k_mem) (by assumption) ?_); intro _ _ _ _ _)) | (with_reducible (k_here; (fail_if_success (fail_if_success (with_reducible show wpAny _ _ (call (Value.ref _) [_]) _ _ _))); k_dflt (refine Ctr.same (by k_asm) (by k_asm) (by k_asm) (by k_asm) (by k_asm) (by exact rfl) (by ktr_room) (by ktr_units) (shape_ctr (by k_mem) (by assumption) (by assumption) (by assumption)) ?_); (intro _ _ _ _ _); (try dsimp only); (try k_fold)))) | ((fail_if_success (fail_if_success (with_reducible show wpAny _ _ (subscriptTail _ _ _ _) _ _ _))); first | (with_reducible (k_here; (fail_if_success (fail_if_success (with_reducible show wpAny _ _ (subscriptTail _ _ (Value.ref _) (Value.int _ _)) _ _ _))); first | ((fail_if_success (fail_if_success (with_reducible show wpAny _ _ (subscriptTail _ _ _ (Value.int 0 _)) _ _ _))); (with_unfolding_all refine row0 (by k_asm) (by k_mem) ?_ (by with_unfolding_all rfl))) | ((fail_if_success (fail_if_success (with_reducible show wpAny _ _ (subscriptTail _ _ _ (Value.int 1 _)) _ _ _))); (with_unfolding_all refine row1 (by k_asm) (by k_mem) ?_ (by with_unfolding_all rfl))) | ((fail_if_success (fail_if_success (with_reducible show wpAny _ _ (subscriptTail _ _ _ (Value.int 2 _)) _ _ _))); (with_unfolding_all refine row2 (by k_asm) (by k_mem) ?_ (by with_unfolding_all rfl))) | ((fail_if_success (fail_if_success (with_reducible show wpAny _ _ (subscriptTail _ _ _ (Value.int 3 _)) _ _ _))); (with_unfolding_all refine row3 (by k_asm) (by k_mem) ?_ (by with_unfolding_all rfl))) | ((fail_if_success (fail_if_success (with_reducible show wpAny _ _ (subscriptTail _ _ _ (Value.int 4 _)) _ _ _))); (with_unfolding_all refine row4 (by k_asm) (by k_mem) ?_ (by with_unfolding_all rfl))) | ((fail_if_success (fail_if_success (with_reducible show wpAny _ _ (subscriptTail _ _ _ (Value.int (Nat.cast _) _)) _ _ _))); (with_unfolding_all refine row_i _ (by k_asm) (by k_mem) (by assumption) (by omega) ?_ (by with_unfolding_all rfl))))) | (with_reducible (k_here; (fail_if_success (fail_if_success (with_reducible show wpAny _ _ (subscriptTail _ _ (Value.ref _) (Value.ref _)) _ _ _))); (with_unfolding_all refine row_tail (by k_asm) (by k_asm) (by k_mem) (by assumption) ?_ (by with_unfolding_all rfl) (by (intro _; with_unfolding_all rfl))); intro _ _ _ _ _))) | walk1 | (dsimp only; walk1) | (leave1; walk_say "STEP leave1"; try dsimp only) | fail "no step"))
    exact hret _ [(D, lstO (pickZ (fun c _ => c == 103) x.cps.toList ps) (pickZ (fun c _ => c == 103) x.cps.toList ps).length)] _ _ (by assumption) (fun q hq => by have N9 := ‹News h₀ L _ ((D, lst (pickZ (fun c _ => c == 103) x.cps.toList ps)) :: (Dp, tupO ps 0) :: news)›; exact (List.mem_cons.mp hq).elim (fun e => N9 q (e ▸ .head _)) fun e => N9 q (.tail _ (.tail _ e))) (fun q hq z hz => by rw [List.mem_singleton.mp hz]; exact l7 q (.tail _ hq)) ⟨_, _, rfl, rfl⟩

theorem sets_ctr {news : List (Addr × Obj)} {r : Addr} {op x : Str} {t xt : Tok} {p0 : Value} {ps : List Value} {n c0 : Nat} (hr : (r, tupO (.str op t :: p0 :: ps) n) ∈ news) (hs : Shp w op x xt) (hl : x.cps.size = (p0 :: ps).length) (hn : (p0 :: ps).length < 100) (h0 : x.cps[0]? = some c0) :
    Ctr w p loose mean mg mb 6 110 news [.ref r] (fun v tl => v = (if c0 = 100 then p0 else .none) ∧ tl = []) := by
  (intro dp un gd cn cs a ccd cl outer A₀ base h₀ L m s Q E B F X N T hk hd hu hret
   refine wpAny_call ?_
   k_dflt (refine' code_def (binds := [(Str.ofString "row", .ref r)]) ?k1 ?k2 ?k3 ?k4 ?k5 ?kA ?kF ?kK ?k6 ?k7 ?k8 ?k9 ?kB ?_ ?c2 ?c3 ?c4 ?c5; (case kA => exact rfl); (case kF => exact rfl); (case kK => assumption); (case k1 => k_asm); (case k2 => k_asm); (case k3 => k_asm); (case k4 => k_asm); (case k5 => k_asm); (case k6 => k_is); (case k7 => k_is); (case k8 => ktr_room); (case k9 => exact BindsTo.of_eq rfl); (case c5 => decide); (case kB => exact locs rfl); (case c2 => exact rfl); (case c3 => exact rfl); (case c4 => exact rfl); k_whole)
   intro g' L' h' FG' F' N' B' X' T'
   (try dsimp only)
   (try k_fold))
  have hz : x.length ≤ sizeLine := by rw [sizeLine_eq]; show x.cps.size ≤ _; omega
  (repeat' (first | (k_unfold; (try dsimp only)) | (k_end; wrow_close) | ((fail_if_success (fail_if_success (with_reducible show wpAny _ _ (call _ _ _) _ _ _))); first | ((fail_if_success (fail_if_success (with_reducible show wpAny _ _ (call (Value.type "zip") _ _) _ _ _))); with_reducible (k_here; k_dflt (refine call_zipK (by k_asm) (by k_asm) (by k_mem) (by assumption) ?_); intro _ _ _ _ _)) | (with_reducible (k_here; (fail_if_success (fail_if_success (with_reducible show wpAny _ _ (call (Value.ref _) [_]) _ _ _))); k_dflt (refine Ctr.same (by k_asm) (by k_asm) (by k_asm) (by k_asm) (by k_asm) (by exact rfl) (by ktr_room) (by ktr_units) (shape_ctr (by k_mem) (by assumption) (by assumption) (by assumption)) ?_); (intro _ _ _ _ _); (try dsimp only); (try k_fold)))) | ((fail_if_success (fail_if_success (with_reducible show wpAny _ _ (subscriptTail _ _ _ _) _ _ _))); first | (with_reducible (k_here; (fail_if_success (fail_if_success (with_reducible show wpAny _ _ (subscriptTail _ _ (Value.ref _) (Value.int _ _)) _ _ _))); first | ((fail_if_success (fail_if_success (with_reducible show wpAny _ _ (subscriptTail _ _ _ (Value.int 0 _)) _ _ _))); (with_unfolding_all refine row0 (by k_asm) (by k_mem) ?_ (by with_unfolding_all rfl))) | ((fail_if_success (fail_if_success (with_reducible show wpAny _ _ (subscriptTail _ _ _ (Value.int 1 _)) _ _ _))); (with_unfolding_all refine row1 (by k_asm) (by k_mem) ?_ (by with_unfolding_all rfl))) | ((fail_if_success (fail_if_success (with_reducible show wpAny _ _ (subscriptTail _ _ _ (Value.int 2 _)) _ _ _))); (with_unfolding_all refine row2 (by k_asm) (by k_mem) ?_ (by with_unfolding_all rfl))) | ((fail_if_success (fail_if_success (with_reducible show wpAny _ _ (subscriptTail _ _ _ (Value.int 3 _)) _ _ _))); (with_unfolding_all refine row3 (by k_asm) (by k_mem) ?_ (by with_unfolding_all rfl))) | ((fail_if_success (fail_if_success (with_reducible show wpAny _ _ (subscriptTail _ _ _ (Value.int 4 _)) _ _ _))); (with_unfolding_all refine row4 (by k_asm) (by k_mem) ?_ (by with_unfolding_all rfl))) | ((fail_if_success (fail_if_success (with_reducible show wpAny _ _ (subscriptTail _ _ _ (Value.int (Nat.cast _) _)) _ _ _))); (with_unfolding_all refine row_i _ (by k_asm) (by k_mem) (by assumption) (by omega) ?_ (by with_unfolding_all rfl))))) | (with_reducible (k_here; (fail_if_success (fail_if_success (with_reducible show wpAny _ _ (subscriptTail _ _ (Value.ref _) (Value.ref _)) _ _ _))); (with_unfolding_all refine row_tail (by k_asm) (by k_asm) (by k_mem) (by assumption) ?_ (by with_unfolding_all rfl) (by (intro _; with_unfolding_all rfl))); intro _ _ _ _ _))) | walk1 | (dsimp only; walk1) | (leave1; walk_say "STEP leave1"; try dsimp only) | fail "no step"))
  · rename_i hc _ _ _ _
    rw [slice_one h0] at hc
    have : c0 = 100 := by simpa using hc
    subst this
    exact hret _ [] _ _ (by assumption) (by assumption) (fun _ _ _ h => nomatch h) ⟨rfl, rfl⟩
  · rename_i hc _ _ _ _
    rw [slice_one h0] at hc
    have : ¬ c0 = 100 := by simpa using hc
    exact hret _ [] _ _ (by assumption) (by assumption) (fun _ _ _ h => nomatch h) ⟨(if_neg this).symm, rfl⟩

theorem followers_ctr {news : List (Addr × Obj)} {R r : Addr} {op x : Str} {t xt ta : Tok} {ps rv : List Value} {n nR at_ : Nat} (hR : (R, tupO rv nR) ∈ news) (hat : rv[at_]? = some (.ref r)) (hat4 : at_ < 100) (hr : (r, tupO (.str op t :: ps) n) ∈ news) (hs : Shp w op x xt) (hl : x.cps.size = ps.length) (hn : ps.length < 100) (ha : x.cps.all (· < 128) = true) :
    Ctr w p loose mean mg mb 10 122 news [.ref R, .int (at_ : Int) ta] (fun v tl => ∃ a k u, v = .ref a ∧ tl = [(a, lstO ((if isEnd op then [] else [.int ((at_ : Int) + 1) u]) ++ pickZ (fun c _ => c == 103) x.cps.toList ps) k)]) := by
  (intro dp un gd cn cs a ccd cl outer A₀ base h₀ L m s Q E B F X N T hk hd hu hret
   refine wpAny_call ?_
   k_dflt (refine' code_def (binds := [(Str.ofString "rows", .ref R), (Str.ofString "at", .int (at_ : Int) ta)]) ?k1 ?k2 ?k3 ?k4 ?k5 ?kA ?kF ?kK ?k6 ?k7 ?k8 ?k9 ?kB ?_ ?c2 ?c3 ?c4 ?c5; (case kA => exact rfl); (case kF => exact rfl); (case kK => assumption); (case k1 => k_asm); (case k2 => k_asm); (case k3 => k_asm); (case k4 => k_asm); (case k5 => k_asm); (case k6 => k_is); (case k7 => k_is); (case k8 => ktr_room); (case k9 => exact BindsTo.of_eq rfl); (case c5 => decide); (case kB => exact locs rfl); (case c2 => exact rfl); (case c3 => exact rfl); (case c4 => exact rfl); k_whole)
   intro g' L' h' FG' F' N' B' X' T'
   (try dsimp only)
   (try k_fold))
  have hgl := pickZ_le (fun c _ => c == 103) x.cps.toList ps
  (repeat' (first | (k_unfold; (try dsimp only)) | (k_end; wrow_close) | ((fail_if_success (fail_if_success (with_reducible show wpAny _ _ (call _ _ _) _ _ _))); first | (with_reducible (k_here; (fail_if_success (fail_if_success (with_reducible show wpAny _ _ (call (Value.ref _) [_]) _ _ _))); k_dflt (refine Ctr.new (by k_asm) (by k_asm) (by k_asm) (by k_asm) (by k_asm) (by exact rfl) (by ktr_room) (by ktr_units) (goals_ctr (by k_mem) (by assumption) (by assumption) (by assumption) (by assumption)) ?_); (intro _ _ _ _ _ _ _); (try dsimp only); (try k_fold))) | ((fail_if_success (fail_if_success (with_reducible show wpAny _ _ (call (Value.type "zip") _ _) _ _ _))); with_reducible (k_here; k_dflt (refine call_zipK (by k_asm) (by k_asm) (by k_mem) (by assumption) ?_); intro _ _ _ _ _)) | (with_reducible (k_here; (fail_if_success (fail_if_success (with_reducible show wpAny _ _ (call (Value.ref _) [_]) _ _ _))); k_dflt (refine Ctr.same (by k_asm) (by k_asm) (by k_asm) (by k_asm) (by k_asm) (by exact rfl) (by ktr_room) (by ktr_units) (shape_ctr (by k_mem) (by assumption) (by assumption) (by assumption)) ?_); (intro _ _ _ _ _); (try dsimp only); (try k_fold)))) | ((fail_if_success (fail_if_success (with_reducible show wpAny _ _ (subscriptTail _ _ _ _) _ _ _))); first | (with_reducible (k_here; (fail_if_success (fail_if_success (with_reducible show wpAny _ _ (subscriptTail _ _ (Value.ref _) (Value.int _ _)) _ _ _))); first | ((fail_if_success (fail_if_success (with_reducible show wpAny _ _ (subscriptTail _ _ _ (Value.int 0 _)) _ _ _))); (with_unfolding_all refine row0 (by k_asm) (by k_mem) ?_ (by with_unfolding_all rfl))) | ((fail_if_success (fail_if_success (with_reducible show wpAny _ _ (subscriptTail _ _ _ (Value.int 1 _)) _ _ _))); (with_unfolding_all refine row1 (by k_asm) (by k_mem) ?_ (by with_unfolding_all rfl))) | ((fail_if_success (fail_if_success (with_reducible show wpAny _ _ (subscriptTail _ _ _ (Value.int 2 _)) _ _ _))); (with_unfolding_all refine row2 (by k_asm) (by k_mem) ?_ (by with_unfolding_all rfl))) | ((fail_if_success (fail_if_success (with_reducible show wpAny _ _ (subscriptTail _ _ _ (Value.int 3 _)) _ _ _))); (with_unfolding_all refine row3 (by k_asm) (by k_mem) ?_ (by with_unfolding_all rfl))) | ((fail_if_success (fail_if_success (with_reducible show wpAny _ _ (subscriptTail _ _ _ (Value.int 4 _)) _ _ _))); (with_unfolding_all refine row4 (by k_asm) (by k_mem) ?_ (by with_unfolding_all rfl))) | ((fail_if_success (fail_if_success (with_reducible show wpAny _ _ (subscriptTail _ _ _ (Value.int (Nat.cast _) _)) _ _ _))); (with_unfolding_all refine row_i _ (by k_asm) (by k_mem) (by assumption) (by omega) ?_ (by with_unfolding_all rfl))))) | (with_reducible (k_here; (fail_if_success (fail_if_success (with_reducible show wpAny _ _ (subscriptTail _ _ (Value.ref _) (Value.ref _)) _ _ _))); (with_unfolding_all refine row_tail (by k_asm) (by k_asm) (by k_mem) (by assumption) ?_ (by with_unfolding_all rfl) (by (intro _; with_unfolding_all rfl))); intro _ _ _ _ _))) | ((fail_if_success (fail_if_success (with_reducible show wpAny _ _ (binaryOp _ _ _) _ _ _))); first | ((fail_if_success (fail_if_success (with_reducible show wpAny _ _ (binaryOp .Add (Value.ref _) (Value.ref _)) _ _ _))); with_reducible (k_here; (refine addL (by k_asm) (by k_asm) (by k_mem) (by k_mem) (by simp only [List.length_nil, List.length_cons, List.length_append]; omega) ?_); intro _ _ _ _ _))) | walk1 | (dsimp only; walk1) | (leave1; walk_say "STEP leave1"; try dsimp only) | fail "no step"))
  · rename_i hc _ _ _ _ _ _ _ _ _ _ _ _ _ D9 h9 F9 N9 l9 kF1 kN1 _ _
    exact hret _ [(D9, _)] _ _ kF1 (fun q hq => (List.mem_cons.mp hq).elim (fun e => kN1 q (e ▸ .head _)) fun e => kN1 q (.tail _ (.tail _ (.tail _ e)))) (fun q hq z hz => by rw [List.mem_singleton.mp hz]; exact l9 q (by simp [hq])) ⟨D9, 0, 0, rfl, by rw [show isEnd op = true from hc]; rfl⟩
  · rename_i hc _ _ _ _ _ _ _ _ _ _ _ _ _ D9 h9 F9 N9 l9 kF1 kN1 _ _
    have hc' : isEnd op = false := hc
    exact hret _ [(D9, _)] _ _ kF1 (fun q hq => (List.mem_cons.mp hq).elim (fun e => kN1 q (e ▸ .head _)) fun e => kN1 q (.tail _ (.tail _ (.tail _ e)))) (fun q hq z hz => by rw [List.mem_singleton.mp hz]; exact l9 q (by simp [hq])) ⟨D9, 0, _, rfl, by rw [hc']; rfl⟩
end
end Mine
end
section
open PySem PySem.W PySem.Spec PySem.Calls PyProof.Rows PyProof.V PySem.Builtin PySem.Builtin.ObjectAttr
namespace Mine
set_option pp.deepTerms false
set_option pp.proofs false
set_option maxRecDepth 100000
set_option maxHeartbeats 4000000

abbrev excO (C : Addr) (t : Addr) (dd : Option Addr) : Obj := { cls := .ref C, dict := dd, data := .fields #[.ref t, .none, .none, .none, .bool false, .none] }
abbrev tup1 (v : Value) : Obj := { cls := .type "tuple", data := .seq #[v] }

section
variable {M : Model} {A : Around} {E : Value → Shared → Prop} {h : Heap} {g : Array GenState} {d : Drawn} {t : Nat} {os : OsState}
variable {nm q : Str} {C N : Addr} {bs bm bmB : List Value} {hdct : Bool} {sn : List Str} {sub : List Value} {ab : Bool} {col : Option Bool} {dd : Option Addr} {k0 k1 k2 k3 k5 : Option Value} {B newId initId : String}
theorem ex_check_new (F : ExcBaseFacts B newId initId bmB) (hB : bm.contains (.type B) = true) {rest : List Value} {Q : Unit → Shared → Prop} (hC : h.get? C = some (excClassObj nm q C N bs bm hdct sn sub ab col dd k0 k1 k2 k3 k5 newId))
    (hq : Q () ⟨h, g, d, t, os⟩) : wpAny M A (checkBuiltinCall newId ⟨.ref C :: rest, []⟩) Q E ⟨h, g, d, t, os⟩ := by
  have hcont : (Value.ref C :: bm).contains (.type B) = true := by rw [List.contains_cons, hB, Bool.or_true]
  have hstar := F.noStar
  simp only [checkBuiltinCall, F.newKind, F.newSplit, F.newRow]
  repeat (first | refine wpAny_loadPart_at hC ?_ | (refine wpAny_isSubtype_exc hC ?_; rw [hcont]) | refine wpAny_staticBase_exc hC ?_ | refine wpAny_madeBy_exc hC ?_ | simp only [bne_self_eq_false, Bool.false_eq_true, if_false] | wp_step)
  exact hq
theorem ex_check_init (F : ExcBaseFacts B newId initId bmB) (hB : bm.contains (.type B) = true) {e : Addr} {oe : Obj} {rest : List Value} {Q : Unit → Shared → Prop}
    (hC : h.get? C = some (excClassObj nm q C N bs bm hdct sn sub ab col dd k0 k1 k2 k3 k5 newId)) (he : h.get? e = some oe) (hcls : oe.cls = .ref C) (hq : Q () ⟨h, g, d, t, os⟩) :
    wpAny M A (checkBuiltinCall initId ⟨.ref e :: rest, []⟩) Q E ⟨h, g, d, t, os⟩ := by
  have hcB : (Value.ref C :: bm).contains (.type B) = true := by rw [List.contains_cons, hB, Bool.or_true]
  have hshort := F.noStar
  simp only [checkBuiltinCall, F.initKind, F.initSplit, F.initRow]
  repeat (first | (with_reducible refine wpAny_loadPart_at he ?_; rw [hcls]) | with_reducible refine wpAny_loadPart_at hC ?_ | (with_reducible refine wpAny_isSubtype_exc hC ?_; rw [hcB]) | wp_step)
  refine wpAny_onRaise ?_
  rw [show ∀ (a b : String) (n : Nat), Bind.check ⟨.positional, "*", B, .self, [⟨"args", .varPos, false⟩]⟩ a b n (List.map (fun x => x.fst) ({ pos := Value.ref e :: rest } : Args).kw) = pure () from
    fun a b n => check_star_args _ _ _ _ _ _]
  exact wpAny_pure hq
end

section
variable {prog : Program} {w : World} {A : Around} {R : Result → Shared → Prop} {h : Heap} {g : Array GenState} {d : Drawn} {t : Nat} {os : OsState}
variable {nm q : Str} {C N : Addr} {bs bm bmB : List Value} {hdct : Bool} {sn : List Str} {sub : List Value} {ab : Bool} {col : Option Bool} {dd : Option Addr} {k0 k1 k2 k3 k5 : Option Value} {B newId initId : String}
theorem ex_new (F : ExcBaseFacts B newId initId bmB) (hB : bm.contains (.type B) = true) (hA : bm.contains (.type "AttributeError") = false) (hN : bm.contains (.type "NameError") = false) {rest : List Value} (hC : h.get? C = some (excClassObj nm q C N bs bm hdct sn sub ab col dd k0 k1 k2 k3 k5 newId))
    (hq : R (.ok (.ret (.ref (h.objs.size + 1)))) ⟨(h.push { cls := .type "tuple", data := .seq rest.toArray }).push
      { cls := .ref C, data := .fields #[.ref h.objs.size, .none, .none, .none, .bool false, .none] }, g, d, t, os⟩) (hrest : rest.length ≤ sizeLine) :
    codeAny (model prog w) A (.builtin newId ⟨.ref C :: rest, []⟩) R ⟨h, g, d, t, os⟩ := by
  have hends := F.ends
  have hcB : (Value.ref C :: bm).contains (.type B) = true := by rw [List.contains_cons, hB, Bool.or_true]
  have hcA : (Value.ref C :: bm).contains (.type "AttributeError") = false := by rw [List.contains_cons, hA]; rfl
  have hcN : (Value.ref C :: bm).contains (.type "NameError") = false := by rw [List.contains_cons, hN]; rfl
  refine codeAny_builtinAt F.entry ?_
  unfold Builtin.«BaseException.__new__»
  refine PySem.wpAt_bind ?_
  show PySem.wpAt _ _ _ (stack >>= _) _ _ _
  refine PySem.wpAt_bind (PySem.wpAt_stack fun p below => PySem.wpAt_of_wpAny ?_)
  wp_walk
  refine PySem.wpAt_of_wpAny ?_
  rw [F.owner]
  repeat (first | with_reducible refine wpAny_madeHere_exc F.canon hC ?_ | with_reducible refine wpAny_loadPart_at hC ?_ | (with_reducible refine wpAny_isSubtype_exc hC ?_; first | rw [hcB] | rw [hcA] | rw [hcN]) | wp_step)
  show R _ _
  rw [Heap.size_push]
  exact hq

theorem ex_type_call (F : ExcBaseFacts B newId initId bmB) (hB : bm.contains (.type B) = true) (hA : bm.contains (.type "AttributeError") = false) (hN : bm.contains (.type "NameError") = false) {rest : List Value} {fI : Value} {Q : Fin → Shared → Prop} {E : Value → Shared → Prop}
    (hC : h.get? C = some (excClassObj nm q C N bs bm hdct sn sub ab col dd k0 k1 k2 k3 k5 newId))
    (hi : Looks (model prog w) h (typeLookup (.ref C) "__init__") (some fI)) (hb : ∀ self, Looks (model prog w) h (bindSpecial fI self) (fI, [self]))
    (hq : wpAny (model prog w) A (call fI (.ref (h.objs.size + 1) :: rest)) (fun v s' => v = .none ∧ Q (.done (.ret (.ref (h.objs.size + 1)))) s') E
      ⟨(h.push { cls := .type "tuple", data := .seq rest.toArray }).push { cls := .ref C, data := .fields #[.ref h.objs.size, .none, .none, .none, .bool false, .none] }, g, d, t, os⟩) (hrest : rest.length ≤ sizeLine) :
    wpAny (model prog w) A (Builtin.«type.__call__» ⟨.ref C :: rest, []⟩) Q E ⟨h, g, d, t, os⟩ := by
  repeat (first | with_reducible refine wpAny_loadPart_at hC ?_ | with_reducible refine wpAny_madeBy_exc hC ?_ | wp_step)
  refine codeAny_call_builtin_code (Code.quiet_builtin _ F.quiet) (ex_check_new F hB hC ?_)
  refine ex_new F hB hA hN hC ?_ hrest
  show wpAny _ _ _ _ _ _
  have k : ∀ b o, h.get? b = some o → ((h.push { cls := .type "tuple", data := .seq rest.toArray }).push (excO C h.objs.size none)).get? b = some o := fun b o e => Heap.get?_push_of_some _ (Heap.get?_push_of_some _ e)
  have hC₁ := k _ _ hC
  have hget : ((h.push { cls := .type "tuple", data := .seq rest.toArray }).push (excO C h.objs.size none)).get? (h.objs.size + 1) = some { cls := .ref C, data := .fields #[.ref h.objs.size, .none, .none, .none, .bool false, .none] } := by heap_get
  have hcC : (Value.ref C :: bm).contains (.ref C) = true := by simp
  have i1 := hi.keeps k
  have b1 := (hb (.ref (h.objs.size + 1))).keeps k
  unfold isInstance
  repeat (first | with_reducible refine wpAny_loadPart_at hget ?_ | (with_reducible refine wpAny_isSubtype_exc hC₁ ?_; rw [hcC]) | wp_step)
  show wpAny _ _ (typeLookup (.ref C) _) _ _ _
  refine i1.here ?_
  refine wpAny_holding (wpAny_bind (b1.here ?_))
  refine wpAny_bind (wpAny_mono hq (fun v s' z => ?_) fun _ _ z => z)
  obtain ⟨rfl, z⟩ := z
  wp_walk
  exact z

theorem ex_make (F : ExcBaseFacts B newId initId bmB) (hB : bm.contains (.type B) = true) (hA : bm.contains (.type "AttributeError") = false) (hN : bm.contains (.type "NameError") = false) {rest : List Value} {fI : Value}
    (hC : h.get? C = some (excClassObj nm q C N bs bm hdct sn sub ab col dd k0 k1 k2 k3 k5 newId))
    (hi : Looks (model prog w) h (typeLookup (.ref C) "__init__") (some fI)) (hb : ∀ self, Looks (model prog w) h (bindSpecial fI self) (fI, [self]))
    (hq : codeAny (model prog w) (A.under (.builtin "type.__call__" ⟨.ref C :: rest, []⟩)) (.call fI ⟨.ref (h.objs.size + 1) :: rest, []⟩) (InitBack (h.objs.size + 1) R)
      ⟨(h.push { cls := .type "tuple", data := .seq rest.toArray }).push (excO C h.objs.size none), g, d, t, os⟩) (hrest : rest.length ≤ sizeLine) :
    codeAny (model prog w) A (.call (.ref C) ⟨rest, []⟩) R ⟨h, g, d, t, os⟩ := by
  have f1 := tc_lookup
  have f2 := tc_bind (.ref C)
  have hT : (⟨h, g, d, t, os⟩ : Shared).TypeIs (.ref C) "type" := ⟨_, hC, rfl⟩
  refine codeAny_of_tree ?_
  show wpAny _ _ (callAny (.ref C) _) _ _ _
  repeat (any_goals (first | assumption | with_reducible refine wpAny_loadPart_at hC ?_ | wp_step))
  refine ⟨rfl, ?_⟩
  refine codeAny_call_builtin_at (Code.quiet_builtin _ (by decide +kernel)) entry_typeCall (wpAny_check_type_call_sub hC ?_)
  show wpAny _ _ (Builtin.«type.__call__» ⟨.ref C :: rest, []⟩) _ _ _
  refine ex_type_call F hB hA hN hC hi hb (wpAny_call (codeAny_mono hq fun r s' z => ?_)) hrest
  rcases r with e | (v | _ | _ | _) <;> first | exact z | exact z.elim
end
section
variable {prog : Program} {w : World} {A : Around} {E : Value → Shared → Prop} {s : Shared} {K : Frag} {C L e t fI : Addr} {h₀ : Heap} {m : Str → Option Value} {news : List (Addr × Obj)} {Q : Value → Shared → Prop}
variable {nm q : Str} {N : Addr} {bs bm bmB : List Value} {hdct : Bool} {sn : List Str} {sub : List Value} {ab : Bool} {col : Option Bool} {dd : Option Addr} {k0 k1 k2 k3 k5 : Option Value} {B newId initId : String}
theorem make_excK {v : Value} (FB : ExcBaseFacts B newId initId bmB) (F : Fr h₀ L s.heap m) (Nw : News h₀ L s.heap news) (X₀ : K.In h₀) (hl : K.lookup C = some (excClassObj nm q C N bs bm hdct sn sub ab col dd k0 k1 k2 k3 k5 newId))
    (hB : bm.contains (.type B) = true) (hA : bm.contains (.type "AttributeError") = false) (hN : bm.contains (.type "NameError") = false)
    (hi : findIn K (.ref C) "__init__" = some (some (.ref fI))) (hf : isFn K (.ref fI) = true)
    (h : ∀ e t h', Fr h₀ L h' m → News h₀ L h' ((e, excO C t none) :: (t, tup1 v) :: news) → (∀ p ∈ news, p.1 < t) → t < e →
      codeAny (model prog w) (A.under (.builtin "type.__call__" ⟨[.ref C, v], []⟩)) (.call (.ref fI) ⟨[.ref e, v], []⟩) (InitBack e fun r s' => match r with | .ok (.ret v) => Q v s' | .ok _ => False | .error e => E e s') { s with heap := h' }) :
    wpAny (model prog w) A (call (.ref C) [v]) Q E s := by
  obtain ⟨hh, g, d, tk, os⟩ := s
  have X := X₀.keeps F.keep
  refine wpAny_call (ex_make FB hB hA hN (X _ _ hl) (looks_findIn X hi) (fun self => bind_fn X self (beq_iff_eq.mp hf)) (h _ hh.objs.size _ ((F.push _).push _) ?_ (fun p hp => Heap.lt_size (Nw p hp).1) (Nat.lt_succ_self _)) (by rw [sizeLine_eq]; show 1 ≤ _; decide))
  have := (Nw.push F (tup1 v)).push (F.push _) (excO C hh.objs.size none)
  rwa [Heap.size_push] at this

theorem init_excK {v : Value} (FB : ExcBaseFacts B newId initId bmB) (F : Fr h₀ L s.heap m) (Nw : News h₀ L s.heap ((e, excO C t none) :: news)) (X₀ : K.In h₀) (hl : K.lookup C = some (excClassObj nm q C N bs bm hdct sn sub ab col dd k0 k1 k2 k3 k5 newId))
    (hB : bm.contains (.type B) = true) (hne : ∀ p ∈ news, p.1 ≠ e)
    (h : ∀ t' h', Fr h₀ L h' m → News h₀ L h' ((e, excO C t' none) :: (t', tup1 v) :: news) → e ≠ t' → (∀ p ∈ news, p.1 < t') → Q .none { s with heap := h' }) :
    wpAny (model prog w) A (call (.builtin initId) [.ref e, v]) Q E s := by
  obtain ⟨hh, g, d, tk, os⟩ := s
  have X := X₀.keeps F.keep
  have he := (Nw (e, excO C t none) (.head _)).1
  refine wpAny_call (codeAny_call_builtin FB.init.plain FB.initEntry (ex_check_init FB hB (X _ _ hl) he rfl ?_))
  unfold Builtin.«BaseException.__init__»
  dsimp only
  rw [if_neg (by simp)]
  unfold newTuple Builtin.BaseException.bexcPut
  have he₁ := Heap.get?_push_of_some (h := hh) { cls := .type "tuple", data := .seq [v].toArray } he
  refine wpAny_bind (wpAny_newObj_type (wpAny_bind (wpAny_bind (wpAny_field he₁ rfl (x := .ref t) rfl (wpAny_bind (wpAny_setField he₁ rfl (by simp) ?_))))) (by show [v].toArray.size ≤ sizeLine; rw [sizeLine_eq]; show 1 ≤ _; decide))
  refine wpAny_letGo (wpAny_pure ?_)
  have F1 := F.push (tup1 v)
  have N1 := Nw.push F (tup1 v)
  have hlt : e < hh.objs.size := Heap.lt_size he
  have := news_upd (pre := [(hh.objs.size, tup1 v)]) (d := e) (o := excO C t none) (o' := excO C hh.objs.size none) (f := Obj.mapFields (·.setIfInBounds 0 (.ref hh.objs.size))) F1 N1
    (fun p hp => by rw [List.mem_singleton.mp hp]; exact Nat.ne_of_gt hlt) hne rfl rfl
  exact h _ _ this.1 (fun p hp => by
    rcases List.mem_cons.mp hp with rfl | hp
    · exact this.2 _ (.tail _ (.head _))
    · rcases List.mem_cons.mp hp with rfl | hp
      · exact this.2 _ (.head _)
      · exact this.2 _ (.tail _ (.tail _ hp))) (Nat.ne_of_lt hlt) (fun p hp => Heap.lt_size (Nw p (.tail _ hp)).1)
end
theorem exc_refuse (self : Value) (C D : Addr) : refuseLoop self "__setattr__" [.ref C, .ref D, .type "Exception", .type "BaseException", .type "object"] = pure () := by
  rw [refuseLoop_ref, refuseLoop_ref]; exact PySem.F.store_Exception.passes self
section
variable {prog : Program} {w : World} {A : Around} {s : Shared} {K : Frag} {C D x L t fI dx : Addr} {h₀ : Heap} {m : Str → Option Value} {news : List (Addr × Obj)} {Q : Unit → Shared → Prop} {R : Result → Shared → Prop} {E : Value → Shared → Prop}
theorem osa_exc {ox : Obj} {od : Option Obj} {cd : ClassData} {name : Str} {tk : Tok} {v : Value} (X : K.In s.heap) (I : InstAt s.heap x ox C od) (hc : clsIn K C = some cd) (hm : cd.mro = [.ref C, .ref D, .type "Exception", .type "BaseException", .type "object"]) (ht : takerIn K C name = some none)
    (h : ∀ b, wpAny (model prog w) A.in1 (storeInOwnDict (.ref x) (.ref C) (.str name tk) name v b)
      (fun fin s' => match fin with | .done f => R (.ok f) s' | .again c' => c'.quiet = true ∧ codeAny (model prog w) A c' R s') (fun e s' => R (.error e) s') s) :
    codeAny (model prog w) A (.call (.builtin "object.__setattr__") ⟨[.ref x, .str name tk, v], []⟩) R s := by
  have SF := PySem.F.store_object
  have sub : Looks (model prog w) s.heap (isInstance (.ref x) (.type "object")) true := I.type.andThen (looks_mroIn X (by unfold mroIn; rw [hc, Option.bind_some, hm]; rfl))
  refine codeAny_call_builtin SF.slot.plain SF.entry (@check_slot (model prog w) _ _ s "object.__setattr__" "object" "__setattr__" (.ref x) [.str name tk, v] [] _ SF.kind SF.split sub (SF.args (.ref x) (.str name tk) v) ?_)
  obtain ⟨attr, ha, hr⟩ := Option.bind_eq_some_iff.mp ht
  have hm' : Looks (model prog w) s.heap (mroOf (.ref C)) cd.mro := (looks_clsIn X hc).andThen .now
  have L3 : Looks (model prog w) s.heap (storeTaker? attr) none := by
    cases attr with
    | none => exact .now
    | some a =>
      obtain ⟨b, hb, hb'⟩ := Option.map_eq_some_iff.mp hr
      refine (looks_takesIn X hb).andThen ?_
      cases b with
      | true => cases hb'
      | false => exact .now
  rw [osa_eq, refuse_eq]
  refine wpAny_bind (wpAny_bind (I.type.here (wpAny_bind (hm'.here ?_))))
  rw [hm, exc_refuse]
  refine wpAny_pure (wpAny_bind (I.type.here (wpAny_bind ((looks_findIn X ha).here (wpAny_bind (L3.here ?_))))))
  exact h _

theorem set_exc0 {cd : ClassData} {name : Str} {v : Value} (F : Fr h₀ L s.heap m) (Nw : News h₀ L s.heap ((x, excO C t none) :: news)) (X₀ : K.In h₀) (hne : ∀ p ∈ news, p.1 ≠ x)
    (hc : clsIn K C = some cd) (hm : cd.mro = [.ref C, .ref D, .type "Exception", .type "BaseException", .type "object"]) (hd : cd.hasDict = true) (ht : takerIn K C name = some none)
    (hs : findIn K (.ref C) "__setattr__" = some (some (.builtin "object.__setattr__")))
    (h : ∀ dx od h' tk', Fr h₀ L h' m → News h₀ L h' ((x, excO C t (some dx)) :: (dx, od) :: news) → x < dx → (∀ p ∈ news, p.1 < dx) → h'.Ns1 dx (fun y => if y = name then some v else none) → Q () { s with heap := h', toks := tk' }) :
    wpAny (model prog w) A (setAttr (.ref x) name v) Q E s := by
  obtain ⟨hh, g, d, tk, os⟩ := s
  have X : K.In hh := X₀.keeps F.keep
  have hx : hh.get? x = some (excO C t none) := (Nw (x, excO C t none) (.head _)).1
  have I : InstAt hh x (excO C t none) C none := ⟨hx, rfl, rfl, trivial⟩
  refine set_plain X I hs (osa_exc (cd := cd) (D := D) X I hc hm ht fun b => ?_)
  dsimp only
  refine wpAny_bind (wpAny_pure (wpAny_bind (wpAny_bind (wpAny_loadPart hx (wpAny_bind ((looks_clsIn X hc).here ?_))))))
  rw [hd]
  dsimp only [Bool.not_true, Bool.false_eq_true, if_false]
  have hx₁ : (hh.push { cls := .type "dict", data := .dict #[] }).get? x = some (excO C t none) := Heap.get?_push_of_some _ hx
  have hxs : x ≠ hh.objs.size := Nat.ne_of_lt (Heap.lt_size hx)
  refine wpAny_bind (wpAny_alloc' ?_)
  refine wpAny_bind (wpAny_update' hx₁ ?_)
  refine wpAny_pure ?_
  obtain ⟨U1, U2⟩ := news_upd (pre := [(hh.objs.size, ({ cls := .type "dict", data := .dict #[] } : Obj))]) (d := x) (o := excO C t none) (o' := excO C t (some hh.objs.size)) (f := fun o => { cls := o.cls, dict := some hh.objs.size, data := o.data, slots := o.slots }) (F.push _) (Nw.push F _)
    (fun p hp => by rw [List.mem_singleton.mp hp]; exact Nat.ne_of_gt (Heap.lt_size hx)) hne rfl rfl
  have hgd := (U2 (hh.objs.size, ({ cls := .type "dict", data := .dict #[] } : Obj)) (by simp)).1
  have hnd : Heap.Ns _ hh.objs.size (fun _ => none) := ⟨_, #[], _, hgd, rfl, fun e he => absurd he (by simp), fun _ => rfl⟩
  show wpAny _ _ (storeInDict hh.objs.size (.str name _) name v) _ _ _
  unfold storeInDict newKeyGuard
  refine wpAny_bind (wpAny_pure (wpAny_bind (wpAny_nsSet1 (Heap.Ns1.of_empty hnd) fun h' hn' hs => ?_)))
  obtain ⟨oD, esD, epD, hoD, hdD, hcD⟩ := hn'.count (Within.cons name v Within.nil)
  refine wpAny_bind (wpAny_lookBehind hoD (by rw [hdD]; exact pastItsLine_dict (Nat.le_trans hcD (by rw [List.length_cons, List.length_nil, sizeLine_eq]; omega))) ?_)
  refine wpAny_pure ?_
  have U3 := News.sub (l' := (hh.objs.size, ({ cls := .type "dict", data := .dict #[] } : Obj)) :: (x, excO C t (some hh.objs.size)) :: news) U2 (by simp)
  have hlt : ∀ p ∈ news, p.1 < hh.objs.size := fun p hp => Heap.lt_size (Nw p (.tail _ hp)).1
  have N4 := U3.setHead (fun p hp => by rcases List.mem_cons.mp hp with rfl | hp; exact hxs; exact Nat.ne_of_lt (hlt p hp)) hs hoD
  exact h _ oD h' _ (U1.update U3 (.head _) hs) (fun p hp => by
    rcases List.mem_cons.mp hp with rfl | hp
    · exact N4 _ (.tail _ (.head _))
    · rcases List.mem_cons.mp hp with rfl | hp
      · exact N4 _ (.head _)
      · exact N4 _ (.tail _ (.tail _ hp))) (Heap.lt_size hx) hlt hn'

theorem set_exc1 {cd : ClassData} {name : Str} {v : Value} {od : Obj} {mA : Str → Option Value} {ns : List Str} (F : Fr h₀ L s.heap m) (Nw : News h₀ L s.heap ((x, excO C t (some dx)) :: (dx, od) :: news)) (X₀ : K.In h₀) (hxd : x < dx) (hne : ∀ p ∈ news, p.1 < dx)
    (hns : s.heap.Ns1 dx mA) (hw : Within mA ns) (hz : ns.length ≤ 1000)
    (hc : clsIn K C = some cd) (hm : cd.mro = [.ref C, .ref D, .type "Exception", .type "BaseException", .type "object"]) (hd : cd.hasDict = true) (ht : takerIn K C name = some none)
    (hs : findIn K (.ref C) "__setattr__" = some (some (.builtin "object.__setattr__")))
    (h : ∀ od h' tk', Fr h₀ L h' m → News h₀ L h' ((x, excO C t (some dx)) :: (dx, od) :: news) → Q () { s with heap := h', toks := tk' }) :
    wpAny (model prog w) A (setAttr (.ref x) name v) Q E s := by
  obtain ⟨hh, g, d, tk, os⟩ := s
  have X : K.In hh := X₀.keeps F.keep
  have hx : hh.get? x = some (excO C t (some dx)) := (Nw (x, excO C t (some dx)) (.head _)).1
  have I : InstAt hh x (excO C t (some dx)) C (some od) := ⟨hx, rfl, rfl, (Nw (dx, od) (by simp)).1⟩
  refine set_plain X I hs (osa_exc (cd := cd) (D := D) X I hc hm ht fun b => ?_)
  dsimp only
  refine wpAny_bind (wpAny_pure (wpAny_bind (wpAny_bind (wpAny_loadPart hx (wpAny_bind ((looks_clsIn X hc).here ?_))))))
  rw [hd]
  dsimp only [Bool.not_true, Bool.false_eq_true, if_false]
  refine wpAny_pure ?_
  show wpAny _ _ (storeInDict dx (.str name _) name v) _ _ _
  unfold storeInDict newKeyGuard
  refine wpAny_bind (wpAny_pure (wpAny_bind (wpAny_nsSet1 hns fun h' hn' hs => ?_)))
  obtain ⟨oD, esD, epD, hoD, hdD, hcD⟩ := hn'.count (Within.cons name v hw)
  refine wpAny_bind (wpAny_lookBehind hoD (by rw [hdD]; exact pastItsLine_dict (Nat.le_trans hcD (by rw [List.length_cons, sizeLine_eq]; omega))) ?_)
  refine wpAny_pure ?_
  exact h oD h' _ (F.update Nw (.tail _ (.head _)) hs) (Nw.setSecond (Nat.ne_of_lt hxd) (fun p hp => Nat.ne_of_lt (hne p hp)) hs hoD)
end
end Mine
end
section
open PySem PySem.W PySem.Spec PySem.Calls PyProof.Rows PyProof.V
namespace Mine
local macro_rules | `(tactic| walk_at "idle 0") => `(tactic| fail)
set_option pp.deepTerms false
set_option pp.proofs false
set_option maxRecDepth 100000
set_option maxHeartbeats 4000000

section
variable {M : Model} {A : Around} {E : Value → Shared → Prop} {env : Env} {s : Shared}
variable {nm q : Str} {C N : Addr} {bs bm : List Value} {hdct : Bool} {sn : List Str} {sub : List Value} {ab : Bool} {col : Option Bool} {dd : Option Addr} {k0 k1 k2 k3 k5 : Option Value} {newId : String}
def RaiseEnd (C : Addr) (E : Value → Shared → Prop) (v : Value) (s₁ : Shared) : Prop := ∃ e t dx, v = .ref e ∧ s₁.heap.get? e = some (excO C t dx) ∧ E (.ref e) s₁
theorem raiseStmt_exc {x : Sem Value} {Q : Flow → Shared → Prop} (hbase : bm.contains (.type "BaseException") = true) (hh : A.handled = none)
    (h : wpAny M A x (fun v s₁ => s₁.heap.get? C = some (excClassObj nm q C N bs bm hdct sn sub ab col dd k0 k1 k2 k3 k5 newId) ∧ RaiseEnd C E v s₁) E s) :
    wpAny M A (raiseStmt env (some x) none) Q E s := by
  have hcB : (Value.ref C :: bm).contains (.type "BaseException") = true := by rw [List.contains_cons, hbase, Bool.or_true]
  unfold raiseStmt
  refine wpAny_bind (wpAny_mono h (fun v s₁ h₁ => ?_) fun _ _ x => x)
  obtain ⟨hC, e, t, dx, rfl, he, hE⟩ := h₁
  obtain ⟨hp, g, d, tk, os⟩ := s₁
  replace he : hp.get? e = some { cls := .ref C, dict := dx, data := .fields #[.ref t, .none, .none, .none, .bool false, .none] } := he
  repeat (first | with_reducible refine wpAny_loadPart_at he ?_ | with_reducible refine wpAny_loadPart_at hC ?_ | (with_reducible refine wpAny_isSubtype_exc hC ?_; rw [hcB]) | wp_step)
  exact wpAny_raiseNew_none hh hE
theorem Raise_exc {x : Expr} {pos : Pos} {Q : Flow → Shared → Prop} (hbase : bm.contains (.type "BaseException") = true) (hh : A.handled = none)
    (h : wpAny M A (eval x env) (fun v s₁ => s₁.heap.get? C = some (excClassObj nm q C N bs bm hdct sn sub ab col dd k0 k1 k2 k3 k5 newId) ∧ RaiseEnd C E v s₁) E s) :
    wpAny M A (exec (.Raise (some x) none pos) env) Q E s := by
  rw [arm_exec_Raise]
  simp only [evalOpt, Option.map]
  refine wpAny_bind (wpAny_standAt (raiseStmt_exc (C := C) (nm := nm) (q := q) (N := N) (bs := bs) (bm := bm) (hdct := hdct) (sn := sn) (sub := sub) (ab := ab) (col := col) (dd := dd) (k0 := k0) (k1 := k1) (k2 := k2) (k3 := k3) (k5 := k5) (newId := newId) hbase hh ?_))
  refine wpAny_bind (wpAny_mono h (fun v s₁ z => ?_) fun _ _ z => z)
  exact wpAny_bind (wpAny_standAt (wpAny_pure z))
abbrev faultBase : List Value := [.ref 39, .type "Exception", .type "BaseException", .type "object"]
theorem fault_cls (w : World) : ∃ nm q N bs hdct sn sub ab col dd k0 k1 k2 k3 k5, (Mine.frame.heap_1 w.params).lookup 52 = some (excClassObj nm q 52 N bs faultBase hdct sn sub ab col dd k0 k1 k2 k3 k5 "Exception.__new__") :=
  ⟨_, _, _, _, _, _, _, _, _, _, _, _, _, _, _, by k_is⟩
theorem Raise_fault {w : World} {x : Expr} {pos : Pos} {Q : Flow → Shared → Prop} (hh : A.handled = none)
    (h : wpAny (model prog w) A (eval x env) (fun v s₁ => (Mine.frame.heap_1 w.params).In s₁.heap ∧ RaiseEnd 52 E v s₁) E s) :
    wpAny (model prog w) A (exec (.Raise (some x) none pos) env) Q E s := by
  obtain ⟨nm, q, N, bs, hdct, sn, sub, ab, col, dd, k0, k1, k2, k3, k5, hl⟩ := fault_cls w
  exact Raise_exc (nm := nm) (q := q) (C := 52) (N := N) (bs := bs) (bm := faultBase) (hdct := hdct) (sn := sn) (sub := sub) (ab := ab) (col := col) (dd := dd) (k0 := k0) (k1 := k1) (k2 := k2) (k3 := k3) (k5 := k5) (newId := "Exception.__new__") (by decide) hh (wpAny_mono h (fun v s₁ z => ⟨z.1 52 _ hl, z.2⟩) fun _ _ z => z)
end
theorem ne_cons {h₀ h : Heap} {L : Addr} {o1 : Obj} {e t : Addr} {o : Obj} {news : List (Addr × Obj)} (_ : News h₀ L h ((e, o1) :: (t, o) :: news)) (h : e ≠ t) (hn : ∀ p ∈ news, p.1 ≠ e) : ∀ p ∈ (t, o) :: news, p.1 ≠ e := fun p hp => by rcases List.mem_cons.mp hp with rfl | hp; exact h.symm; exact hn p hp
theorem pick_exc {h₀ h : Heap} {L : Addr} {x y z u : Addr × Obj} {news : List (Addr × Obj)} (N : News h₀ L h (x :: y :: z :: u :: news)) : News h₀ L h (x :: z :: news) := News.sub N (by simp +contextual)
theorem meta_Exc : typeOf (.type "Exception") = pure (.type "type") := by kernel_rfl
section
variable {w : World} {p : Program} {loose : List Str} {mean : ExcName → Option Value} {mg mb : Str → Option Value}
theorem fault_made {msg : Str} {tt : Tok} {dp un : Nat} {gd : Option (List Code)} {cn : Str} {cs : Scope} {L a : Addr} {ccd : Value} {cl : List (Str × Addr)} {outer : List Env} {A₀ : Around} {base h₀ : Heap} {m : Str → Option Value} {s : Shared} {news : List (Addr × Obj)}
    {Q E : Value → Shared → Prop} (B : Below A₀ base outer h₀) (F : Fr h₀ L s.heap m) (X : (Mine.frame.heap_1 w.params).In h₀) (N : News h₀ L s.heap news) (T : Top p loose mean mg mb h₀) (hk : cs.kind = .function) (hd : dp + 3 < recursionLimit) (hu : un + 24 < cLine)
    (hret : ∀ e t dx h' tk', Fr h₀ L h' m → News h₀ L h' ((e, excO 52 t (some dx)) :: (t, tup1 (.str msg tt)) :: news) → (∀ p ∈ (t, tup1 (.str msg tt)) :: news, p.1 ≠ e) → Q (.ref e) { s with heap := h', toks := tk' }) :
    wpAny (model prog w) (ktrTop dp un gd cn cs L a ccd cl outer) (call (.ref 52) [.str msg tt]) Q E s := by
  refine make_excK PySem.F.excBase_Exception F N X (by k_is) (by decide) (by decide) (by decide) (by k_is) (by k_is) ?_
  intro e t h' F' N' l1 l2
  k_dflt (refine' code_def (binds := [(Str.ofString "self", .ref e), (Str.ofString "message", .str msg tt), (Str.ofString "spot", .none)]) ?k1 ?k2 ?k3 ?k4 ?k5 ?kA ?kF ?kK ?k6 ?k7 ?k8 ?k9 ?kB ?_ ?c2 ?c3 ?c4 ?c5; (case kA => exact rfl); (case kF => exact rfl); (case kK => assumption); (case k1 => k_asm); (case k2 => k_asm); (case k3 => k_asm); (case k4 => k_asm); (case k5 => k_asm); (case k6 => k_is); (case k7 => k_is); (case k8 => ktr_room); (case k9 => exact binds_K (by k_in) rfl (by k_is) rfl rfl rfl); (case c5 => decide); (case kB => exact locs rfl); (case c2 => exact rfl); (case c3 => exact rfl); (case c4 => exact rfl); k_whole)
  intro g' L' h' FG' F' N' B' X' T'
  (try dsimp only)
  (try k_fold)
  have hne0 : ∀ p ∈ ((t, tup1 (.str msg tt)) :: news), p.1 ≠ e := fun p hp => by rcases List.mem_cons.mp hp with rfl | hp; exact Nat.ne_of_lt l2; exact Nat.ne_of_lt (Nat.lt_trans (l1 p hp) l2)
  (repeat' (first | (k_unfold; (try dsimp only)) | (k_end; wrow_close) | ((fail_if_success (fail_if_success (with_reducible show wpAny _ _ (call _ _ _) _ _ _))); first | ((fail_if_success (fail_if_success (with_reducible show wpAny _ _ (call (Value.builtin "Exception.__init__") _ _) _ _ _))); with_reducible (k_here; k_dflt (refine init_excK PySem.F.excBase_Exception (by k_asm) (by k_asm) (by k_asm) (by k_is) (by decide) (by assumption) ?_); intro _ _ _ N5 e5 _; (rename ∀ _ ∈ _, _ ≠ _ => hne9); replace hne9 := ne_cons N5 e5 hne9; (try dsimp only); (try k_sweep)))) | ((fail_if_success (fail_if_success (with_reducible show wpAny _ _ (setAttr _ _ _) _ _ _))); first | ((fail_if_success (fail_if_success (with_reducible show wpAny _ _ (setAttr (Value.ref _) _ _) _ _ _))); with_reducible (k_here; k_dflt (refine set_exc0 (by k_asm) (by k_asm) (by k_asm) (by assumption) (by k_is) (by exact rfl) (by exact rfl) (by k_is) (by k_is) ?_); intro _ _ _ _ _ _ _ _ _; (try dsimp only); (try k_sweep))) | ((fail_if_success (fail_if_success (with_reducible show wpAny _ _ (setAttr (Value.ref _) _ _) _ _ _))); with_reducible (k_here; k_dflt (refine set_exc1 (ns := ["message"]) (by k_asm) (by k_asm) (by k_asm) (by assumption) (by assumption) (by assumption) (by within_ways) (by decide) (by k_is) (by exact rfl) (by exact rfl) (by k_is) (by k_is) ?_); intro _ _ _ _ _; (try dsimp only); (try k_sweep)))) | ((fail_if_success (fail_if_success (with_reducible show wpAny _ _ (getMethod _ _ _) _ _ _))); first | ((fail_if_success (fail_if_success (with_reducible show wpAny _ _ (getMethod (Value.type _) _ _) _ _ _))); with_reducible (k_here; refine method_type (by k_asm) (by k_asm) (by exact meta_Exc) (by decide +kernel) (by k_dflt k_is) (by k_handed) ?_))) | walk1 | (dsimp only; walk1) | (leave1; walk_say "STEP leave1"; try dsimp only) | fail "no step"))
  rename ∀ p ∈ _ :: _ :: _, _ ≠ _ => hne7
  rename_i kF9 kN9 _ _
  exact hret e _ _ _ _ kF9 (pick_exc kN9) (fun p hp => hne7 p (by rcases List.mem_cons.mp hp with rfl | hp; exact .head _; exact .tail _ (.tail _ hp)))
end
section
variable {M : Model} {A : Around} {E : Value → Shared → Prop} {s' : Shared} {base g g₂ h : Heap} {outer : List Env} {L a e t C : Addr} {m : Str → Option Value} {name : Str} {scope : Scope} {cd : Value} {cl : List (Str × Addr)} {Q : Unit → Shared → Prop} {news : List (Addr × Obj)}
/-- an own exception on its way out: what stood before it stands -/
abbrev RaisedX (base : Heap) (l : List Env) (e : Addr) (C : Addr) (news : List (Addr × Obj)) (h : Heap) : Prop := RaisedN base l e (.ref C) news h
theorem leave_raiseX {dx : Option Addr} (K : Below A base outer g) (F : Fr g L s'.heap m) (N : News g L s'.heap ((e, excO C t dx) :: news)) (hne : ∀ p ∈ news, p.1 ≠ e)
    (hQ : ∀ h', RaisedX base outer e C news h' → g.UpToSlots h' → Q () { s' with heap := h' }) (hk : scope.kind = .function) :
    wpAny M (A.deeper (envOf name scope L a cd)) (leaving (envOf name scope L a cd) (.ref e)) Q E s' := by
  have K' := K.push (name := name) (a := a) (cd := cd) F hk
  have he := N (e, excO C t dx) (.head _)
  have hin : ∀ env ∈ (envOf name scope L a cd :: outer), ∀ b, env.frame = some b → b ∈ e :: (envOf name scope L a cd :: outer).filterMap (·.frame) := fun env he b hb => .tail _ (List.mem_filterMap.mpr ⟨env, he, hb⟩)
  have hbe : base.get? e = none := fresh_of_stays K.stays he.2.2
  have st : base.StaysIn (hideAll s'.heap (e :: (envOf name scope L a cd :: outer).filterMap (·.frame))) := fun b o q => hideAll_get _ (K'.stays b o q) fun hm => by
    rcases List.mem_cons.mp hm with rfl | hm
    · rw [hbe] at q; cases q
    · rw [(K'.frames.mem hm).1] at q; cases q
  have hl : ∀ q ∈ news, (hideAll s'.heap (e :: (envOf name scope L a cd :: outer).filterMap (·.frame))).get? q.1 = some q.2 ∧ base.get? q.1 = none := fun q hq => by
    have hq' := N q (.tail _ hq)
    refine ⟨hideAll_get _ hq'.1 fun hm => ?_, fresh_of_stays K.stays hq'.2.2⟩
    rcases List.mem_cons.mp hm with hm | hm
    · exact hne q hq hm
    · obtain ⟨env, he, hf⟩ := List.mem_filterMap.mp hm
      rcases List.mem_cons.mp he with rfl | he
      · exact hq'.2.1 (Option.some.inj hf).symm
      · obtain ⟨o, ho, _⟩ := (K.frames.mem (List.mem_filterMap.mpr ⟨env, he, hf⟩)).2
        rw [hq'.2.2] at ho; cases ho
  refine wpAny_leaving_firstW (base := hideAll s'.heap (e :: (envOf name scope L a cd :: outer).filterMap (·.frame))) (a0 := .ref t) K'.stack (funFrames_hide K'.frames hin) rfl he.1 (fun b o q => of_hideAll _ q) (hideAll_none _ (.head _)) rfl rfl rfl fun h' hL => ?_
  obtain ⟨k1, ⟨_, _, k2⟩, k3, k4⟩ := hL
  exact hQ h' ⟨_, _, st, hl, k1, hideAll_none _ (.head _), k2, k3⟩ ((Heap.UpToSlots.of_keeps F.keep).trans k4)

theorem raise_end {M : Model} {E' : Value → Shared → Prop} {dx : Option Addr} (K : Below A base outer g) (F : Fr g L s'.heap m) (N : News g L s'.heap ((e, excO C t dx) :: news)) (hne : ∀ p ∈ news, p.1 ≠ e) (hk : scope.kind = .function)
    (hQ : ∀ h', RaisedX base outer e C news h' → g.UpToSlots h' → E' (.ref e) { s' with heap := h' }) :
    RaiseEnd C (fun e s' => wpAny M (A.deeper (envOf name scope L a cd)) (leaving (envOf name scope L a cd) e) (fun _ s'' => E' e s'') (fun e' s'' => E' e' s'') s') (.ref e) s' :=
  ⟨e, t, dx, rfl, (N _ (.head _)).1, leave_raiseX K F N hne hQ hk⟩
theorem leave_onX (K : Below A base outer g) (F : Fr g L g₂ m) (R : RaisedX base (envX name scope L a cd cl :: outer) e C news s'.heap) (hsm : g₂.UpToSlots s'.heap)
    (hQ : ∀ h', RaisedX base outer e C news h' → g.UpToSlots h' → Q () { s' with heap := h' }) :
    wpAny M (A.deeper (envX name scope L a cd cl)) (leaving (envX name scope L a cd cl) (.ref e)) Q E s' := by
  obtain ⟨B, a0, hB, hl, hfl⟩ := R
  exact wpAny_leaves_onW (Around.frames_deeper K.stack) rfl hfl fun h' x1 x2 => hQ h' ⟨B, a0, hB, hl, x1⟩ ((Heap.UpToSlots.of_keeps F.keep).trans (hsm.trans x2))
theorem fly_end {M : Model} {E0 E' : Value → Shared → Prop} (K : Below A base outer g) (F : Fr g L g₂ m) (R : RaisedX base (envX name scope L a cd cl :: outer) e C news s'.heap) (hsm : g₂.UpToSlots s'.heap)
    (hE : E0 = fun e s' => wpAny M (A.deeper (envX name scope L a cd cl)) (leaving (envX name scope L a cd cl) e) (fun _ s'' => E' e s'') (fun e' s'' => E' e' s'') s')
    (hQ : ∀ h', RaisedX base outer e C news h' → g.UpToSlots h' → E' (.ref e) { s' with heap := h' }) : E0 (.ref e) s' := by
  subst hE
  exact leave_onX K F R hsm hQ
theorem RaisedX.sub {l : List Env} {news' : List (Addr × Obj)} (R : RaisedX base l e C news h) (s : ∀ q ∈ news', q ∈ news) : RaisedX base l e C news' h :=
  let ⟨B, a0, h1, h2, h3⟩ := R; ⟨B, a0, h1, fun q hq => h2 q (s q hq), h3⟩
end
def cutAt (h : Heap) (n : Nat) : Heap := { h with objs := h.objs.extract 0 n }
theorem cutAt_get {h : Heap} {n b : Nat} {o : Obj} (e : h.get? b = some o) (hb : b < n) : (cutAt h n).get? b = some o := by
  have hz : b < h.objs.size := Heap.lt_size e
  unfold Heap.get? at e
  unfold cutAt Heap.get?
  have : (h.objs.extract 0 n)[b]? = h.objs[b]? := by
    rw [Array.getElem?_extract]
    simp only [Nat.zero_add, Nat.sub_zero]
    rw [if_pos (by omega)]
  simp only [this]
  exact e
theorem of_cutAt {h : Heap} {n b : Nat} {o : Obj} (e : (cutAt h n).get? b = some o) : h.get? b = some o := by
  have hz : b < (h.objs.extract 0 n).size := Heap.lt_size e
  have : (h.objs.extract 0 n)[b]? = h.objs[b]? := by
    rw [Array.getElem?_extract]
    simp only [Array.size_extract] at hz
    simp only [Nat.zero_add, Nat.sub_zero]
    rw [if_pos (by omega)]
  unfold cutAt Heap.get? at e
  unfold Heap.get?
  simp only [this] at e
  exact e
theorem cutAt_size {h : Heap} {n : Nat} : (cutAt h n).objs.size ≤ n := by
  show (h.objs.extract 0 n).size ≤ n
  rw [Array.size_extract]; omega

section
variable {prog : Program} {w : World} {A₀ : Around} {E : Value → Shared → Prop} {s' : Shared} {h₀ g h : Heap} {outer : List Env} {L a e Lc : Addr} {m mc : Str → Option Value} {name : Str} {scope : Scope} {cd : Value}
  {b₀ : Stmt} {suite : List Stmt} {pos np : Pos} {rest : List ExceptHandler} {Q : Flow → Shared → Prop} {news : List (Addr × Obj)} {KF : Frag} {C : Addr}
  {p : Program} {loose : List Str} {mean : ExcName → Option Value} {mg mb : Str → Option Value} {x : Str}
  {nm q : Str} {N : Addr} {bs bm : List Value} {hdct : Bool} {sn : List Str} {sub : List Value} {ab : Bool} {col : Option Bool} {dd : Option Addr} {k0 k1 k2 k3 k5 : Option Value} {newId : String}
theorem caught_M (K : Below A₀ h₀ outer g) (FG : Fr h₀ Lc g mc) (F : Fr g L h m) (Nw : News g L h news) (hsm : h.UpToSlots s'.heap) (R : RaisedX h₀ (envOf name scope L a cd :: outer) e C news s'.heap)
    (X : KF.In h₀) (T : TopRead p loose mg mb h₀) (ex : nsIn KF mainGlobals x = some (some (.ref C))) (hl : KF.lookup C = some (excClassObj nm q C N bs bm hdct sn sub ab col dd k0 k1 k2 k3 k5 newId)) (hbase : bm.contains (.type "BaseException") = true)
    (k : ∀ g' h', Fr h₀ Lc g' mc → Fr g' L h' m → News g' L h' news → Below A₀ h₀ outer g' → h₀.StaysIn g' →
      wpAny (model prog w) ((A₀.deeper (envOf name scope L a cd)).mark (some (.ref e))) (execs (b₀ :: suite) (envOf name scope L a cd)) Q (fun _ _ => False) { s' with heap := h' })
    (hk : scope.kind = .function) (hx : (envOf name scope L a cd).kindOf x = some .globalImplicit) (hd : (x == ("__debug__" : Str)) = false) :
    wpAny (model prog w) (A₀.deeper (envOf name scope L a cd)) (noteFrame (.ref e) (envOf name scope L a cd))
      (fun _ s₂ => wpAny (model prog w) (A₀.deeper (envOf name scope L a cd)) (setFlight (.ref e) none) (fun _ s₃ =>
        wpAny (model prog w) (A₀.deeper (envOf name scope L a cd)) (handleBy (.ref e) (envOf name scope L a cd) (.ExceptHandler (some (.Name x np)) none (b₀ :: suite) pos :: rest)) Q E s₃) E s₂) E s' := by
  obtain ⟨B, a0, hB, hln, hfl⟩ := R
  have hgL : g.objs.size ≤ L := F.above
  refine wpAny_looks_onW (Around.frames_deeper K.stack) rfl hfl fun h₄ hheld₄ hsm₄ => ?_
  refine wpAny_landsW hheld₄ fun h₅ hheld hsm₅' => ?_
  have hsm₅ := hsm₄.trans hsm₅'
  have hheld' := flyingW_base hB hheld
  have F₅ : Fr h₀ L h₅ m := ⟨(hsm.trans hsm₅).ns F.ns, hheld'.1, Nat.le_trans FG.above (Nat.le_trans (Nat.le_of_lt FG.ns.lt) hgL)⟩
  obtain ⟨ob, hob, hobc⟩ := hheld'.there
  refine wpAny_handleBy_cons (codeAny_handlers_test (name_K F₅ X T ex ?_ hk hx hd)) (by intro q; cases q)
  refine wpAny_excMatches_sub_self (F₅.keep _ _ (X _ _ hl)) hob hobc hbase (codeAny_handlers_suite ?_)
  refine lands_againW hheld fun h₆ hfl₆ hsm₆ => ?_
  have hs6 := (hsm.trans hsm₅).trans hsm₆
  have st6 : h₀.StaysIn h₆ := fun b o q => hfl₆.1 b o (hB b o q)
  have nn : ∀ b o, g.get? b = some o → b ∉ news.map (·.1) := fun b o e hm => by
    obtain ⟨p, hp, rfl⟩ := List.mem_map.mp hm
    rw [(Nw p hp).2.2] at e; cases e
  have n0 : ∀ b o, h₀.get? b = some o → b ∉ news.map (·.1) := fun b o e => nn b o (FG.keep b o e)
  have up : g.UpToSlots (hideAll (cutAt h₆ L) (news.map (·.1))) := fun b o hb hf => by
    obtain ⟨sl, h1⟩ := hs6 b o (F.keep b o hb) hf
    exact ⟨sl, hideAll_get _ (cutAt_get h1 (Nat.lt_of_lt_of_le (Heap.lt_size hb) hgL)) (nn b o hb)⟩
  have st : h₀.StaysIn (hideAll (cutAt h₆ L) (news.map (·.1))) := fun b o hb =>
    hideAll_get _ (cutAt_get (st6 b o hb) (Nat.lt_of_lt_of_le (Heap.lt_size (FG.keep b o hb)) hgL)) (n0 b o hb)
  have kp : (hideAll (cutAt h₆ L) (news.map (·.1))).StaysIn h₆ := fun b o e => of_cutAt (of_hideAll _ e)
  have F₆ : Fr (hideAll (cutAt h₆ L) (news.map (·.1))) L h₆ m := ⟨hs6.ns F.ns, kp, by rw [hideAll_size]; exact cutAt_size⟩
  refine wpAny_noRaise (k _ h₆ ⟨up.ns FG.ns, st, FG.above⟩ F₆ (fun q hq => ⟨hfl₆.1 _ _ (hln q hq).1, (Nw q hq).2.1, hideAll_none _ (List.mem_map_of_mem hq)⟩)
    ⟨K.stack, st, K.frames.of_keeps fun b o hb hf => by obtain ⟨sl, h1⟩ := up b o hb hf; exact ⟨_, h1, rfl⟩⟩ st)
end

section
variable {prog : Program} {w : World} {A A₀ : Around} {s : Shared} {K : Frag} {L : Addr} {h₀ base : Heap} {m mg mb : Str → Option Value} {news : List (Addr × Obj)} {p : Program} {loose : List Str} {mean : ExcName → Option Value}
/-- the leave of a function that may have caught: on whatever ground -/
def LeaveL (h₀ : Heap) (L : Addr) (m : Str → Option Value) (R : Result → Shared → Prop) (v : Value) (s' : Shared) : Prop := ∃ g, Fr h₀ L g m ∧ LeaveK h₀ L m g R v s'
theorem leaveK_of {g : Heap} {R : Result → Shared → Prop} {v : Value} {s' : Shared} (FG : Fr h₀ L g m) (h : LeaveK h₀ L m g R v s') : R (.ok (.ret v)) s' := by
  obtain ⟨L', m', news', F', N', k⟩ := h
  obtain ⟨oL, es, ep, hL, hr⟩ := FG.ns
  refine k ⟨⟨oL, es, ep, F'.keep _ _ hL, hr⟩, fun b o e => F'.keep _ _ (FG.keep b o e), FG.above⟩ fun q hq => ⟨(N' q hq).1, fun z => ?_, fresh_of_stays FG.keep (N' q hq).2.2⟩
  have := (N' q hq).2.2
  rw [z, hL] at this; cases this
theorem code_defL {env : Env} {outer : List Env} {R : Result → Shared → Prop} {name qual : Str} {params : Arguments} {body : List Stmt} {scope : Scope} {dV kV doc pm cdv ct oc : Value} {an od : Option Addr} {osl : Array (Option Value)} {f : Addr} {args : Args} {binds : List (Str × Value)}
    (B : Below A₀ base outer h₀) (F : Fr h₀ L s.heap m) (X₀ : K.In h₀) (N : News h₀ L s.heap news) (T : Top p loose mean mg mb h₀) (hA : A.frames = some (env :: outer)) (hf : env.frame = some L) (hke : env.scope.kind = .function)
    (ho : K.lookup f = some ⟨oc, od, .func (fnOf name qual params body scope dV kV doc pm an cdv ct), osl⟩) (hcd : codeIn K cdv qual = true) (hroom : A.depth < recursionLimit)
    (hbind : BindsTo s (fnOf name qual params body scope dV kV doc pm an cdv ct) args binds) (hloc : ∀ y ∈ binds, scope.names.lookup y.1 = some .local)
    (h : ∀ g L' h₁, Fr h₀ L g m → Fr g L' h₁ (fun y => binds.reverse.lookup y) → News g L' h₁ news → Below A base (env :: outer) g → K.In g → Top p loose mean mg mb g →
      wpAny (model prog w) (A.deeper (envOf qual scope L' f cdv)) (execs body (envOf qual scope L' f cdv))
        (fun fl s' => LeaveL h₀ L m R (match fl with | .ret v => v | _ => .none) s')
        (fun e s' => wpAny (model prog w) (A.deeper (envOf qual scope L' f cdv)) (leaving (envOf qual scope L' f cdv) e) (fun _ s'' => R (.error e) s'') (fun e' s'' => R (.error e') s'') s')
        { s with heap := h₁, toks := s.toks + binds.length })
    (hco : scope.isCoroutine = false) (hgen : scope.isGenerator = false) (hk : scope.kind = .function)
    (hcell : ∀ x ∈ scope.names, x.2 ≠ .cell) : codeAny (model prog w) A (.call (.ref f) args) R s := by
  obtain ⟨FG, BG, st, _⟩ := groundX (R := R) B F N hA hf hke
  refine codeAny_call_def (fd := fnX name qual params body scope [] dV kV doc pm an cdv ct) (body := body) (binds := binds) hroom ((X₀.keeps F.keep) _ _ ho) rfl (T.nolimit.keeps F.keep) (codeRec_of (X₀.keeps F.keep) hcd) rfl hbind hcell hloc (fun h₁ hns hk₁ => ?_) hco hgen hk
  exact wpAny_mono (h _ s.heap.objs.size h₁ FG ⟨hns, fun b o e => hk₁ b o (of_hideAll _ e), Nat.le_of_eq (hideAll_size _ _)⟩
    (fun p hp => ⟨hk₁ _ _ (N p hp).1, Nat.ne_of_lt (Heap.lt_size (N p hp).1), hideAll_none _ (List.mem_map_of_mem hp)⟩) BG (X₀.keeps st) (T.keeps st)) (fun fl s' hl => let ⟨_, FG', z⟩ := hl; leaveK_of FG' z) fun _ _ y => y
end
end Mine
end
section
open PySem PySem.W PySem.Spec PySem.Calls PyProof.Rows PyProof.V
namespace Mine
set_option pp.deepTerms false
set_option pp.proofs false
set_option maxRecDepth 100000
set_option maxHeartbeats 1000000

/-- a value of the ledger and the data that it reads as: flat, or one tuple or list of flat ones -/
inductive Dm (news : List (Addr × Obj)) : Value → PyData → Prop where
  | at {v d} : Carried v d → Dm news v d
  | tup {a vs n ds} : (a, tupO vs n) ∈ news → CarriedAll vs ds → Dm news (.ref a) (.tuple ds)
  | lst {a vs n ds} : (a, lstO vs n) ∈ news → CarriedAll vs ds → Dm news (.ref a) (.list ds)
inductive DmAll (news : List (Addr × Obj)) : List Value → List PyData → Prop where
  | nil : DmAll news [] []
  | cons {v d vs ds} : Dm news v d → DmAll news vs ds → DmAll news (v :: vs) (d :: ds)
theorem Dm.mono {n n' : List (Addr × Obj)} (h : ∀ q ∈ n, q ∈ n') : ∀ {v d}, Dm n v d → Dm n' v d
  | _, _, .at c => .at c
  | _, _, .tup m c => .tup (h _ m) c
  | _, _, .lst m c => .lst (h _ m) c
theorem DmAll.mono {n n' : List (Addr × Obj)} (h : ∀ q ∈ n, q ∈ n') : ∀ {v d}, DmAll n v d → DmAll n' v d
  | _, _, .nil => .nil
  | _, _, .cons a b => .cons (a.mono h) (b.mono h)
theorem DmAll.len {n : List (Addr × Obj)} : ∀ {vs ds}, DmAll n vs ds → vs.length = ds.length
  | _, _, .nil => rfl
  | _, _, .cons _ b => by simp [b.len]
theorem DmAll.get {n : List (Addr × Obj)} {v : Value} : ∀ {vs ds} {i : Nat}, DmAll n vs ds → vs[i]? = some v → ∃ d, ds[i]? = some d ∧ Dm n v d
  | _, _, 0, .cons a _, h => ⟨_, rfl, by simp at h; exact h ▸ a⟩
  | _, _, i + 1, .cons _ b, h => b.get (i := i) (by simpa using h)
theorem DmAll.get' {n : List (Addr × Obj)} {d : PyData} : ∀ {vs ds} {i : Nat}, DmAll n vs ds → ds[i]? = some d → ∃ v, vs[i]? = some v ∧ Dm n v d
  | _, _, 0, .cons a _, h => ⟨_, rfl, by simp at h; exact h ▸ a⟩
  | _, _, i + 1, .cons _ b, h => b.get' (i := i) (by simpa using h)
theorem DmAll.append {n : List (Addr × Obj)} : ∀ {vs ds vs' ds'}, DmAll n vs ds → DmAll n vs' ds' → DmAll n (vs ++ vs') (ds ++ ds')
  | _, _, _, _, .nil, h => h
  | _, _, _, _, .cons a b, h => .cons a (b.append h)
theorem carried_reads {h : Heap} : ∀ {v d}, Carried v d → Reads h v d []
  | _, _, .int _ _ => .int _ _
  | _, _, .bool _ => .bool _
  | _, _, .str _ _ => .str _ _
  | _, _, .none => .none
theorem carriedAll_reads {h : Heap} : ∀ {vs ds}, CarriedAll vs ds → ReadsAll h vs ds []
  | _, _, .nil => .nil
  | _, _, .cons a b => .cons (carried_reads a) (carriedAll_reads b)
theorem Dm.reads {h₀ h : Heap} {L : Addr} {n : List (Addr × Obj)} (N : News h₀ L h n) : ∀ {v d}, Dm n v d → ∃ as, Reads h v d as
  | _, _, .at c => ⟨_, carried_reads c⟩
  | _, _, .tup m c => ⟨_, .tuple (N _ m).1 rfl rfl (by simpa using carriedAll_reads c)⟩
  | _, _, .lst m c => ⟨_, .list (N _ m).1 rfl rfl (by simpa using carriedAll_reads c)⟩
theorem DmAll.reads {h₀ h : Heap} {L : Addr} {n : List (Addr × Obj)} (N : News h₀ L h n) : ∀ {vs ds}, DmAll n vs ds → ∃ as, ReadsAll h vs ds as
  | _, _, .nil => ⟨_, .nil⟩
  | _, _, .cons a b => let ⟨_, x⟩ := a.reads N; let ⟨_, y⟩ := b.reads N; ⟨_, .cons x y⟩
def isT : PyData → Bool | .tuple _ => true | _ => false
def isN : PyData → Bool | .int _ => true | .bool _ => true | _ => false
/-- small data: it can be compared and printed -/
def smallD (d : PyData) : Bool := d.canLay0 && decide (d.depth ≤ 1) && d.showable && !d.hasDict && decide (d.shown.length ≤ 1000)
def tupQ (news : List (Addr × Obj)) : Value → Bool
  | .ref a => news.any fun q => q.1 == a && q.2.cls == .type "tuple"
  | _ => false
theorem tupQ_tup {news : List (Addr × Obj)} {a : Addr} {vs : List Value} {n : Nat} (h : (a, tupO vs n) ∈ news) : tupQ news (.ref a) = true :=
  List.any_eq_true.mpr ⟨_, h, by simp⟩
theorem tupQ_lst {h₀ h : Heap} {L : Addr} {news : List (Addr × Obj)} {a : Addr} {vs : List Value} {n : Nat} (N : News h₀ L h news) (h : (a, lstO vs n) ∈ news) : tupQ news (.ref a) = false := by
  refine Bool.eq_false_iff.mpr fun e => ?_
  obtain ⟨q, hq, e⟩ := List.any_eq_true.mp e
  simp only [Bool.and_eq_true, beq_iff_eq] at e
  obtain ⟨b, o⟩ := q
  obtain ⟨rfl, e2⟩ := e
  have h1 := (N _ hq).1.symm.trans (N _ h).1
  have := congrArg Obj.cls (Option.some.inj h1)
  rw [e2] at this
  simp at this
theorem tupQ_of {h₀ h : Heap} {L : Addr} {n : List (Addr × Obj)} (N : News h₀ L h n) : ∀ {v d}, Dm n v d → tupQ n v = isT d
  | _, _, .at c => by cases c <;> rfl
  | _, _, .tup m _ => tupQ_tup m
  | _, _, .lst m _ => tupQ_lst N m

section
variable {w : World} {A : Around} {E : Value → Shared → Prop} {s : Shared} {h₀ : Heap} {L : Addr} {m : Str → Option Value} {news : List (Addr × Obj)}
theorem isinst_tuple {v : Value} {d : PyData} {Q : Value → Shared → Prop} (N : News h₀ L s.heap news) (hd : Dm news v d) (h : ∀ tk, Q (.bool (isT d)) { s with toks := tk }) : wpAny (model prog w) A (call (.builtin "isinstance") [v, .type "tuple"]) Q E s := by
  cases hd with
  | «at» c =>
    cases c with
    | int => exact IsiPair.int_tuple (h _)
    | bool => exact IsiPair.bool_tuple (h _)
    | str => exact IsiPair.str_tuple (h _)
    | none => exact IsiPair.NoneType_tuple (h _)
  | tup m => exact IsiPair.tuple_tuple (N _ m).1 rfl (h s.toks)
  | lst m => exact IsiPair.list_tuple (N _ m).1 rfl (h _)
theorem isinst_int {v : Value} {d : PyData} {Q : Value → Shared → Prop} (N : News h₀ L s.heap news) (hd : Dm news v d) (h : ∀ tk, Q (.bool (isN d)) { s with toks := tk }) : wpAny (model prog w) A (call (.builtin "isinstance") [v, .type "int"]) Q E s := by
  cases hd with
  | «at» c =>
    cases c with
    | int => exact IsiPair.int_int (h s.toks)
    | bool => exact IsiPair.bool_int (h s.toks)
    | str => exact IsiPair.str_int (h _)
    | none => exact IsiPair.NoneType_int (h _)
  | tup m => exact IsiPair.tuple_int (N _ m).1 rfl (h _)
  | lst m => exact IsiPair.list_int (N _ m).1 rfl (h _)
theorem eqvAll_nil : ∀ ds : List PyData, PyData.eqvAll ds [] = ds.isEmpty
  | [] => rfl
  | _ :: _ => rfl
theorem layAll {ds : List PyData} (h : ∀ d ∈ ds, smallD d = true) : PyData.canLayAll0 ds = true ∧ PyData.depthAll ds ≤ 1 := by
  induction ds with
  | nil => exact ⟨rfl, Nat.zero_le _⟩
  | cons d r ih =>
    have h1 := h d (.head _)
    simp only [smallD, Bool.and_eq_true, decide_eq_true_eq] at h1
    have h2 := ih fun x hx => h x (.tail _ hx)
    exact ⟨by simp [PyData.canLayAll0, h1.1.1.1.1, h2.1], by simp only [PyData.depthAll]; omega⟩
theorem ne_nil {D e : Addr} {vs : List Value} {ds : List PyData} {n k : Nat} {Q : Value → Shared → Prop} (N : News h₀ L s.heap news) (hD : (D, lstO vs n) ∈ news) (he : (e, lstO [] k) ∈ news) (hv : DmAll news vs ds) (hs : ∀ d ∈ ds, smallD d = true)
    (hu : A.units + 64 < cLine) (h : Q (.bool (!ds.isEmpty)) s) : wpAny (model prog w) A (compareOp .NotEq (.ref D) (.ref e)) Q E s := by
  obtain ⟨as, ra⟩ := hv.reads N
  obtain ⟨l1, l2⟩ := layAll hs
  refine ne_dataH (.list (N _ hD).1 rfl rfl (by simpa using ra)) (.list (N _ he).1 rfl rfl (by simpa using ReadsAll.nil)) ?_ rfl hu ?_
  · unfold SeqAt.shaped
    rw [show (PyData.list ds).canLay0 = true from l1, Bool.true_and]; refine decide_eq_true ?_; show PyData.depthAll ds + 1 ≤ 64; omega
  · show Q (.bool (!PyData.eqvAll ds [])) s
    rw [eqvAll_nil]; exact h
end
def isStr (y : Str) : PyData → Bool | .str z => y == z | _ => false
section
variable {w : World} {A : Around} {E : Value → Shared → Prop} {s : Shared} {h₀ : Heap} {L : Addr} {m : Str → Option Value} {news : List (Addr × Obj)}
theorem eqAt_str {v : Value} {d : PyData} {y : Str} {ty : Tok} (hd : Dm news v d) (N : News h₀ L s.heap news) (hu : A.units < cLine) : SeqAt.EqAt A s (.str y ty) v (isStr y d) := by
  cases hd with
  | «at» c =>
    cases c with
    | int => exact SeqAt.EqAt.str_int _ _ _ _
    | bool => exact SeqAt.EqAt.str_bool _ _ _
    | str => exact SeqAt.EqAt.str_str _ _ _ _
    | none => exact SeqAt.EqAt.str_none _ _
  | tup m => exact SeqAt.EqAt.str_tuple _ _ (News.isTup N m) hu
  | lst m => exact SeqAt.EqAt.str_list _ _ (News.isList N m) hu
def isZ : PyData → Bool | .none => true | _ => false
theorem is_none_dm {v : Value} {d : PyData} {Q : Value → Shared → Prop} (hd : Dm news v d) (h : Q (.bool (isZ d)) s) : wpAny (model prog w) A (compareOp .Is v .none) Q E s := by
  cases hd with
  | «at» c =>
    cases c with
    | int => exact is_int_none h
    | bool => exact is_bool_none h
    | str => exact is_str_none h
    | none => exact wpAny_is_self (by rfl) h
  | tup m => exact is_ref_none h
  | lst m => exact is_ref_none h
theorem notIn_one {v : Value} {d : PyData} {y : Str} {ty : Tok} {S : Addr} {k : Nat} {Q : Value → Shared → Prop} (N : News h₀ L s.heap news) (hd : Dm news v d) (hS : (S, tupO [.str y ty] k) ∈ news) (hu : A.units + 64 < cLine) (h : Q (.bool (!isStr y d)) s) :
    wpAny (model prog w) A (compareOp .NotIn v (.ref S)) Q E s := by
  refine SeqAt.notIn_tupleAt (fun _ => isStr y d) (News.isTup N hS) (fun z hz => ?_) (by simpa using h)
  obtain rfl : z = .str y ty := by simpa using hz
  exact eqAt_str hd N (by show A.units + 1 < cLine; omega)
theorem str_dm {a : Addr} {d : PyData} {Q : Value → Shared → Prop} (F : Fr h₀ L s.heap m) (N : News h₀ L s.heap news) (hd : Dm news (.ref a) d) (hs : smallD d = true) (hg : A.guards = some []) (hu : A.units + 64 < cLine)
    (h : ∀ y t h' tk, y.length ≤ 1000 → Fr h₀ L h' m → News h₀ L h' news → Q (.str y t) { s with heap := h', toks := tk }) : wpAny (model prog w) A (call (.type "str") [.ref a]) Q E s := by
  obtain ⟨as, r⟩ := hd.reads N
  simp only [smallD, Bool.and_eq_true, decide_eq_true_eq, Bool.not_eq_true'] at hs
  exact str_of_reads r hs.1.1.2 (fun h9 => absurd (hs.1.2.symm.trans h9) Bool.false_ne_true) hg (by omega) (fun _ _ e => e) (fun h' u tk hk => h _ _ _ _ hs.2 (F.keeps hk) fun q hq => ⟨hk _ _ (N q hq).1, (N q hq).2⟩) (by rw [sizeLine_eq]; omega)
end
/-- the data that a row's test picks -/
def pickD (q : Nat → PyData → Bool) : List Nat → List PyData → List PyData
  | c :: cs, d :: ds => if q c d then d :: pickD q cs ds else pickD q cs ds
  | _, _ => []
theorem pick_dm {n : List (Addr × Obj)} {q : Nat → Value → Bool} {q' : Nat → PyData → Bool} (hq : ∀ {v d}, Dm n v d → ∀ c, q c v = q' c d) : ∀ (cs : List Nat) {vs ds}, DmAll n vs ds → DmAll n (pickZ q cs vs) (pickD q' cs ds)
  | [], _, _, .nil => .nil
  | [], _, _, .cons _ _ => .nil
  | _ :: _, _, _, .nil => .nil
  | c :: cs, _, _, .cons (v := v) (d := d) a b => by
    simp only [pickZ, pickD, hq a c]
    split
    · exact .cons a (pick_dm hq cs b)
    · exact pick_dm hq cs b
theorem pickD_sub {q : Nat → PyData → Bool} : ∀ (cs : List Nat) (ds : List PyData), ∀ d ∈ pickD q cs ds, d ∈ ds
  | [], _, d, h => by simp [pickD] at h
  | _ :: _, [], d, h => by simp [pickD] at h
  | c :: cs, x :: ds, d, h => by
    simp only [pickD] at h
    split at h
    · rcases List.mem_cons.mp h with rfl | h
      · exact .head _
      · exact .tail _ (pickD_sub cs ds d h)
    · exact .tail _ (pickD_sub cs ds d h)
end Mine
end
section
open PySem PySem.W PySem.Spec PySem.Calls PyProof.Rows PyProof.Rows.LCg
namespace Mine
local macro_rules | `(tactic| walk_at "idle 0") => `(tactic| fail)
set_option pp.deepTerms false
set_option pp.proofs false
set_option maxRecDepth 100000
set_option maxHeartbeats 8000000


/-- a contract of a def that raises MachineFault where ok is false -/
abbrev CtrE (w : World) (p : Program) (loose : List Str) (mean : ExcName → Option Value) (mg mb : Str → Option Value) (k : Nat) (f : Addr) (news : List (Addr × Obj)) (vs : List Value) (ok : Bool) (Post : Value → List (Addr × Obj) → Prop) : Prop :=
  ∀ (dp un : Nat) (gd : Option (List Code)) (cn : Str) (cs : Scope) (a : Addr) (ccd : Value) (cl : List (Str × Addr)) (outer : List Env) (A₀ : Around) (base h₀ : Heap) (L : Addr) (m : Str → Option Value) (s : Shared)
    (Q E : Value → Shared → Prop), Below A₀ base outer h₀ → Fr h₀ L s.heap m → (Mine.frame.heap_1 w.params).In h₀ → News h₀ L s.heap news → Top p loose mean mg mb h₀ → cs.kind = .function → dp + k < recursionLimit → un + 8 * k < cLine → gd = some [] →
    (ok = true → ∀ r tl h' tk', Fr h₀ L h' m → News h₀ L h' (tl ++ news) → (∀ q ∈ news, ∀ p ∈ tl, q.1 < p.1) → Post r tl → Q r { s with heap := h', toks := tk' }) →
    (ok = false → ∀ e g h' tk', Fr h₀ L g m → g.UpToSlots h' → RaisedX base (envX cn cs L a ccd cl :: outer) e 52 news h' → E (.ref e) { s with heap := h', toks := tk' }) →
    wpAny (model prog w) (ktrTop dp un gd cn cs L a ccd cl outer) (call (.ref f) vs) Q E s
section
variable {w : World} {p : Program} {loose : List Str} {mean : ExcName → Option Value} {mg mb : Str → Option Value} {k : Nat} {f : Addr} {news : List (Addr × Obj)} {vs : List Value} {dp un : Nat} {gd : Option (List Code)} {cn : Str} {cs : Scope} {a : Addr} {ccd : Value} {cl : List (Str × Addr)} {outer : List Env} {A₀ : Around} {base h₀ : Heap} {L : Addr} {m : Str → Option Value} {s : Shared} {Q E : Value → Shared → Prop}
theorem CtrE.same {v : Value} {ok : Bool} (B : Below A₀ base outer h₀) (F : Fr h₀ L s.heap m) (X : (Mine.frame.heap_1 w.params).In h₀) (N : News h₀ L s.heap news) (T : Top p loose mean mg mb h₀) (hk : cs.kind = .function) (hd : dp + k < recursionLimit) (hu : un + 8 * k < cLine) (hg : gd = some []) (C : CtrE w p loose mean mg mb k f news vs ok fun r tl => r = v ∧ tl = [])
    (h : ok = true → ∀ h' tk', Fr h₀ L h' m → News h₀ L h' news → True → Q v { s with heap := h', toks := tk' })
    (h2 : ok = false → ∀ e g h' tk', Fr h₀ L g m → g.UpToSlots h' → RaisedX base (envX cn cs L a ccd cl :: outer) e 52 news h' → E (.ref e) { s with heap := h', toks := tk' }) : wpAny (model prog w) (ktrTop dp un gd cn cs L a ccd cl outer) (call (.ref f) vs) Q E s :=
  C dp un gd cn cs a ccd cl outer A₀ base h₀ L m s Q E B F X N T hk hd hu hg (fun ok _ _ _ _ F' N' _ e => by obtain ⟨rfl, rfl⟩ := e; exact h ok _ _ F' N' trivial) h2
end

theorem shp_eq {w : World} {op x y : Str} {xt yt : Tok} (h : Shp w op x xt) (e : nsIn (Mine.frame.heap_1 w.params) 55 op = some (some (.str y yt))) : x = y := by
  have := h.symm.trans e
  simp only [Option.some.injEq, Value.str.injEq] at this
  exact this.1
local macro_rules | `(tactic| walk_at "exec Raise some none") => `(tactic| (k_here; k_dflt (refine Raise_fault rfl ?_)))

section
variable {w : World} {A : Around} {E : Value → Shared → Prop} {s : Shared} {h₀ : Heap} {L : Addr} {m : Str → Option Value} {news : List (Addr × Obj)}
end
theorem list2 {α : Type} : ∀ {l : List α}, l.length = 2 → ∃ a b, l = [a, b]
  | [a, b], _ => ⟨a, b, rfl⟩
theorem list4 {α : Type} : ∀ {l : List α}, l.length = 4 → ∃ a b c d, l = [a, b, c, d]
  | [a, b, c, d], _ => ⟨a, b, c, d, rfl⟩
theorem list5 {α : Type} : ∀ {l : List α}, l.length = 5 → ∃ a b c d e, l = [a, b, c, d, e]
  | [a, b, c, d, e], _ => ⟨a, b, c, d, e, rfl⟩
/-- a row by its word: the word, the letters, the parts at once -/
inductive Is2 (n : List (Addr × Obj)) (o y : Str) : Str → Str → List Value → List PyData → Prop where
  | mk {p0 p1 d0 d1} : Dm n p0 d0 → Dm n p1 d1 → Is2 n o y o y [p0, p1] [d0, d1]
inductive Is4 (n : List (Addr × Obj)) (o y : Str) : Str → Str → List Value → List PyData → Prop where
  | mk {p0 p1 p2 p3 d0 d1 d2 d3} : Dm n p0 d0 → Dm n p1 d1 → Dm n p2 d2 → Dm n p3 d3 → Is4 n o y o y [p0, p1, p2, p3] [d0, d1, d2, d3]
inductive Is5 (n : List (Addr × Obj)) (o y : Str) : Str → Str → List Value → List PyData → Prop where
  | mk {p0 p1 p2 p3 p4 d0 d1 d2 d3 d4} : Dm n p0 d0 → Dm n p1 d1 → Dm n p2 d2 → Dm n p3 d3 → Dm n p4 d4 → Is5 n o y o y [p0, p1, p2, p3, p4] [d0, d1, d2, d3, d4]
theorem is2 {n : List (Addr × Obj)} {o op x : Str} (y : Str) {ps : List Value} {ds : List PyData} (h : op = o) (hx : x = y) (hl : x.cps.size = ps.length) (hy : y.cps.size = 2) (hp : DmAll n ps ds) : Is2 n o y op x ps ds := by
  subst h hx
  obtain ⟨p0, p1, rfl⟩ := list2 (hl.symm.trans hy)
  cases hp with | cons a0 hp => cases hp with | cons a1 hp => cases hp with | nil => exact .mk a0 a1
theorem is4 {n : List (Addr × Obj)} {o op x : Str} (y : Str) {ps : List Value} {ds : List PyData} (h : op = o) (hx : x = y) (hl : x.cps.size = ps.length) (hy : y.cps.size = 4) (hp : DmAll n ps ds) : Is4 n o y op x ps ds := by
  subst h hx
  obtain ⟨p0, p1, p2, p3, rfl⟩ := list4 (hl.symm.trans hy)
  cases hp with | cons a0 hp => cases hp with | cons a1 hp => cases hp with | cons a2 hp => cases hp with | cons a3 hp => cases hp with | nil => exact .mk a0 a1 a2 a3
theorem is5 {n : List (Addr × Obj)} {o op x : Str} (y : Str) {ps : List Value} {ds : List PyData} (h : op = o) (hx : x = y) (hl : x.cps.size = ps.length) (hy : y.cps.size = 5) (hp : DmAll n ps ds) : Is5 n o y op x ps ds := by
  subst h hx
  obtain ⟨p0, p1, p2, p3, p4, rfl⟩ := list5 (hl.symm.trans hy)
  cases hp with | cons a0 hp => cases hp with | cons a1 hp => cases hp with | cons a2 hp => cases hp with | cons a3 hp => cases hp with | cons a4 hp => cases hp with | nil => exact .mk a0 a1 a2 a3 a4
/-- the same, the first part apart -/
inductive Tl2 (n : List (Addr × Obj)) (o y : Str) : Str → Str → List Value → List PyData → Prop where
  | mk {p1 d1} : Dm n p1 d1 → Tl2 n o y o y [p1] [d1]
inductive Tl4 (n : List (Addr × Obj)) (o y : Str) : Str → Str → List Value → List PyData → Prop where
  | mk {p1 p2 p3 d1 d2 d3} : Dm n p1 d1 → Dm n p2 d2 → Dm n p3 d3 → Tl4 n o y o y [p1, p2, p3] [d1, d2, d3]
inductive Tl5 (n : List (Addr × Obj)) (o y : Str) : Str → Str → List Value → List PyData → Prop where
  | mk {p1 p2 p3 p4 d1 d2 d3 d4} : Dm n p2 d2 → Dm n p3 d3 → Tl5 n o y o y [p1, p2, p3, p4] [d1, d2, d3, d4]
theorem tl2 {n : List (Addr × Obj)} {o op x : Str} (y : Str) {p0 : Value} {ps : List Value} {d0 : PyData} {ds : List PyData} (h : op = o) (hx : x = y) (hl : x.cps.size = (p0 :: ps).length) (hy : y.cps.size = 2) (hp : DmAll n (p0 :: ps) (d0 :: ds)) : Tl2 n o y op x ps ds := by
  have h9 := is2 y h hx hl hy hp
  generalize e1 : p0 :: ps = l1 at h9
  generalize e2 : d0 :: ds = l2 at h9
  cases h9 with | mk a0 a1 => cases e1; cases e2; exact .mk a1
theorem tl4 {n : List (Addr × Obj)} {o op x : Str} (y : Str) {p0 : Value} {ps : List Value} {d0 : PyData} {ds : List PyData} (h : op = o) (hx : x = y) (hl : x.cps.size = (p0 :: ps).length) (hy : y.cps.size = 4) (hp : DmAll n (p0 :: ps) (d0 :: ds)) : Tl4 n o y op x ps ds := by
  have h9 := is4 y h hx hl hy hp
  generalize e1 : p0 :: ps = l1 at h9
  generalize e2 : d0 :: ds = l2 at h9
  cases h9 with | mk a0 a1 a2 a3 => cases e1; cases e2; exact .mk a1 a2 a3
theorem tl5 {n : List (Addr × Obj)} {o op x : Str} (y : Str) {p0 : Value} {ps : List Value} {d0 : PyData} {ds : List PyData} (h : op = o) (hx : x = y) (hl : x.cps.size = (p0 :: ps).length) (hy : y.cps.size = 5) (hp : DmAll n (p0 :: ps) (d0 :: ds)) : Tl5 n o y op x ps ds := by
  have h9 := is5 y h hx hl hy hp
  generalize e1 : p0 :: ps = l1 at h9
  generalize e2 : d0 :: ds = l2 at h9
  cases h9 with | mk a0 a1 a2 a3 a4 => cases e1; cases e2; exact .mk a2 a3
def sortsD (op x : Str) (ds : List PyData) : Bool :=
  (pickD (fun c d => c == 109 && !isT d) x.cps.toList ds).isEmpty && (if Str.ofString "capture" == op then ds[1]?.any isN else true) &&
    (if Str.ofString "splat" == op then ds[3]?.any isT else if Str.ofString "kwcall" == op then ds[2]?.any isT else true)
theorem sorts_no {op x : Str} {ds : List PyData} (h : (pickD (fun c d => c == 109 && !isT d) x.cps.toList ds).isEmpty = false) : sortsD op x ds = false := by
  unfold sortsD; rw [h]; rfl
theorem sorts_capture {x : Str} {d0 d1 : PyData} (h : (pickD (fun c d => c == 109 && !isT d) x.cps.toList [d0, d1]).isEmpty = true) : sortsD (Str.ofString "capture") x [d0, d1] = isN d1 := by
  unfold sortsD; rw [h]; show (true && _ && true) = _; simp
theorem sorts_splat {x : Str} {d0 d1 d2 d3 : PyData} (h : (pickD (fun c d => c == 109 && !isT d) x.cps.toList [d0, d1, d2, d3]).isEmpty = true) : sortsD (Str.ofString "splat") x [d0, d1, d2, d3] = isT d3 := by
  unfold sortsD; rw [h]; show (true && true && _) = _; simp
theorem sorts_kwcall {x : Str} {d0 d1 d2 d3 d4 : PyData} (h : (pickD (fun c d => c == 109 && !isT d) x.cps.toList [d0, d1, d2, d3, d4]).isEmpty = true) : sortsD (Str.ofString "kwcall") x [d0, d1, d2, d3, d4] = isT d2 := by
  unfold sortsD; rw [h]; show (true && true && (if Str.ofString "splat" == Str.ofString "kwcall" then _ else if Str.ofString "kwcall" == Str.ofString "kwcall" then _ else _)) = _; rw [if_neg (by decide), if_pos (by decide)]; simp
theorem sorts_other {op x : Str} {ds : List PyData} (h : (pickD (fun c d => c == 109 && !isT d) x.cps.toList ds).isEmpty = true) (h1 : ¬ op = Str.ofString "capture") (h2 : ¬ op = Str.ofString "splat") (h3 : ¬ op = Str.ofString "kwcall") : sortsD op x ds = true := by
  unfold sortsD; rw [h]; simp [Ne.symm h1, Ne.symm h2, Ne.symm h3]
local macro_rules | `(tactic| walk_at "compareOp In str ref") => `(tactic| (k_here; first
  | (refine in_strs (News.isTup (by k_asm) (by k_mem)) (by rfl) ?_)
  | (refine in_strs (tupK (Frag.In.keeps (by k_asm) (Fr.keep (by k_asm))) (by k_is)) (by rfl) ?_)))
section
variable {w : World} {p : Program} {loose : List Str} {mean : ExcName → Option Value} {mg mb : Str → Option Value}
theorem sorts_ctr {news : List (Addr × Obj)} {r : Addr} {op x : Str} {t xt ta : Tok} {ps : List Value} {ds : List PyData} {n at_ : Nat} (hr : (r, tupO (.str op t :: ps) n) ∈ news) (hs : Shp w op x xt) (hl : x.cps.size = ps.length) (hn : ps.length < 100) (ha : x.cps.all (· < 128) = true)
    (hp : DmAll news ps ds) (hsm : ∀ d ∈ ds, smallD d = true) (hlv : ¬ op = Str.ofString "leave") (hat : at_ < 100) :
    CtrE w p loose mean mg mb 12 127 news [.ref r, .int (at_ : Int) ta] (sortsD op x ds) (fun v tl => v = .none ∧ tl = []) := by
  (intro dp un gd cn cs a ccd cl outer A₀ base h₀ L m s Q E B F X N T hk hd hu hgd hret hexc
   refine wpAny_call ?_
   k_dflt (refine' code_def (binds := [(Str.ofString "row", .ref r), (Str.ofString "at", .int (at_ : Int) ta)]) ?k1 ?k2 ?k3 ?k4 ?k5 ?kA ?kF ?kK ?k6 ?k7 ?k8 ?k9 ?kB ?_ ?c2 ?c3 ?c4 ?c5; (case kA => exact rfl); (case kF => exact rfl); (case kK => assumption); (case k1 => k_asm); (case k2 => k_asm); (case k3 => k_asm); (case k4 => k_asm); (case k5 => k_asm); (case k6 => k_is); (case k7 => k_is); (case k8 => ktr_room); (case k9 => exact BindsTo.of_eq rfl); (case c5 => decide); (case kB => exact locs rfl); (case c2 => exact rfl); (case c3 => exact rfl); (case c4 => exact rfl); k_whole)
   intro g' L' h' FG' F' N' B' X' T'
   (try dsimp only)
   (try k_fold))
  iterate 15 (first | ((fail_if_success (fail_if_success (with_reducible show wpAny _ _ (call _ _ _) _ _ _))); first | ((fail_if_success (fail_if_success (with_reducible show wpAny _ _ (call (Value.builtin "isinstance") _ _) _ _ _))); with_reducible (k_here; k_dflt (refine isinst_int (by k_asm) (by (refine Dm.mono ?_ (by assumption); intro _ _; k_mem)) ?_); intro _)) | ((fail_if_success (fail_if_success (with_reducible show wpAny _ _ (call (Value.builtin "isinstance") _ _) _ _ _))); with_reducible (k_here; k_dflt (refine isinst_tuple (by k_asm) (by (refine Dm.mono ?_ (by assumption); intro _ _; k_mem)) ?_); intro _)) | (with_reducible (k_here; (fail_if_success (fail_if_success (with_reducible show wpAny _ _ (call (Value.ref 52) [Value.str _ _]) _ _ _))); k_dflt (refine fault_made (by k_asm) (by k_asm) (by k_asm) (by k_asm) (by k_asm) (by exact rfl) (by ktr_room) (by ktr_units) ?_); (intro _ _ _ _ _ _ _ _); (try dsimp only); (try k_fold))) | ((fail_if_success (fail_if_success (with_reducible show wpAny _ _ (call (Value.type "zip") _ _) _ _ _))); with_reducible (k_here; k_dflt (refine call_zipK (by k_asm) (by k_asm) (by k_mem) (by assumption) ?_); intro _ _ _ _ _)) | (with_reducible (k_here; (fail_if_success (fail_if_success (with_reducible show wpAny _ _ (call (Value.ref _) [_]) _ _ _))); k_dflt (refine Ctr.same (by k_asm) (by k_asm) (by k_asm) (by k_asm) (by k_asm) (by exact rfl) (by ktr_room) (by ktr_units) (shape_ctr (by k_mem) (by assumption) (by assumption) (by assumption)) ?_); (intro _ _ _ _ _); (try dsimp only); (try k_fold)))) | ((fail_if_success (fail_if_success (with_reducible show wpAny _ _ (subscriptTail _ _ _ _) _ _ _))); first | (with_reducible (k_here; (fail_if_success (fail_if_success (with_reducible show wpAny _ _ (subscriptTail _ _ (Value.ref _) (Value.int _ _)) _ _ _))); first | ((fail_if_success (fail_if_success (with_reducible show wpAny _ _ (subscriptTail _ _ _ (Value.int 0 _)) _ _ _))); (with_unfolding_all refine row0 (by k_asm) (by k_mem) ?_ (by with_unfolding_all rfl))) | ((fail_if_success (fail_if_success (with_reducible show wpAny _ _ (subscriptTail _ _ _ (Value.int 1 _)) _ _ _))); (with_unfolding_all refine row1 (by k_asm) (by k_mem) ?_ (by with_unfolding_all rfl))) | ((fail_if_success (fail_if_success (with_reducible show wpAny _ _ (subscriptTail _ _ _ (Value.int 2 _)) _ _ _))); (with_unfolding_all refine row2 (by k_asm) (by k_mem) ?_ (by with_unfolding_all rfl))) | ((fail_if_success (fail_if_success (with_reducible show wpAny _ _ (subscriptTail _ _ _ (Value.int 3 _)) _ _ _))); (with_unfolding_all refine row3 (by k_asm) (by k_mem) ?_ (by with_unfolding_all rfl))) | ((fail_if_success (fail_if_success (with_reducible show wpAny _ _ (subscriptTail _ _ _ (Value.int 4 _)) _ _ _))); (with_unfolding_all refine row4 (by k_asm) (by k_mem) ?_ (by with_unfolding_all rfl))) | ((fail_if_success (fail_if_success (with_reducible show wpAny _ _ (subscriptTail _ _ _ (Value.int (Nat.cast _) _)) _ _ _))); (with_unfolding_all refine row_i _ (by k_asm) (by k_mem) (by assumption) (by omega) ?_ (by with_unfolding_all rfl))))) | (with_reducible (k_here; (fail_if_success (fail_if_success (with_reducible show wpAny _ _ (subscriptTail _ _ (Value.ref _) (Value.ref _)) _ _ _))); (with_unfolding_all refine row_tail (by k_asm) (by k_asm) (by k_mem) (by assumption) ?_ (by with_unfolding_all rfl) (by (intro _; with_unfolding_all rfl))); intro _ _ _ _ _))) | ((fail_if_success (fail_if_success (with_reducible show wpAny _ _ (compareOp _ _ _) _ _ _))); first | ((fail_if_success (fail_if_success (with_reducible show wpAny _ _ (compareOp .NotEq (Value.ref _) (Value.ref _)) _ _ _))); with_reducible (k_here; k_dflt (refine ne_nil (by k_asm) (by k_mem) (by k_mem) (by (rename DmAll _ (pickZ _ _ _) _ => hpk9; refine DmAll.mono ?_ hpk9; intro _ _; k_mem)) (by assumption) (by ktr_units) ?_)))) | walk1)
  with_reducible rename Fr _ _ _ _ => F6
  refine zipComp (fun c v => c == 109 && !tupQ news v) F6 rfl (by rfl) (by decide) (by rfl) (by decide) (by rfl) (by rfl) (by decide) (by decide) (by rfl) ?_
  (repeat' (first | (k_unfold; (try dsimp only)) | (k_end; wrow_close) | ((fail_if_success (fail_if_success (with_reducible show wpAny _ _ (call _ _ _) _ _ _))); first | ((fail_if_success (fail_if_success (with_reducible show wpAny _ _ (call (Value.builtin "isinstance") _ _) _ _ _))); with_reducible (k_here; k_dflt (refine isinst_int (by k_asm) (by (refine Dm.mono ?_ (by assumption); intro _ _; k_mem)) ?_); intro _)) | ((fail_if_success (fail_if_success (with_reducible show wpAny _ _ (call (Value.builtin "isinstance") _ _) _ _ _))); with_reducible (k_here; k_dflt (refine isinst_tuple (by k_asm) (by (refine Dm.mono ?_ (by assumption); intro _ _; k_mem)) ?_); intro _)) | (with_reducible (k_here; (fail_if_success (fail_if_success (with_reducible show wpAny _ _ (call (Value.ref 52) [Value.str _ _]) _ _ _))); k_dflt (refine fault_made (by k_asm) (by k_asm) (by k_asm) (by k_asm) (by k_asm) (by exact rfl) (by ktr_room) (by ktr_units) ?_); (intro _ _ _ _ _ _ _ _); (try dsimp only); (try k_fold))) | ((fail_if_success (fail_if_success (with_reducible show wpAny _ _ (call (Value.type "zip") _ _) _ _ _))); with_reducible (k_here; k_dflt (refine call_zipK (by k_asm) (by k_asm) (by k_mem) (by assumption) ?_); intro _ _ _ _ _)) | (with_reducible (k_here; (fail_if_success (fail_if_success (with_reducible show wpAny _ _ (call (Value.ref _) [_]) _ _ _))); k_dflt (refine Ctr.same (by k_asm) (by k_asm) (by k_asm) (by k_asm) (by k_asm) (by exact rfl) (by ktr_room) (by ktr_units) (shape_ctr (by k_mem) (by assumption) (by assumption) (by assumption)) ?_); (intro _ _ _ _ _); (try dsimp only); (try k_fold)))) | ((fail_if_success (fail_if_success (with_reducible show wpAny _ _ (subscriptTail _ _ _ _) _ _ _))); first | (with_reducible (k_here; (fail_if_success (fail_if_success (with_reducible show wpAny _ _ (subscriptTail _ _ (Value.ref _) (Value.int _ _)) _ _ _))); first | ((fail_if_success (fail_if_success (with_reducible show wpAny _ _ (subscriptTail _ _ _ (Value.int 0 _)) _ _ _))); (with_unfolding_all refine row0 (by k_asm) (by k_mem) ?_ (by with_unfolding_all rfl))) | ((fail_if_success (fail_if_success (with_reducible show wpAny _ _ (subscriptTail _ _ _ (Value.int 1 _)) _ _ _))); (with_unfolding_all refine row1 (by k_asm) (by k_mem) ?_ (by with_unfolding_all rfl))) | ((fail_if_success (fail_if_success (with_reducible show wpAny _ _ (subscriptTail _ _ _ (Value.int 2 _)) _ _ _))); (with_unfolding_all refine row2 (by k_asm) (by k_mem) ?_ (by with_unfolding_all rfl))) | ((fail_if_success (fail_if_success (with_reducible show wpAny _ _ (subscriptTail _ _ _ (Value.int 3 _)) _ _ _))); (with_unfolding_all refine row3 (by k_asm) (by k_mem) ?_ (by with_unfolding_all rfl))) | ((fail_if_success (fail_if_success (with_reducible show wpAny _ _ (subscriptTail _ _ _ (Value.int 4 _)) _ _ _))); (with_unfolding_all refine row4 (by k_asm) (by k_mem) ?_ (by with_unfolding_all rfl))) | ((fail_if_success (fail_if_success (with_reducible show wpAny _ _ (subscriptTail _ _ _ (Value.int (Nat.cast _) _)) _ _ _))); (with_unfolding_all refine row_i _ (by k_asm) (by k_mem) (by assumption) (by omega) ?_ (by with_unfolding_all rfl))))) | (with_reducible (k_here; (fail_if_success (fail_if_success (with_reducible show wpAny _ _ (subscriptTail _ _ (Value.ref _) (Value.ref _)) _ _ _))); (with_unfolding_all refine row_tail (by k_asm) (by k_asm) (by k_mem) (by assumption) ?_ (by with_unfolding_all rfl) (by (intro _; with_unfolding_all rfl))); intro _ _ _ _ _))) | ((fail_if_success (fail_if_success (with_reducible show wpAny _ _ (compareOp _ _ _) _ _ _))); first | ((fail_if_success (fail_if_success (with_reducible show wpAny _ _ (compareOp .NotEq (Value.ref _) (Value.ref _)) _ _ _))); with_reducible (k_here; k_dflt (refine ne_nil (by k_asm) (by k_mem) (by k_mem) (by (rename DmAll _ (pickZ _ _ _) _ => hpk9; refine DmAll.mono ?_ hpk9; intro _ _; k_mem)) (by assumption) (by ktr_units) ?_)))) | walk1 | (dsimp only; walk1) | (leave1; walk_say "STEP leave1"; try dsimp only) | fail "no step"))
  rename_i Dp _ _ _ l9 h8 z8 F8 N8 Z8
  refine ⟨z8, Dp, x, ps, _, rfl, F8, N8, Z8, hl, by omega, ?_, ?_⟩
  · intro i c' u v C oC h tk m₂ E' hc hv hC ha hb F7 N7
    obtain ⟨d, hd, hdv⟩ := hp.get hv
    have hq := tupQ_of N hdv
    replace hdv : Dm ((C, oC) :: (Dp, tupO ps 0) :: news) v d := hdv.mono (by simp +contextual)
    have e1 := sign_eq c' (Str.ofString "m") 109 rfl
    (repeat' (first | (k_unfold; (try dsimp only)) | (k_end; wrow_close) | ((fail_if_success (fail_if_success (with_reducible show wpAny _ _ (call _ _ _) _ _ _))); first | ((fail_if_success (fail_if_success (with_reducible show wpAny _ _ (call (Value.builtin "isinstance") _ _) _ _ _))); with_reducible (k_here; k_dflt (refine isinst_int (by k_asm) (by (refine Dm.mono ?_ (by assumption); intro _ _; k_mem)) ?_); intro _)) | ((fail_if_success (fail_if_success (with_reducible show wpAny _ _ (call (Value.builtin "isinstance") _ _) _ _ _))); with_reducible (k_here; k_dflt (refine isinst_tuple (by k_asm) (by (refine Dm.mono ?_ (by assumption); intro _ _; k_mem)) ?_); intro _)) | (with_reducible (k_here; (fail_if_success (fail_if_success (with_reducible show wpAny _ _ (call (Value.ref 52) [Value.str _ _]) _ _ _))); k_dflt (refine fault_made (by k_asm) (by k_asm) (by k_asm) (by k_asm) (by k_asm) (by exact rfl) (by ktr_room) (by ktr_units) ?_); (intro _ _ _ _ _ _ _ _); (try dsimp only); (try k_fold))) | ((fail_if_success (fail_if_success (with_reducible show wpAny _ _ (call (Value.type "zip") _ _) _ _ _))); with_reducible (k_here; k_dflt (refine call_zipK (by k_asm) (by k_asm) (by k_mem) (by assumption) ?_); intro _ _ _ _ _)) | (with_reducible (k_here; (fail_if_success (fail_if_success (with_reducible show wpAny _ _ (call (Value.ref _) [_]) _ _ _))); k_dflt (refine Ctr.same (by k_asm) (by k_asm) (by k_asm) (by k_asm) (by k_asm) (by exact rfl) (by ktr_room) (by ktr_units) (shape_ctr (by k_mem) (by assumption) (by assumption) (by assumption)) ?_); (intro _ _ _ _ _); (try dsimp only); (try k_fold)))) | ((fail_if_success (fail_if_success (with_reducible show wpAny _ _ (subscriptTail _ _ _ _) _ _ _))); first | (with_reducible (k_here; (fail_if_success (fail_if_success (with_reducible show wpAny _ _ (subscriptTail _ _ (Value.ref _) (Value.int _ _)) _ _ _))); first | ((fail_if_success (fail_if_success (with_reducible show wpAny _ _ (subscriptTail _ _ _ (Value.int 0 _)) _ _ _))); (with_unfolding_all refine row0 (by k_asm) (by k_mem) ?_ (by with_unfolding_all rfl))) | ((fail_if_success (fail_if_success (with_reducible show wpAny _ _ (subscriptTail _ _ _ (Value.int 1 _)) _ _ _))); (with_unfolding_all refine row1 (by k_asm) (by k_mem) ?_ (by with_unfolding_all rfl))) | ((fail_if_success (fail_if_success (with_reducible show wpAny _ _ (subscriptTail _ _ _ (Value.int 2 _)) _ _ _))); (with_unfolding_all refine row2 (by k_asm) (by k_mem) ?_ (by with_unfolding_all rfl))) | ((fail_if_success (fail_if_success (with_reducible show wpAny _ _ (subscriptTail _ _ _ (Value.int 3 _)) _ _ _))); (with_unfolding_all refine row3 (by k_asm) (by k_mem) ?_ (by with_unfolding_all rfl))) | ((fail_if_success (fail_if_success (with_reducible show wpAny _ _ (subscriptTail _ _ _ (Value.int 4 _)) _ _ _))); (with_unfolding_all refine row4 (by k_asm) (by k_mem) ?_ (by with_unfolding_all rfl))) | ((fail_if_success (fail_if_success (with_reducible show wpAny _ _ (subscriptTail _ _ _ (Value.int (Nat.cast _) _)) _ _ _))); (with_unfolding_all refine row_i _ (by k_asm) (by k_mem) (by assumption) (by omega) ?_ (by with_unfolding_all rfl))))) | (with_reducible (k_here; (fail_if_success (fail_if_success (with_reducible show wpAny _ _ (subscriptTail _ _ (Value.ref _) (Value.ref _)) _ _ _))); (with_unfolding_all refine row_tail (by k_asm) (by k_asm) (by k_mem) (by assumption) ?_ (by with_unfolding_all rfl) (by (intro _; with_unfolding_all rfl))); intro _ _ _ _ _))) | ((fail_if_success (fail_if_success (with_reducible show wpAny _ _ (compareOp _ _ _) _ _ _))); first | ((fail_if_success (fail_if_success (with_reducible show wpAny _ _ (compareOp .NotEq (Value.ref _) (Value.ref _)) _ _ _))); with_reducible (k_here; k_dflt (refine ne_nil (by k_asm) (by k_mem) (by k_mem) (by (rename DmAll _ (pickZ _ _ _) _ => hpk9; refine DmAll.mono ?_ hpk9; intro _ _; k_mem)) (by assumption) (by ktr_units) ?_)))) | walk1 | (dsimp only; walk1) | (leave1; walk_say "STEP leave1"; try dsimp only) | fail "no step"))
    all_goals first | exact ⟨_, _, rfl, fun _ _ e => e⟩ | skip
    · rename_i h1 _ h2; show _ = (c' == 109 && !tupQ news v); rw [← e1, hq, h1, h2]; rfl
    · rename_i h1 _ h2; show _ = (c' == 109 && !tupQ news v); rw [← e1, hq, h1, h2]; rfl
    · rename_i h1; show false = (c' == 109 && _); rw [← e1, h1]; rfl
  · intro D h7 tk7 F7 N7 l7
    have hpk : DmAll news (pickZ (fun c v => c == 109 && !tupQ news v) x.cps.toList ps) (pickD (fun c d => c == 109 && !isT d) x.cps.toList ds) := pick_dm (fun h c => by simp only [tupQ_of N h]) _ hp
    have hpk' : ∀ l, DmAll ((D, l) :: (Dp, tupO ps 0) :: news) _ _ := fun l => hpk.mono (by simp +contextual)
    have hsm' : ∀ d ∈ pickD (fun c d => c == 109 && !isT d) x.cps.toList ds, smallD d = true := fun d h => hsm d (pickD_sub _ _ d h)
    iterate 7 (first | ((fail_if_success (fail_if_success (with_reducible show wpAny _ _ (call _ _ _) _ _ _))); first | ((fail_if_success (fail_if_success (with_reducible show wpAny _ _ (call (Value.builtin "isinstance") _ _) _ _ _))); with_reducible (k_here; k_dflt (refine isinst_int (by k_asm) (by (refine Dm.mono ?_ (by assumption); intro _ _; k_mem)) ?_); intro _)) | ((fail_if_success (fail_if_success (with_reducible show wpAny _ _ (call (Value.builtin "isinstance") _ _) _ _ _))); with_reducible (k_here; k_dflt (refine isinst_tuple (by k_asm) (by (refine Dm.mono ?_ (by assumption); intro _ _; k_mem)) ?_); intro _)) | (with_reducible (k_here; (fail_if_success (fail_if_success (with_reducible show wpAny _ _ (call (Value.ref 52) [Value.str _ _]) _ _ _))); k_dflt (refine fault_made (by k_asm) (by k_asm) (by k_asm) (by k_asm) (by k_asm) (by exact rfl) (by ktr_room) (by ktr_units) ?_); (intro _ _ _ _ _ _ _ _); (try dsimp only); (try k_fold))) | ((fail_if_success (fail_if_success (with_reducible show wpAny _ _ (call (Value.type "zip") _ _) _ _ _))); with_reducible (k_here; k_dflt (refine call_zipK (by k_asm) (by k_asm) (by k_mem) (by assumption) ?_); intro _ _ _ _ _)) | (with_reducible (k_here; (fail_if_success (fail_if_success (with_reducible show wpAny _ _ (call (Value.ref _) [_]) _ _ _))); k_dflt (refine Ctr.same (by k_asm) (by k_asm) (by k_asm) (by k_asm) (by k_asm) (by exact rfl) (by ktr_room) (by ktr_units) (shape_ctr (by k_mem) (by assumption) (by assumption) (by assumption)) ?_); (intro _ _ _ _ _); (try dsimp only); (try k_fold)))) | ((fail_if_success (fail_if_success (with_reducible show wpAny _ _ (subscriptTail _ _ _ _) _ _ _))); first | (with_reducible (k_here; (fail_if_success (fail_if_success (with_reducible show wpAny _ _ (subscriptTail _ _ (Value.ref _) (Value.int _ _)) _ _ _))); first | ((fail_if_success (fail_if_success (with_reducible show wpAny _ _ (subscriptTail _ _ _ (Value.int 0 _)) _ _ _))); (with_unfolding_all refine row0 (by k_asm) (by k_mem) ?_ (by with_unfolding_all rfl))) | ((fail_if_success (fail_if_success (with_reducible show wpAny _ _ (subscriptTail _ _ _ (Value.int 1 _)) _ _ _))); (with_unfolding_all refine row1 (by k_asm) (by k_mem) ?_ (by with_unfolding_all rfl))) | ((fail_if_success (fail_if_success (with_reducible show wpAny _ _ (subscriptTail _ _ _ (Value.int 2 _)) _ _ _))); (with_unfolding_all refine row2 (by k_asm) (by k_mem) ?_ (by with_unfolding_all rfl))) | ((fail_if_success (fail_if_success (with_reducible show wpAny _ _ (subscriptTail _ _ _ (Value.int 3 _)) _ _ _))); (with_unfolding_all refine row3 (by k_asm) (by k_mem) ?_ (by with_unfolding_all rfl))) | ((fail_if_success (fail_if_success (with_reducible show wpAny _ _ (subscriptTail _ _ _ (Value.int 4 _)) _ _ _))); (with_unfolding_all refine row4 (by k_asm) (by k_mem) ?_ (by with_unfolding_all rfl))) | ((fail_if_success (fail_if_success (with_reducible show wpAny _ _ (subscriptTail _ _ _ (Value.int (Nat.cast _) _)) _ _ _))); (with_unfolding_all refine row_i _ (by k_asm) (by k_mem) (by assumption) (by omega) ?_ (by with_unfolding_all rfl))))) | (with_reducible (k_here; (fail_if_success (fail_if_success (with_reducible show wpAny _ _ (subscriptTail _ _ (Value.ref _) (Value.ref _)) _ _ _))); (with_unfolding_all refine row_tail (by k_asm) (by k_asm) (by k_mem) (by assumption) ?_ (by with_unfolding_all rfl) (by (intro _; with_unfolding_all rfl))); intro _ _ _ _ _))) | ((fail_if_success (fail_if_success (with_reducible show wpAny _ _ (compareOp _ _ _) _ _ _))); first | ((fail_if_success (fail_if_success (with_reducible show wpAny _ _ (compareOp .NotEq (Value.ref _) (Value.ref _)) _ _ _))); with_reducible (k_here; k_dflt (refine ne_nil (by k_asm) (by k_mem) (by k_mem) (by (rename DmAll _ (pickZ _ _ _) _ => hpk9; refine DmAll.mono ?_ hpk9; intro _ _; k_mem)) (by assumption) (by ktr_units) ?_)))) | walk1)
    rotate_left
    · (repeat' (first | (k_unfold; (try dsimp only)) | (k_end; wrow_close) | ((fail_if_success (fail_if_success (with_reducible show wpAny _ _ (call _ _ _) _ _ _))); first | ((fail_if_success (fail_if_success (with_reducible show wpAny _ _ (call (Value.builtin "isinstance") _ _) _ _ _))); with_reducible (k_here; k_dflt (refine isinst_int (by k_asm) (by (refine Dm.mono ?_ (by assumption); intro _ _; k_mem)) ?_); intro _)) | ((fail_if_success (fail_if_success (with_reducible show wpAny _ _ (call (Value.builtin "isinstance") _ _) _ _ _))); with_reducible (k_here; k_dflt (refine isinst_tuple (by k_asm) (by (refine Dm.mono ?_ (by assumption); intro _ _; k_mem)) ?_); intro _)) | (with_reducible (k_here; (fail_if_success (fail_if_success (with_reducible show wpAny _ _ (call (Value.ref 52) [Value.str _ _]) _ _ _))); k_dflt (refine fault_made (by k_asm) (by k_asm) (by k_asm) (by k_asm) (by k_asm) (by exact rfl) (by ktr_room) (by ktr_units) ?_); (intro _ _ _ _ _ _ _ _); (try dsimp only); (try k_fold))) | ((fail_if_success (fail_if_success (with_reducible show wpAny _ _ (call (Value.type "zip") _ _) _ _ _))); with_reducible (k_here; k_dflt (refine call_zipK (by k_asm) (by k_asm) (by k_mem) (by assumption) ?_); intro _ _ _ _ _)) | (with_reducible (k_here; (fail_if_success (fail_if_success (with_reducible show wpAny _ _ (call (Value.ref _) [_]) _ _ _))); k_dflt (refine Ctr.same (by k_asm) (by k_asm) (by k_asm) (by k_asm) (by k_asm) (by exact rfl) (by ktr_room) (by ktr_units) (shape_ctr (by k_mem) (by assumption) (by assumption) (by assumption)) ?_); (intro _ _ _ _ _); (try dsimp only); (try k_fold)))) | ((fail_if_success (fail_if_success (with_reducible show wpAny _ _ (subscriptTail _ _ _ _) _ _ _))); first | (with_reducible (k_here; (fail_if_success (fail_if_success (with_reducible show wpAny _ _ (subscriptTail _ _ (Value.ref _) (Value.int _ _)) _ _ _))); first | ((fail_if_success (fail_if_success (with_reducible show wpAny _ _ (subscriptTail _ _ _ (Value.int 0 _)) _ _ _))); (with_unfolding_all refine row0 (by k_asm) (by k_mem) ?_ (by with_unfolding_all rfl))) | ((fail_if_success (fail_if_success (with_reducible show wpAny _ _ (subscriptTail _ _ _ (Value.int 1 _)) _ _ _))); (with_unfolding_all refine row1 (by k_asm) (by k_mem) ?_ (by with_unfolding_all rfl))) | ((fail_if_success (fail_if_success (with_reducible show wpAny _ _ (subscriptTail _ _ _ (Value.int 2 _)) _ _ _))); (with_unfolding_all refine row2 (by k_asm) (by k_mem) ?_ (by with_unfolding_all rfl))) | ((fail_if_success (fail_if_success (with_reducible show wpAny _ _ (subscriptTail _ _ _ (Value.int 3 _)) _ _ _))); (with_unfolding_all refine row3 (by k_asm) (by k_mem) ?_ (by with_unfolding_all rfl))) | ((fail_if_success (fail_if_success (with_reducible show wpAny _ _ (subscriptTail _ _ _ (Value.int 4 _)) _ _ _))); (with_unfolding_all refine row4 (by k_asm) (by k_mem) ?_ (by with_unfolding_all rfl))) | ((fail_if_success (fail_if_success (with_reducible show wpAny _ _ (subscriptTail _ _ _ (Value.int (Nat.cast _) _)) _ _ _))); (with_unfolding_all refine row_i _ (by k_asm) (by k_mem) (by assumption) (by omega) ?_ (by with_unfolding_all rfl))))) | (with_reducible (k_here; (fail_if_success (fail_if_success (with_reducible show wpAny _ _ (subscriptTail _ _ (Value.ref _) (Value.ref _)) _ _ _))); (with_unfolding_all refine row_tail (by k_asm) (by k_asm) (by k_mem) (by assumption) ?_ (by with_unfolding_all rfl) (by (intro _; with_unfolding_all rfl))); intro _ _ _ _ _))) | ((fail_if_success (fail_if_success (with_reducible show wpAny _ _ (compareOp _ _ _) _ _ _))); first | ((fail_if_success (fail_if_success (with_reducible show wpAny _ _ (compareOp .NotEq (Value.ref _) (Value.ref _)) _ _ _))); with_reducible (k_here; k_dflt (refine ne_nil (by k_asm) (by k_mem) (by k_mem) (by (rename DmAll _ (pickZ _ _ _) _ => hpk9; refine DmAll.mono ?_ hpk9; intro _ _; k_mem)) (by assumption) (by ktr_units) ?_)))) | walk1 | (dsimp only; walk1) | (leave1; walk_say "STEP leave1"; try dsimp only) | fail "no step"))
      rename List.isEmpty _ = false => hB
      (k_dflt (refine raise_end (by k_asm) (by k_asm) (by k_asm) (by assumption) (by rfl) ?_); intro h9 R9 U9; exact hexc (sorts_no hB) _ _ _ _ FG' U9 (R9.sub (by intro q9 hq9; k_mem)))
    by_cases h1 : op = Str.ofString "capture"
    · have hI := is2 (Str.ofString "dx") h1 (shp_eq (h1 ▸ hs) (by k_is)) hl rfl hp
      clear hpk' hpk hsm' h1 hp
      cases hI with | mk a0 a1 =>
      (repeat' (first | (k_unfold; (try dsimp only)) | (k_end; wrow_close) | ((fail_if_success (fail_if_success (with_reducible show wpAny _ _ (call _ _ _) _ _ _))); first | ((fail_if_success (fail_if_success (with_reducible show wpAny _ _ (call (Value.builtin "isinstance") _ _) _ _ _))); with_reducible (k_here; k_dflt (refine isinst_int (by k_asm) (by (refine Dm.mono ?_ (by assumption); intro _ _; k_mem)) ?_); intro _)) | ((fail_if_success (fail_if_success (with_reducible show wpAny _ _ (call (Value.builtin "isinstance") _ _) _ _ _))); with_reducible (k_here; k_dflt (refine isinst_tuple (by k_asm) (by (refine Dm.mono ?_ (by assumption); intro _ _; k_mem)) ?_); intro _)) | (with_reducible (k_here; (fail_if_success (fail_if_success (with_reducible show wpAny _ _ (call (Value.ref 52) [Value.str _ _]) _ _ _))); k_dflt (refine fault_made (by k_asm) (by k_asm) (by k_asm) (by k_asm) (by k_asm) (by exact rfl) (by ktr_room) (by ktr_units) ?_); (intro _ _ _ _ _ _ _ _); (try dsimp only); (try k_fold))) | ((fail_if_success (fail_if_success (with_reducible show wpAny _ _ (call (Value.type "zip") _ _) _ _ _))); with_reducible (k_here; k_dflt (refine call_zipK (by k_asm) (by k_asm) (by k_mem) (by assumption) ?_); intro _ _ _ _ _)) | (with_reducible (k_here; (fail_if_success (fail_if_success (with_reducible show wpAny _ _ (call (Value.ref _) [_]) _ _ _))); k_dflt (refine Ctr.same (by k_asm) (by k_asm) (by k_asm) (by k_asm) (by k_asm) (by exact rfl) (by ktr_room) (by ktr_units) (shape_ctr (by k_mem) (by assumption) (by assumption) (by assumption)) ?_); (intro _ _ _ _ _); (try dsimp only); (try k_fold)))) | ((fail_if_success (fail_if_success (with_reducible show wpAny _ _ (subscriptTail _ _ _ _) _ _ _))); first | (with_reducible (k_here; (fail_if_success (fail_if_success (with_reducible show wpAny _ _ (subscriptTail _ _ (Value.ref _) (Value.int _ _)) _ _ _))); first | ((fail_if_success (fail_if_success (with_reducible show wpAny _ _ (subscriptTail _ _ _ (Value.int 0 _)) _ _ _))); (with_unfolding_all refine row0 (by k_asm) (by k_mem) ?_ (by with_unfolding_all rfl))) | ((fail_if_success (fail_if_success (with_reducible show wpAny _ _ (subscriptTail _ _ _ (Value.int 1 _)) _ _ _))); (with_unfolding_all refine row1 (by k_asm) (by k_mem) ?_ (by with_unfolding_all rfl))) | ((fail_if_success (fail_if_success (with_reducible show wpAny _ _ (subscriptTail _ _ _ (Value.int 2 _)) _ _ _))); (with_unfolding_all refine row2 (by k_asm) (by k_mem) ?_ (by with_unfolding_all rfl))) | ((fail_if_success (fail_if_success (with_reducible show wpAny _ _ (subscriptTail _ _ _ (Value.int 3 _)) _ _ _))); (with_unfolding_all refine row3 (by k_asm) (by k_mem) ?_ (by with_unfolding_all rfl))) | ((fail_if_success (fail_if_success (with_reducible show wpAny _ _ (subscriptTail _ _ _ (Value.int 4 _)) _ _ _))); (with_unfolding_all refine row4 (by k_asm) (by k_mem) ?_ (by with_unfolding_all rfl))) | ((fail_if_success (fail_if_success (with_reducible show wpAny _ _ (subscriptTail _ _ _ (Value.int (Nat.cast _) _)) _ _ _))); (with_unfolding_all refine row_i _ (by k_asm) (by k_mem) (by assumption) (by omega) ?_ (by with_unfolding_all rfl))))) | (with_reducible (k_here; (fail_if_success (fail_if_success (with_reducible show wpAny _ _ (subscriptTail _ _ (Value.ref _) (Value.ref _)) _ _ _))); (with_unfolding_all refine row_tail (by k_asm) (by k_asm) (by k_mem) (by assumption) ?_ (by with_unfolding_all rfl) (by (intro _; with_unfolding_all rfl))); intro _ _ _ _ _))) | ((fail_if_success (fail_if_success (with_reducible show wpAny _ _ (compareOp _ _ _) _ _ _))); first | ((fail_if_success (fail_if_success (with_reducible show wpAny _ _ (compareOp .NotEq (Value.ref _) (Value.ref _)) _ _ _))); with_reducible (k_here; k_dflt (refine ne_nil (by k_asm) (by k_mem) (by k_mem) (by (rename DmAll _ (pickZ _ _ _) _ => hpk9; refine DmAll.mono ?_ hpk9; intro _ _; k_mem)) (by assumption) (by ktr_units) ?_)))) | walk1 | (dsimp only; walk1) | (leave1; walk_say "STEP leave1"; try dsimp only) | fail "no step"))
      · rename isN _ = _ => hB
        (rename_i kF9 kN9 _ _; exact hret ((sorts_capture (by assumption)).trans hB) _ [] _ _ kF9 (News.sub kN9 (by intro q9 hq9; k_mem)) (fun _ _ _ h => nomatch h) ⟨rfl, rfl⟩)
      · rename isN _ = _ => hB
        (k_dflt (refine raise_end (by k_asm) (by k_asm) (by k_asm) (by assumption) (by rfl) ?_); intro h9 R9 U9; exact hexc ((sorts_capture (by assumption)).trans hB) _ _ _ _ FG' U9 (R9.sub (by intro q9 hq9; k_mem)))
    by_cases h2 : op = Str.ofString "splat"
    · have hI := is4 (Str.ofString "dsmx") h2 (shp_eq (h2 ▸ hs) (by k_is)) hl rfl hp
      clear hpk' hpk hsm' h2 hp
      cases hI with | mk a0 a1 a2 a3 =>
      (repeat' (first | (k_unfold; (try dsimp only)) | (k_end; wrow_close) | ((fail_if_success (fail_if_success (with_reducible show wpAny _ _ (call _ _ _) _ _ _))); first | ((fail_if_success (fail_if_success (with_reducible show wpAny _ _ (call (Value.builtin "isinstance") _ _) _ _ _))); with_reducible (k_here; k_dflt (refine isinst_int (by k_asm) (by (refine Dm.mono ?_ (by assumption); intro _ _; k_mem)) ?_); intro _)) | ((fail_if_success (fail_if_success (with_reducible show wpAny _ _ (call (Value.builtin "isinstance") _ _) _ _ _))); with_reducible (k_here; k_dflt (refine isinst_tuple (by k_asm) (by (refine Dm.mono ?_ (by assumption); intro _ _; k_mem)) ?_); intro _)) | (with_reducible (k_here; (fail_if_success (fail_if_success (with_reducible show wpAny _ _ (call (Value.ref 52) [Value.str _ _]) _ _ _))); k_dflt (refine fault_made (by k_asm) (by k_asm) (by k_asm) (by k_asm) (by k_asm) (by exact rfl) (by ktr_room) (by ktr_units) ?_); (intro _ _ _ _ _ _ _ _); (try dsimp only); (try k_fold))) | ((fail_if_success (fail_if_success (with_reducible show wpAny _ _ (call (Value.type "zip") _ _) _ _ _))); with_reducible (k_here; k_dflt (refine call_zipK (by k_asm) (by k_asm) (by k_mem) (by assumption) ?_); intro _ _ _ _ _)) | (with_reducible (k_here; (fail_if_success (fail_if_success (with_reducible show wpAny _ _ (call (Value.ref _) [_]) _ _ _))); k_dflt (refine Ctr.same (by k_asm) (by k_asm) (by k_asm) (by k_asm) (by k_asm) (by exact rfl) (by ktr_room) (by ktr_units) (shape_ctr (by k_mem) (by assumption) (by assumption) (by assumption)) ?_); (intro _ _ _ _ _); (try dsimp only); (try k_fold)))) | ((fail_if_success (fail_if_success (with_reducible show wpAny _ _ (subscriptTail _ _ _ _) _ _ _))); first | (with_reducible (k_here; (fail_if_success (fail_if_success (with_reducible show wpAny _ _ (subscriptTail _ _ (Value.ref _) (Value.int _ _)) _ _ _))); first | ((fail_if_success (fail_if_success (with_reducible show wpAny _ _ (subscriptTail _ _ _ (Value.int 0 _)) _ _ _))); (with_unfolding_all refine row0 (by k_asm) (by k_mem) ?_ (by with_unfolding_all rfl))) | ((fail_if_success (fail_if_success (with_reducible show wpAny _ _ (subscriptTail _ _ _ (Value.int 1 _)) _ _ _))); (with_unfolding_all refine row1 (by k_asm) (by k_mem) ?_ (by with_unfolding_all rfl))) | ((fail_if_success (fail_if_success (with_reducible show wpAny _ _ (subscriptTail _ _ _ (Value.int 2 _)) _ _ _))); (with_unfolding_all refine row2 (by k_asm) (by k_mem) ?_ (by with_unfolding_all rfl))) | ((fail_if_success (fail_if_success (with_reducible show wpAny _ _ (subscriptTail _ _ _ (Value.int 3 _)) _ _ _))); (with_unfolding_all refine row3 (by k_asm) (by k_mem) ?_ (by with_unfolding_all rfl))) | ((fail_if_success (fail_if_success (with_reducible show wpAny _ _ (subscriptTail _ _ _ (Value.int 4 _)) _ _ _))); (with_unfolding_all refine row4 (by k_asm) (by k_mem) ?_ (by with_unfolding_all rfl))) | ((fail_if_success (fail_if_success (with_reducible show wpAny _ _ (subscriptTail _ _ _ (Value.int (Nat.cast _) _)) _ _ _))); (with_unfolding_all refine row_i _ (by k_asm) (by k_mem) (by assumption) (by omega) ?_ (by with_unfolding_all rfl))))) | (with_reducible (k_here; (fail_if_success (fail_if_success (with_reducible show wpAny _ _ (subscriptTail _ _ (Value.ref _) (Value.ref _)) _ _ _))); (with_unfolding_all refine row_tail (by k_asm) (by k_asm) (by k_mem) (by assumption) ?_ (by with_unfolding_all rfl) (by (intro _; with_unfolding_all rfl))); intro _ _ _ _ _))) | ((fail_if_success (fail_if_success (with_reducible show wpAny _ _ (compareOp _ _ _) _ _ _))); first | ((fail_if_success (fail_if_success (with_reducible show wpAny _ _ (compareOp .NotEq (Value.ref _) (Value.ref _)) _ _ _))); with_reducible (k_here; k_dflt (refine ne_nil (by k_asm) (by k_mem) (by k_mem) (by (rename DmAll _ (pickZ _ _ _) _ => hpk9; refine DmAll.mono ?_ hpk9; intro _ _; k_mem)) (by assumption) (by ktr_units) ?_)))) | walk1 | (dsimp only; walk1) | (leave1; walk_say "STEP leave1"; try dsimp only) | fail "no step"))
      · rename isT _ = _ => hB
        (rename_i kF9 kN9 _ _; exact hret ((sorts_splat (by assumption)).trans hB) _ [] _ _ kF9 (News.sub kN9 (by intro q9 hq9; k_mem)) (fun _ _ _ h => nomatch h) ⟨rfl, rfl⟩)
      · rename isT _ = _ => hB
        (k_dflt (refine raise_end (by k_asm) (by k_asm) (by k_asm) (by assumption) (by rfl) ?_); intro h9 R9 U9; exact hexc ((sorts_splat (by assumption)).trans hB) _ _ _ _ FG' U9 (R9.sub (by intro q9 hq9; k_mem)))
    by_cases h3 : op = Str.ofString "kwcall"
    · have hI := is5 (Str.ofString "dsxmm") h3 (shp_eq (h3 ▸ hs) (by k_is)) hl rfl hp
      clear hpk' hpk hsm' h3 hp
      cases hI with | mk a0 a1 a2 a3 a4 =>
      (repeat' (first | (k_unfold; (try dsimp only)) | (k_end; wrow_close) | ((fail_if_success (fail_if_success (with_reducible show wpAny _ _ (call _ _ _) _ _ _))); first | ((fail_if_success (fail_if_success (with_reducible show wpAny _ _ (call (Value.builtin "isinstance") _ _) _ _ _))); with_reducible (k_here; k_dflt (refine isinst_int (by k_asm) (by (refine Dm.mono ?_ (by assumption); intro _ _; k_mem)) ?_); intro _)) | ((fail_if_success (fail_if_success (with_reducible show wpAny _ _ (call (Value.builtin "isinstance") _ _) _ _ _))); with_reducible (k_here; k_dflt (refine isinst_tuple (by k_asm) (by (refine Dm.mono ?_ (by assumption); intro _ _; k_mem)) ?_); intro _)) | (with_reducible (k_here; (fail_if_success (fail_if_success (with_reducible show wpAny _ _ (call (Value.ref 52) [Value.str _ _]) _ _ _))); k_dflt (refine fault_made (by k_asm) (by k_asm) (by k_asm) (by k_asm) (by k_asm) (by exact rfl) (by ktr_room) (by ktr_units) ?_); (intro _ _ _ _ _ _ _ _); (try dsimp only); (try k_fold))) | ((fail_if_success (fail_if_success (with_reducible show wpAny _ _ (call (Value.type "zip") _ _) _ _ _))); with_reducible (k_here; k_dflt (refine call_zipK (by k_asm) (by k_asm) (by k_mem) (by assumption) ?_); intro _ _ _ _ _)) | (with_reducible (k_here; (fail_if_success (fail_if_success (with_reducible show wpAny _ _ (call (Value.ref _) [_]) _ _ _))); k_dflt (refine Ctr.same (by k_asm) (by k_asm) (by k_asm) (by k_asm) (by k_asm) (by exact rfl) (by ktr_room) (by ktr_units) (shape_ctr (by k_mem) (by assumption) (by assumption) (by assumption)) ?_); (intro _ _ _ _ _); (try dsimp only); (try k_fold)))) | ((fail_if_success (fail_if_success (with_reducible show wpAny _ _ (subscriptTail _ _ _ _) _ _ _))); first | (with_reducible (k_here; (fail_if_success (fail_if_success (with_reducible show wpAny _ _ (subscriptTail _ _ (Value.ref _) (Value.int _ _)) _ _ _))); first | ((fail_if_success (fail_if_success (with_reducible show wpAny _ _ (subscriptTail _ _ _ (Value.int 0 _)) _ _ _))); (with_unfolding_all refine row0 (by k_asm) (by k_mem) ?_ (by with_unfolding_all rfl))) | ((fail_if_success (fail_if_success (with_reducible show wpAny _ _ (subscriptTail _ _ _ (Value.int 1 _)) _ _ _))); (with_unfolding_all refine row1 (by k_asm) (by k_mem) ?_ (by with_unfolding_all rfl))) | ((fail_if_success (fail_if_success (with_reducible show wpAny _ _ (subscriptTail _ _ _ (Value.int 2 _)) _ _ _))); (with_unfolding_all refine row2 (by k_asm) (by k_mem) ?_ (by with_unfolding_all rfl))) | ((fail_if_success (fail_if_success (with_reducible show wpAny _ _ (subscriptTail _ _ _ (Value.int 3 _)) _ _ _))); (with_unfolding_all refine row3 (by k_asm) (by k_mem) ?_ (by with_unfolding_all rfl))) | ((fail_if_success (fail_if_success (with_reducible show wpAny _ _ (subscriptTail _ _ _ (Value.int 4 _)) _ _ _))); (with_unfolding_all refine row4 (by k_asm) (by k_mem) ?_ (by with_unfolding_all rfl))) | ((fail_if_success (fail_if_success (with_reducible show wpAny _ _ (subscriptTail _ _ _ (Value.int (Nat.cast _) _)) _ _ _))); (with_unfolding_all refine row_i _ (by k_asm) (by k_mem) (by assumption) (by omega) ?_ (by with_unfolding_all rfl))))) | (with_reducible (k_here; (fail_if_success (fail_if_success (with_reducible show wpAny _ _ (subscriptTail _ _ (Value.ref _) (Value.ref _)) _ _ _))); (with_unfolding_all refine row_tail (by k_asm) (by k_asm) (by k_mem) (by assumption) ?_ (by with_unfolding_all rfl) (by (intro _; with_unfolding_all rfl))); intro _ _ _ _ _))) | ((fail_if_success (fail_if_success (with_reducible show wpAny _ _ (compareOp _ _ _) _ _ _))); first | ((fail_if_success (fail_if_success (with_reducible show wpAny _ _ (compareOp .NotEq (Value.ref _) (Value.ref _)) _ _ _))); with_reducible (k_here; k_dflt (refine ne_nil (by k_asm) (by k_mem) (by k_mem) (by (rename DmAll _ (pickZ _ _ _) _ => hpk9; refine DmAll.mono ?_ hpk9; intro _ _; k_mem)) (by assumption) (by ktr_units) ?_)))) | walk1 | (dsimp only; walk1) | (leave1; walk_say "STEP leave1"; try dsimp only) | fail "no step"))
      · rename isT _ = _ => hB
        (rename_i kF9 kN9 _ _; exact hret ((sorts_kwcall (by assumption)).trans hB) _ [] _ _ kF9 (News.sub kN9 (by intro q9 hq9; k_mem)) (fun _ _ _ h => nomatch h) ⟨rfl, rfl⟩)
      · rename isT _ = _ => hB
        (k_dflt (refine raise_end (by k_asm) (by k_asm) (by k_asm) (by assumption) (by rfl) ?_); intro h9 R9 U9; exact hexc ((sorts_kwcall (by assumption)).trans hB) _ _ _ _ FG' U9 (R9.sub (by intro q9 hq9; k_mem)))
    have g1 : ([Str.ofString "leave", Str.ofString "capture"].any fun x => x == op) = false := by simp [Ne.symm h1, Ne.symm hlv]
    have g2 : ([Str.ofString "splat", Str.ofString "kwcall"].any fun x => x == op) = false := by simp [Ne.symm h2, Ne.symm h3]
    rw [← Bool.not_eq_true] at g1 g2
    (repeat' (first | (k_unfold; (try dsimp only)) | (k_end; wrow_close) | ((fail_if_success (fail_if_success (with_reducible show wpAny _ _ (call _ _ _) _ _ _))); first | ((fail_if_success (fail_if_success (with_reducible show wpAny _ _ (call (Value.builtin "isinstance") _ _) _ _ _))); with_reducible (k_here; k_dflt (refine isinst_int (by k_asm) (by (refine Dm.mono ?_ (by assumption); intro _ _; k_mem)) ?_); intro _)) | ((fail_if_success (fail_if_success (with_reducible show wpAny _ _ (call (Value.builtin "isinstance") _ _) _ _ _))); with_reducible (k_here; k_dflt (refine isinst_tuple (by k_asm) (by (refine Dm.mono ?_ (by assumption); intro _ _; k_mem)) ?_); intro _)) | (with_reducible (k_here; (fail_if_success (fail_if_success (with_reducible show wpAny _ _ (call (Value.ref 52) [Value.str _ _]) _ _ _))); k_dflt (refine fault_made (by k_asm) (by k_asm) (by k_asm) (by k_asm) (by k_asm) (by exact rfl) (by ktr_room) (by ktr_units) ?_); (intro _ _ _ _ _ _ _ _); (try dsimp only); (try k_fold))) | ((fail_if_success (fail_if_success (with_reducible show wpAny _ _ (call (Value.type "zip") _ _) _ _ _))); with_reducible (k_here; k_dflt (refine call_zipK (by k_asm) (by k_asm) (by k_mem) (by assumption) ?_); intro _ _ _ _ _)) | (with_reducible (k_here; (fail_if_success (fail_if_success (with_reducible show wpAny _ _ (call (Value.ref _) [_]) _ _ _))); k_dflt (refine Ctr.same (by k_asm) (by k_asm) (by k_asm) (by k_asm) (by k_asm) (by exact rfl) (by ktr_room) (by ktr_units) (shape_ctr (by k_mem) (by assumption) (by assumption) (by assumption)) ?_); (intro _ _ _ _ _); (try dsimp only); (try k_fold)))) | ((fail_if_success (fail_if_success (with_reducible show wpAny _ _ (subscriptTail _ _ _ _) _ _ _))); first | (with_reducible (k_here; (fail_if_success (fail_if_success (with_reducible show wpAny _ _ (subscriptTail _ _ (Value.ref _) (Value.int _ _)) _ _ _))); first | ((fail_if_success (fail_if_success (with_reducible show wpAny _ _ (subscriptTail _ _ _ (Value.int 0 _)) _ _ _))); (with_unfolding_all refine row0 (by k_asm) (by k_mem) ?_ (by with_unfolding_all rfl))) | ((fail_if_success (fail_if_success (with_reducible show wpAny _ _ (subscriptTail _ _ _ (Value.int 1 _)) _ _ _))); (with_unfolding_all refine row1 (by k_asm) (by k_mem) ?_ (by with_unfolding_all rfl))) | ((fail_if_success (fail_if_success (with_reducible show wpAny _ _ (subscriptTail _ _ _ (Value.int 2 _)) _ _ _))); (with_unfolding_all refine row2 (by k_asm) (by k_mem) ?_ (by with_unfolding_all rfl))) | ((fail_if_success (fail_if_success (with_reducible show wpAny _ _ (subscriptTail _ _ _ (Value.int 3 _)) _ _ _))); (with_unfolding_all refine row3 (by k_asm) (by k_mem) ?_ (by with_unfolding_all rfl))) | ((fail_if_success (fail_if_success (with_reducible show wpAny _ _ (subscriptTail _ _ _ (Value.int 4 _)) _ _ _))); (with_unfolding_all refine row4 (by k_asm) (by k_mem) ?_ (by with_unfolding_all rfl))) | ((fail_if_success (fail_if_success (with_reducible show wpAny _ _ (subscriptTail _ _ _ (Value.int (Nat.cast _) _)) _ _ _))); (with_unfolding_all refine row_i _ (by k_asm) (by k_mem) (by assumption) (by omega) ?_ (by with_unfolding_all rfl))))) | (with_reducible (k_here; (fail_if_success (fail_if_success (with_reducible show wpAny _ _ (subscriptTail _ _ (Value.ref _) (Value.ref _)) _ _ _))); (with_unfolding_all refine row_tail (by k_asm) (by k_asm) (by k_mem) (by assumption) ?_ (by with_unfolding_all rfl) (by (intro _; with_unfolding_all rfl))); intro _ _ _ _ _))) | ((fail_if_success (fail_if_success (with_reducible show wpAny _ _ (compareOp _ _ _) _ _ _))); first | ((fail_if_success (fail_if_success (with_reducible show wpAny _ _ (compareOp .NotEq (Value.ref _) (Value.ref _)) _ _ _))); with_reducible (k_here; k_dflt (refine ne_nil (by k_asm) (by k_mem) (by k_mem) (by (rename DmAll _ (pickZ _ _ _) _ => hpk9; refine DmAll.mono ?_ hpk9; intro _ _; k_mem)) (by assumption) (by ktr_units) ?_)))) | walk1 | (dsimp only; walk1) | (leave1; walk_say "STEP leave1"; try dsimp only) | fail "no step"))
    (rename_i kF9 kN9 _ _; exact hret (sorts_other (by assumption) h1 h2 h3) _ [] _ _ kF9 (News.sub kN9 (by intro q9 hq9; k_mem)) (fun _ _ _ h => nomatch h) ⟨rfl, rfl⟩)
end
end Mine
end
section
open PySem PySem.W PySem.Spec PySem.Calls PyProof.Rows PyProof.V
namespace Mine
set_option pp.deepTerms false
set_option pp.proofs false
set_option maxRecDepth 100000
set_option maxHeartbeats 1000000
/-- the end of a loop's turn: what stands stands; or a return -/
def TurnOK (h₀ : Heap) (L : Addr) (m : Str → Option Value) (news : List (Addr × Obj)) (s₁ : Shared) (P : Prop) (Qr : Value → Shared → Prop) (f : Flow) (s' : Shared) : Prop := match f with
  | .ret v => Qr v s'
  | .brk => False
  | _ => ∃ h' tk', s' = { s₁ with heap := h', toks := tk' } ∧ Fr h₀ L h' m ∧ News h₀ L h' news ∧ P
section
variable {w : World} {A : Around} {E : Value → Shared → Prop} {s : Shared} {h₀ : Heap} {env : Env} {m₀ : Str → Option Value} {news : List (Addr × Obj)} {x : Str} {body : List Stmt} {Q : Flow → Shared → Prop}
theorem atLoop {I : Addr} {fp : List Addr} {n : Nat} {Pv : Nat → Value → Prop} {St : Nat → Heap → Prop} (P : Nat → Prop)
    (W : Walks prog w A I fp [I] n Pv St) (hIf : I ∈ fp) (hfp : ∀ b ∈ fp, b = I ∨ ∃ o, (b, o) ∈ news) (hLf : env.locals ∉ fp) (hI₀ : h₀.get? I = none) (hnw : ∀ p ∈ news, p.1 < I) (hSt : ∀ i h, St i h → ∃ o, h.get? I = some o) (hst : St 0 s.heap)
    (F : Fr h₀ env.locals s.heap m₀) (N : News h₀ env.locals s.heap news) (h0 : P 0)
    (turn : ∀ i v h tk oI, i < n → Pv i v → P i → Fr h₀ env.locals h (fun y => if y = x then some v else m₀ y) → News h₀ env.locals h ((I, oI) :: news) → (∀ p ∈ news, p.1 < I) →
      wpAny (model prog w) A (execs body env) (TurnOK h₀ env.locals (fun y => if y = x then some v else m₀ y) ((I, oI) :: news) { s with heap := h, toks := tk } (P (i + 1)) fun v s' => Q (.ret v) s') E { s with heap := h, toks := tk })
    (done : ∀ (u : Option Value) h tk, Fr h₀ env.locals h (fun y => if y = x then u else m₀ y) → News h₀ env.locals h news → P n → Q .next { s with heap := h, toks := tk }) :
    LoopAtV prog w A h₀ env x body Q E (.ref I) s := by
  let J : Nat → (Str → Option Value) → List (Addr × Obj) → Prop := fun i m₁ news₁ => P i ∧ news₁ = news ∧ ∀ y, y ≠ x → m₁ y = m₀ y
  refine ⟨I, fp, [I], n, Pv, St, m₀, news, J, rfl, W, hLf, ?_, ?_, hst, F, N, ⟨h0, rfl, fun _ _ => rfl⟩, ?_, ?_⟩
  · intro b hb
    rw [List.mem_singleton.mp hb]
    exact hI₀
  · intro p hp hI
    exact absurd (hnw p hp) ((List.mem_singleton.mp hI) ▸ Nat.lt_irrefl _)
  · rintro i v m₁ news₁ s₁ own ⟨hh', tk', rfl⟩ hin hPv ⟨hP, rfl, hJ⟩ hoff h5 _ h7 hs F₁ N₁
    have e : (fun y => if y = x then some v else m₁ y) = fun y => if y = x then some v else m₀ y := by
      funext y
      by_cases h1 : y = x
      · simp [h1]
      · simp only [if_neg h1]; exact hJ y h1
    rw [e] at F₁
    obtain ⟨oI, hoI⟩ := hSt _ _ hs
    have own1 : ∀ p ∈ own, p = (I, oI) ∨ p ∈ news₁ := fun p hp => by
      have a := (N₁ p (List.mem_append.mpr (.inl hp))).1
      rcases hfp p.1 (h5 p hp) with q | ⟨o, ho⟩
      · exact .inl (Prod.ext q (Option.some.inj (a.symm.trans (q ▸ hoI))))
      · have b := (N₁ _ (List.mem_append.mpr (.inr ho))).1
        have : p = (p.1, o) := Prod.ext rfl (Option.some.inj (a.symm.trans b))
        exact .inr (this ▸ ho)
    have NI : News h₀ env.locals hh' ((I, oI) :: news₁) := fun p hp => by
      rcases List.mem_cons.mp hp with rfl | hp
      · exact N₁ _ (List.mem_append.mpr (.inl (h7 I hIf hI₀ oI hoI)))
      · exact N₁ p (List.mem_append.mpr (.inr hp))
    refine wpAny_mono (turn i v hh' tk' oI hin hPv hP F₁ NI hnw) (fun f s₂ p => ?_) fun _ _ e => e
    have fin : (∃ h' tk'', s₂ = { s with heap := h', toks := tk'' } ∧ Fr h₀ env.locals h' (fun y => if y = x then some v else m₀ y) ∧ News h₀ env.locals h' ((I, oI) :: news₁) ∧ P (i + 1)) → LoopStepU h₀ env.locals [I] own (J (i + 1)) { s with heap := hh', toks := tk' } .next s₂ := by
      rintro ⟨h', tk, e, F', N', hP'⟩
      refine ⟨rfl, h', tk, _, news₁, e, F', fun p hp => ?_, hoff, hP', rfl, fun y hy => by simp [hy]⟩
      rcases List.mem_append.mp hp with hp | hp
      · rcases own1 p hp with rfl | hp
        · exact N' _ List.mem_cons_self
        · exact N' _ (List.mem_cons_of_mem _ hp)
      · exact N' p (List.mem_cons_of_mem _ hp)
    cases f with
    | ret v => exact .ret p
    | brk => exact p.elim
    | next => exact .next (fin p)
    | cont => exact .cont (fin p)
  · rintro h' tk m' news' F' N' _ ⟨hP, rfl, hJ⟩
    refine done (m' x) h' tk ?_ N' hP
    have e : (fun y => if y = x then m' x else m₀ y) = m' := by
      funext y
      by_cases h1 : y = x
      · simp [h1]
      · simp only [if_neg h1]; exact (hJ y h1).symm
    rw [e]
    exact F'

theorem listLoop {l : Addr} {vs : List Value} {k : Nat} (P : Nat → Prop) (hh : A.handled = none) (F : Fr h₀ env.locals s.heap m₀) (N : News h₀ env.locals s.heap news) (hl : (l, lstO vs k) ∈ news) (h0 : P 0)
    (turn : ∀ i v h tk I oI, vs[i]? = some v → P i → Fr h₀ env.locals h (fun y => if y = x then some v else m₀ y) → News h₀ env.locals h ((I, oI) :: news) → (∀ p ∈ news, p.1 < I) →
      wpAny (model prog w) A (execs body env) (TurnOK h₀ env.locals (fun y => if y = x then some v else m₀ y) ((I, oI) :: news) { s with heap := h, toks := tk } (P (i + 1)) fun v s' => Q (.ret v) s') E { s with heap := h, toks := tk })
    (done : ∀ (u : Option Value) h tk, Fr h₀ env.locals h (fun y => if y = x then u else m₀ y) → News h₀ env.locals h news → P vs.length → Q .next { s with heap := h, toks := tk }) :
    wpAny (model prog w) A (pyIter (.ref l)) (fun it s₂ => LoopAtV prog w A h₀ env x body Q E it s₂) E s := by
  have hls : s.heap.IsList l vs.toArray := ⟨_, (N _ hl).1, rfl, _, rfl⟩
  have hne : l ≠ s.heap.objs.size := Nat.ne_of_lt (Heap.lt_size (N _ hl).1)
  refine wpAny_pyIter_list hls ?_
  have W := Walks.list (prog := prog) (w := w) hh s.heap.objs.size l hne vs.toArray
  refine atLoop P W List.mem_cons_self (fun b hb => ?_) ?_ (next_is_new F) (fun p hp => Heap.lt_size (N p hp).1) (fun i h st => by obtain ⟨o, e, _⟩ := st.1; exact ⟨o, e⟩) ⟨⟨_, Heap.get?_push_size _ rfl, rfl, rfl⟩, hls.at fun o e => Heap.get?_push_of_some _ e⟩ (F.push _) (fun p hp => ⟨Heap.get?_push_of_some _ (N p hp).1, (N p hp).2⟩) h0 ?_ ?_
  · rcases List.mem_cons.mp hb with e | hb
    · exact .inl e
    · rw [List.mem_singleton.mp hb]; exact .inr ⟨_, hl⟩
  · intro hm
    rcases List.mem_cons.mp hm with e | hm
    · exact absurd F.ns.lt (e ▸ Nat.lt_irrefl _)
    · exact (N _ hl).2.1 (List.mem_singleton.mp hm).symm
  · intro i v h tk oI hin hP hp F₁ N₁ l₁
    exact turn i v h tk _ oI (by simpa using hP) hp F₁ N₁ l₁
  · intro u h tk F₁ N₁ hp
    exact done u h tk F₁ N₁ (by simpa using hp)
end
end Mine
end
section
open PySem PySem.W PySem.Spec PySem.Calls PyProof.Rows PyProof.V
namespace Mine
local macro_rules | `(tactic| walk_at "idle 0") => `(tactic| fail)
set_option pp.deepTerms false
set_option pp.proofs false
set_option maxRecDepth 100000
set_option maxHeartbeats 2000000
section
variable {w : World} {A : Around} {E : Value → Shared → Prop} {s : Shared} {h₀ : Heap} {L : Addr} {m : Str → Option Value} {news : List (Addr × Obj)}
theorem tuple_list {l : Addr} {vs : List Value} {n : Nat} {Q : Value → Shared → Prop} (F : Fr h₀ L s.heap m) (N : News h₀ L s.heap news) (hl : (l, lstO vs n) ∈ news) (hz : vs.length < 100)
    (h : ∀ D h', Fr h₀ L h' m → News h₀ L h' ((D, tupO vs 0) :: news) → (∀ p ∈ news, p.1 < D) → Q (.ref D) { s with heap := h' }) : wpAny (model prog w) A (call (.type "tuple") [.ref l]) Q E s :=
  kde_tupleOf F N (News.isList N hl) (by rw [List.size_toArray]; omega) (by simp) h
theorem tuple_tup {l : Addr} {vs : List Value} {n : Nat} {Q : Value → Shared → Prop} (N : News h₀ L s.heap news) (hl : (l, tupO vs n) ∈ news) (h : Q (.ref l) s) : wpAny (model prog w) A (call (.type "tuple") [.ref l]) Q E s :=
  call_tuple_tup (News.isTup N hl) h
end
theorem allLt_mem {d : Nat} {q : Addr × Obj} : ∀ {l : List (Addr × Obj)}, AllLt d l → q ∈ l → q.1 < d
  | _ :: _, h, .head _ => h.1
  | _ :: _, h, .tail _ m => allLt_mem h.2 m
/-- the attributes of a Code -/
abbrev codeEs (w : World) (f : Str) (tf : Tok) (ar : Int) (ta ts : Tok) (R S C : Addr) (t1 t2 t3 t4 t5 t6 t7 : Tok) : List DictEntry :=
  [⟨PyData.keyHash w.params (Str.ofString "name"), .str (Str.ofString "name") t1, .str f tf⟩, ⟨PyData.keyHash w.params (Str.ofString "arity"), .str (Str.ofString "arity") t2, .int ar ta⟩,
    ⟨PyData.keyHash w.params (Str.ofString "slots"), .str (Str.ofString "slots") t3, .int 4 ts⟩, ⟨PyData.keyHash w.params (Str.ofString "rows"), .str (Str.ofString "rows") t4, .ref R⟩,
    ⟨PyData.keyHash w.params (Str.ofString "static"), .str (Str.ofString "static") t5, .ref S⟩, ⟨PyData.keyHash w.params (Str.ofString "captures"), .str (Str.ofString "captures") t6, .ref C⟩,
    ⟨PyData.keyHash w.params (Str.ofString "marks"), .str (Str.ofString "marks") t7, .ref 67⟩]
section
variable {w : World} {p : Program} {loose : List Str} {mean : ExcName → Option Value} {mg mb : Str → Option Value}
theorem code_made {f : Str} {tf ta ts : Tok} {ar : Int} {r S Cp : Addr} {rv sv cv : List Value} {n1 n2 n3 : Nat} {dp un : Nat} {gd : Option (List Code)} {cn : Str} {cs : Scope} {L a : Addr} {ccd : Value} {cl : List (Str × Addr)} {outer : List Env} {A₀ : Around} {base h₀ : Heap} {m : Str → Option Value} {s : Shared} {news : List (Addr × Obj)}
    {Q E : Value → Shared → Prop} (B : Below A₀ base outer h₀) (F : Fr h₀ L s.heap m) (X : (Mine.frame.heap_1 w.params).In h₀) (N : News h₀ L s.heap news) (T : Top p loose mean mg mb h₀) (hk : cs.kind = .function) (hd : dp + 3 < recursionLimit) (hu : un + 24 < cLine)
    (hr : (r, lstO rv n1) ∈ news) (hS : (S, tupO sv n2) ∈ news) (hC : (Cp, tupO cv n3) ∈ news) (hz : rv.length < 100)
    (hret : ∀ x dx R t1 t2 t3 t4 t5 t6 t7 h' tk', Fr h₀ L h' m → News h₀ L h' ((R, tupO rv 0) :: (x, instObj 85 dx) :: (dx, dictOf (codeEs w f tf ar ta ts R S Cp t1 t2 t3 t4 t5 t6 t7) 7) :: news) → (∀ q ∈ news, q.1 < dx ∧ q.1 < x ∧ q.1 < R) → Q (.ref x) { s with heap := h', toks := tk' }) :
    wpAny (model prog w) (ktrTop dp un gd cn cs L a ccd cl outer) (call (.ref 85) [.str f tf, .int ar ta, .int 4 ts, .ref r, .ref S, .ref Cp]) Q E s := by
  refine call_cls F X N (by k_is) (by k_is) (by k_is) ?_
  intro x dx h' F' N' l1 l2
  have l1k : ∀ p ∈ news, p.1 < dx ∧ p.1 < x := fun p hp => ⟨l1 p hp, Nat.lt_trans (l1 p hp) l2⟩
  (try k_lt l1)
  (try k_lt2 l2)
  (try k_sweep)
  k_dflt (refine' code_def (binds := [(Str.ofString "self", .ref x), (Str.ofString "name", .str f tf), (Str.ofString "arity", .int ar ta), (Str.ofString "slots", .int 4 ts), (Str.ofString "rows", .ref r), (Str.ofString "static", .ref S), (Str.ofString "captures", .ref Cp), (Str.ofString "marks", Value.ref 67)]) ?k1 ?k2 ?k3 ?k4 ?k5 ?kA ?kF ?kK ?k6 ?k7 ?k8 ?k9 ?kB ?_ ?c2 ?c3 ?c4 ?c5; (case kA => exact rfl); (case kF => exact rfl); (case kK => assumption); (case k1 => k_asm); (case k2 => k_asm); (case k3 => k_asm); (case k4 => k_asm); (case k5 => k_asm); (case k6 => k_is); (case k7 => k_is); (case k8 => ktr_room); (case k9 => exact binds_K (by k_in) rfl (by k_is) rfl rfl rfl); (case c5 => decide); (case kB => exact locs rfl); (case c2 => exact rfl); (case c3 => exact rfl); (case c4 => exact rfl); k_whole)
  intro g' L' h' FG' F' N' B' X' T'
  (try dsimp only)
  (try k_fold)
  (repeat' (first | (k_unfold; (try dsimp only)) | (k_end; wrow_close) | ((fail_if_success (fail_if_success (with_reducible show wpAny _ _ (call _ _ _) _ _ _))); first | (with_reducible (k_here; (fail_if_success (fail_if_success (with_reducible show wpAny _ _ (call (Value.type "tuple") [Value.ref _]) _ _ _))); first | (refine tuple_tup (by k_asm) (by k_mem) ?_) | (refine call_tuple_tup (tupK (Frag.In.keeps (by k_asm) (Fr.keep (by k_asm))) (by k_is)) ?_) | ((refine tuple_list (by k_asm) (by k_asm) (by k_mem) (by omega) ?_); intro _ _ _ _ l9; (try k_lt l9); (try k_sweep))))) | walk1 | (dsimp only; walk1) | (leave1; walk_say "STEP leave1"; try dsimp only) | fail "no step"))
  rename_i kF9 kN9 _ _
  refine hret x dx _ _ _ _ _ _ _ _ _ _ kF9 kN9 fun q hq => ⟨(l1k q hq).1, (l1k q hq).2, allLt_mem (by assumption : _ ∧ _ ∧ AllLt _ _).2.2 hq⟩
end
end Mine
end
section
open PySem PySem.W PySem.Spec PySem.Calls PyProof.Rows PyProof.V
namespace Mine
local macro_rules | `(tactic| walk_at "idle 0") => `(tactic| fail)
local macro_rules | `(tactic| walk_at "idle 1") => `(tactic| fail)
set_option pp.deepTerms false
set_option pp.proofs false
set_option maxRecDepth 100000
set_option maxHeartbeats 8000000
/-- the registers that a row's letters and data read -/
def usesD : List Nat → List PyData → List PyData
  | c :: cs, d :: ds => if c = 115 then d :: usesD cs ds else if c = 109 then (match d with | .tuple es => es | _ => []) ++ usesD cs ds else usesD cs ds
  | _, _ => []
/-- no letter m stands over an empty tuple -/
def fullD : List Nat → List PyData → Bool
  | c :: cs, d :: ds => (!(c == 109 && (match d with | .tuple [] => true | _ => false))) && fullD cs ds
  | _, _ => true
theorem carried_dm {n : List (Addr × Obj)} : ∀ {vs ds}, CarriedAll vs ds → DmAll n vs ds
  | _, _, .nil => .nil
  | _, _, .cons a b => .cons (.at a) (carried_dm b)
theorem uses_dm {n : List (Addr × Obj)} : ∀ {cs : List Nat} {ps : List Value} {ds : List PyData}, DmAll n ps ds → cs.length = ps.length → (pickD (fun c d => c == 109 && !isT d) cs ds).isEmpty = true → fullD cs ds = true →
    ∃ us, Uses n cs ps us ∧ DmAll n us (usesD cs ds)
  | [], _, _, .nil, _, _, _ => ⟨[], .nil, .nil⟩
  | [], _, _, .cons _ _, h, _, _ => by simp at h
  | _ :: _, _, _, .nil, h, _, _ => by simp at h
  | c :: cs, _, _, .cons (v := v) (d := d) (vs := ps) (ds := ds) a b, hl, hp, hf => by
    simp only [fullD, Bool.and_eq_true] at hf
    have hl' : cs.length = ps.length := by simpa using hl
    simp only [pickD] at hp
    by_cases h1 : c = 115
    · subst h1
      obtain ⟨us, hu, hd⟩ := uses_dm b hl' (by simpa using hp) hf.2
      exact ⟨v :: us, .s hu, by simp only [usesD, if_true]; exact .cons a hd⟩
    by_cases h2 : c = 109
    · subst h2
      cases ht : isT d with
      | false => simp [ht] at hp
      | true =>
        obtain ⟨us, hu, hd⟩ := uses_dm b hl' (by simpa [ht] using hp) hf.2
        cases a with
        | «at» c => cases c <;> simp [isT] at ht
        | lst => simp [isT] at ht
        | @tup a vs k es m c =>
          have hvs : vs ≠ [] := fun e => by
            subst e
            cases c
            simp at hf
          exact ⟨vs ++ us, .m m hvs hu, by simp only [usesD]; rw [if_neg (by decide), if_pos trivial]; exact (carried_dm c).append hd⟩
    · obtain ⟨us, hu, hd⟩ := uses_dm b hl' (by rw [if_neg (by simp [h2])] at hp; exact hp) hf.2
      exact ⟨us, .o h1 h2 hu, by simp only [usesD, if_neg h1, if_neg h2]; exact hd⟩
def regD : PyData → Bool | .int n => decide (0 ≤ n) && decide (n < 4) | _ => false
def notBool : PyData → Bool | .bool _ => false | _ => true
def lenT : PyData → Option Nat | .tuple l => some l.length | _ => none
def setsD (x : Str) (ds : List PyData) : List PyData := if x.cps[0]? = some 100 then ds.take 1 else []
def goalsD (op x : Str) (ds : List PyData) (at_ : Nat) : List PyData := (if isEnd op then [] else [.int ((at_ : Int) + 1)]) ++ pickD (fun c _ => c == 103) x.cps.toList ds
/-- what check_row asks of a row -/
def rowD (op x : Str) (ds : List PyData) (at_ : Nat) : Bool :=
  sortsD op x ds && ((usesD x.cps.toList ds ++ setsD x ds).all regD && ((goalsD op x ds at_).all regD &&
    (if Str.ofString "static" == op then ds[1]?.any (isStr (Str.ofString "T.1")) else if Str.ofString "capture" == op then ds[1]?.any regD
      else if Str.ofString "splat" == op || Str.ofString "kwcall" == op then decide ((ds[2]?.bind lenT) = (ds[3]?.bind lenT)) else true)))

theorem sorts_pick {op x : Str} {ds : List PyData} (h : sortsD op x ds = true) : (pickD (fun c d => c == 109 && !isT d) x.cps.toList ds).isEmpty = true := by
  unfold sortsD at h; simp only [Bool.and_eq_true] at h; exact h.1.1
theorem take_all {α : Type} {p : α → Bool} {l : List α} {i : Nat} {d : α} (h : (l.take i).all p = true) (hd : l[i]? = some d) (hp : p d = true) : (l.take (i + 1)).all p = true := by
  rw [List.take_succ, hd]
  simp only [Option.toList_some, List.all_append, h, List.all_cons, hp, List.all_nil, Bool.and_self]
theorem all_no {α : Type} {p : α → Bool} {l : List α} {i : Nat} {d : α} (hd : l[i]? = some d) (hp : p d = false) : l.all p = false := by
  refine Bool.eq_false_iff.mpr fun e => ?_
  have := List.all_eq_true.mp e d (List.mem_of_getElem? hd)
  rw [hp] at this; cases this
theorem row_no2 {op x : Str} {ds : List PyData} {at_ i : Nat} {d : PyData} (hd : (usesD x.cps.toList ds ++ setsD x ds)[i]? = some d) (hp : regD d = false) : rowD op x ds at_ = false := by
  unfold rowD; rw [all_no hd hp]; simp
theorem row_no1 {op x : Str} {ds : List PyData} {at_ : Nat} (h : sortsD op x ds = false) : rowD op x ds at_ = false := by unfold rowD; rw [h]; rfl
theorem row_no3 {op x : Str} {ds : List PyData} {at_ i : Nat} {d : PyData} (hd : (goalsD op x ds at_)[i]? = some d) (hp : regD d = false) : rowD op x ds at_ = false := by
  unfold rowD; rw [all_no hd hp]; simp
/-- what is left to ask once the sorts, the registers and the goals are right -/
def opD (op : Str) (ds : List PyData) : Bool :=
  if Str.ofString "static" == op then ds[1]?.any (isStr (Str.ofString "T.1")) else if Str.ofString "capture" == op then ds[1]?.any regD
      else if Str.ofString "splat" == op || Str.ofString "kwcall" == op then decide ((ds[2]?.bind lenT) = (ds[3]?.bind lenT)) else true
theorem row_op {op x : Str} {ds : List PyData} {at_ i j : Nat} (h1 : sortsD op x ds = true) (h2 : ((usesD x.cps.toList ds ++ setsD x ds).take i).all regD = true) (hi : (usesD x.cps.toList ds ++ setsD x ds).length ≤ i)
    (h3 : ((goalsD op x ds at_).take j).all regD = true) (hj : (goalsD op x ds at_).length ≤ j) : rowD op x ds at_ = opD op ds := by
  rw [List.take_of_length_le hi] at h2
  rw [List.take_of_length_le hj] at h3
  unfold rowD; rw [h1, h2, h3]; simp only [Bool.true_and]; rfl
theorem op_static {d0 d1 : PyData} : opD (Str.ofString "static") [d0, d1] = isStr (Str.ofString "T.1") d1 := by
  unfold opD; rw [if_pos (by decide)]; rfl
theorem op_capture {d0 d1 : PyData} : opD (Str.ofString "capture") [d0, d1] = regD d1 := by
  unfold opD; rw [if_neg (by decide), if_pos (by decide)]; rfl
theorem op_splat {d0 d1 : PyData} {a b : List PyData} : opD (Str.ofString "splat") [d0, d1, .tuple a, .tuple b] = decide (a.length = b.length) := by
  unfold opD; rw [if_neg (by decide), if_neg (by decide), if_pos (by decide)]; simp [lenT]
theorem op_kwcall {d0 d1 d4 : PyData} {a b : List PyData} : opD (Str.ofString "kwcall") [d0, d1, .tuple a, .tuple b, d4] = decide (a.length = b.length) := by
  unfold opD; rw [if_neg (by decide), if_neg (by decide), if_pos (by decide)]; simp [lenT]
theorem op_other {op : Str} {ds : List PyData} (h0 : ¬ op = Str.ofString "static") (h1 : ¬ op = Str.ofString "capture") (h2 : ¬ op = Str.ofString "splat") (h3 : ¬ op = Str.ofString "kwcall") : opD op ds = true := by
  unfold opD; simp [Ne.symm h0, Ne.symm h1, Ne.symm h2, Ne.symm h3]
theorem m_splat {d0 d1 d2 d3 : PyData} (h : (pickD (fun c d => c == 109 && !isT d) (Str.ofString "dsmx").cps.toList [d0, d1, d2, d3]).isEmpty = true) : isT d2 = true := by
  cases e : isT d2 with
  | true => rfl
  | false => simp [show (Str.ofString "dsmx").cps.toList = [100, 115, 109, 120] from rfl, pickD, e] at h
theorem m_kwcall {d0 d1 d2 d3 d4 : PyData} (h : (pickD (fun c d => c == 109 && !isT d) (Str.ofString "dsxmm").cps.toList [d0, d1, d2, d3, d4]).isEmpty = true) : isT d3 = true := by
  cases e : isT d3 with
  | true => rfl
  | false => cases e4 : isT d4 <;> simp [show (Str.ofString "dsxmm").cps.toList = [100, 115, 120, 109, 109] from rfl, pickD, e, e4] at h
def plainD : PyData → Bool | .bool _ => false | .none => false | .tuple l => decide (l.length < 100) | .int i => decide (-100 < i) && decide (i < 100) | .str x => decide (x.length < 100) | _ => true
theorem plain_z {d : PyData} (h : plainD d = true) : isZ d = false := by cases d <;> first | rfl | cases h
theorem plain_int {i : Int} (h : plainD (.int i) = true) : -100 < i ∧ i < 100 := by simpa [plainD] using h
theorem plain_str {x : Str} (h : plainD (.str x) = true) : x.length < 100 := by simpa [plainD] using h
theorem carried_len : ∀ {vs ds}, CarriedAll vs ds → vs.length = ds.length
  | _, _, .nil => rfl
  | _, _, .cons _ b => by simp [carried_len b]
theorem plain_tup {l : List PyData} (h : plainD (.tuple l) = true) : l.length < 100 := by simpa [plainD] using h
theorem regD_int {n : Int} (h1 : 0 ≤ n) (h2 : n < 4) : regD (.int n) = true := by
  simp only [regD, Bool.and_eq_true, decide_eq_true_eq]; exact ⟨h1, h2⟩
theorem regD_no {n : Int} (h : ¬ 0 ≤ n ∨ ¬ n < 4) : regD (.int n) = false := by
  simp only [regD, Bool.and_eq_false_iff, decide_eq_false_iff_not]; exact h
section
variable {w : World} {p : Program} {loose : List Str} {mean : ExcName → Option Value} {mg mb : Str → Option Value}
theorem sets_ctr2 {news : List (Addr × Obj)} {r : Addr} {op x : Str} {t xt : Tok} {p0 sv : Value} {ps : List Value} {n c0 : Nat} (hr : (r, tupO (.str op t :: p0 :: ps) n) ∈ news) (hs : Shp w op x xt) (hl : x.cps.size = (p0 :: ps).length) (hn : (p0 :: ps).length < 100) (h0 : x.cps[0]? = some c0)
    (hv : (if c0 = 100 then p0 else .none) = sv) : Ctr w p loose mean mg mb 6 110 news [.ref r] (fun v tl => v = sv ∧ tl = []) := hv ▸ sets_ctr hr hs hl hn h0
end
section
variable {w : World} {A : Around} {E : Value → Shared → Prop} {s : Shared} {h₀ : Heap} {L : Addr} {news : List (Addr × Obj)}
theorem len_tup {t : Addr} {vs : List Value} {n k : Nat} {Q : Value → Shared → Prop} (N : News h₀ L s.heap news) (ht : (t, tupO vs n) ∈ news) (hk : vs.length = k) (hb : k < 1000) (h : ∀ u tk, Q (.int (k : Int) u) { s with toks := tk }) :
    wpAny (model prog w) A (call (.builtin "len") [.ref t]) Q E s := by
  refine len_tuple (News.isTup N ht) (by simp only [List.size_toArray]; omega) ?_
  simp only [List.size_toArray, hk]; exact h _ _
end
/-- an iterable that was made: a new list -/
def IterP (h₀ : Heap) (L : Addr) (m : Str → Option Value) (vs : List Value) (news : List (Addr × Obj)) (s : Shared) (v : Value) (s' : Shared) : Prop :=
  ∃ D k h' tk', v = .ref D ∧ s' = { s with heap := h', toks := tk' } ∧ Fr h₀ L h' m ∧ News h₀ L h' ((D, lstO vs k) :: news) ∧ ∀ q ∈ news, q.1 < D
theorem iter_cut {M : Model} {A : Around} {E : Value → Shared → Prop} {s s₀ : Shared} {h₀ h : Heap} {L : Addr} {m : Str → Option Value} {news : List (Addr × Obj)} {e : Sem Value} {Q : Value → Shared → Prop} (vs : List Value) (_ : Fr h₀ L h m) (h1 : wpAny M A e (IterP h₀ L m vs news s₀) E s)
    (h2 : ∀ D k h' tk', Fr h₀ L h' m → News h₀ L h' ((D, lstO vs k) :: news) → (∀ q ∈ news, q.1 < D) → Q (.ref D) { s₀ with heap := h', toks := tk' }) : wpAny M A e Q E s :=
  wpAny_mono h1 (fun _ _ ⟨_, _, _, _, e1, e2, F, N, l⟩ => e1 ▸ e2 ▸ h2 _ _ _ _ F N l) fun _ _ e => e
def StopHere (p : Prop) : Prop := p
theorem stop_here {p : Prop} (h : StopHere p) : p := h
local macro_rules | `(tactic| walk_at "exec For Name BinOp cons nil") => `(tactic| (k_here; refine stop_here ?_))
local macro_rules | `(tactic| walk_at "exec For Name Call cons nil") => `(tactic| (k_here; refine stop_here ?_))
local macro_rules | `(tactic| walk_at "exec Raise some none") => `(tactic| (k_here; k_dflt (refine Raise_fault rfl ?_)))

local macro_rules | `(tactic| walk_at "compareOp Is") => `(tactic| (k_here; k_dflt (refine is_none_dm (by assumption) ?_)))
section
variable {w : World} {p : Program} {loose : List Str} {mean : ExcName → Option Value} {mg mb : Str → Option Value}
theorem row_ctr {news : List (Addr × Obj)} {c dx R S Cp r : Addr} {f : Str} {tf ta0 ts tS t1 t2 t3 t4 t5 t6 t7 : Tok} {ar : Int} {rv cv : List Value} {nR nS nC n at_ : Nat} {op x : Str} {t xt ta : Tok} {p0 : Value} {ps' : List Value} {ds : List PyData} {c0 : Nat}
    (hc : (c, instObj 85 dx) ∈ news) (hdx : (dx, dictOf (codeEs w f tf ar ta0 ts R S Cp t1 t2 t3 t4 t5 t6 t7) 7) ∈ news) (hR : (R, tupO rv nR) ∈ news) (hr4 : rv.length = 4) (hS : (S, tupO [.str (Str.ofString "T.1") tS] nS) ∈ news) (hC : (Cp, tupO cv nC) ∈ news) (hc4 : cv.length = 4)
    (hat : rv[at_]? = some (.ref r)) (hr : (r, tupO (.str op t :: p0 :: ps') n) ∈ news) (hs : Shp w op x xt) (hl : x.cps.size = (p0 :: ps').length) (hn : (p0 :: ps').length < 100) (ha : x.cps.all (· < 128) = true) (h0 : x.cps[0]? = some c0)
    (hp : DmAll news (p0 :: ps') ds) (hsm : ∀ d ∈ ds, smallD d = true) (hlv : ¬ op = Str.ofString "leave") (hfull : fullD x.cps.toList ds = true) (hus : (usesD x.cps.toList ds).length < 100) (hnb : ∀ d ∈ usesD x.cps.toList ds ++ setsD x ds, notBool d = true) (hng : ∀ d ∈ goalsD op x ds at_, notBool d = true) (hpl : ∀ d ∈ ds, plainD d = true) (hat4 : at_ < 4) :
    CtrE w p loose mean mg mb 16 134 news [.ref c, .int (at_ : Int) ta] (rowD op x ds at_) (fun v tl => v = .none ∧ tl = []) := by
  (intro dp un gd cn cs a ccd cl outer A₀ base h₀ L m s Q E B F X N T hk hd hu hgd hret hexc
   refine wpAny_call ?_
   k_dflt (refine' code_def (binds := [(Str.ofString "code", .ref c), (Str.ofString "at", .int (at_ : Int) ta)]) ?k1 ?k2 ?k3 ?k4 ?k5 ?kA ?kF ?kK ?k6 ?k7 ?k8 ?k9 ?kB ?_ ?c2 ?c3 ?c4 ?c5; (case kA => exact rfl); (case kF => exact rfl); (case kK => assumption); (case k1 => k_asm); (case k2 => k_asm); (case k3 => k_asm); (case k4 => k_asm); (case k5 => k_asm); (case k6 => k_is); (case k7 => k_is); (case k8 => ktr_room); (case k9 => exact BindsTo.of_eq rfl); (case c5 => decide); (case kB => exact locs rfl); (case c2 => exact rfl); (case c3 => exact rfl); (case c4 => exact rfl); k_whole)
   intro g' L' h' FG' F' N' B' X' T'
   (try dsimp only)
   (try k_fold))
  have hdm : ∃ d0 ds', ds = d0 :: ds' ∧ Dm news p0 d0 := by cases hp with | cons a0 _ => exact ⟨_, _, rfl, a0⟩
  obtain ⟨d0, ds', rfl, hd0⟩ := hdm
  obtain ⟨sv, hsv⟩ : ∃ sv, (if c0 = 100 then p0 else .none) = sv := ⟨_, rfl⟩
  have hsd : Dm news sv (if c0 = 100 then d0 else .none) := by
    rw [← hsv]
    by_cases e : c0 = 100
    · rw [if_pos e, if_pos e]; exact hd0
    · rw [if_neg e, if_neg e]; exact .at .none
  (repeat' (first | (k_unfold; (try dsimp only)) | (k_end; wrow_close) | ((fail_if_success (fail_if_success (with_reducible show wpAny _ _ (call _ _ _) _ _ _))); first | (with_reducible (k_here; (fail_if_success (fail_if_success (with_reducible show wpAny _ _ (call (Value.ref _) [_, _]) _ _ _))); k_dflt (refine CtrE.same (by k_asm) (by k_asm) (by k_asm) (by k_asm) (by k_asm) (by exact rfl) (by ktr_room) (by ktr_units) (by assumption) (sorts_ctr (by k_mem) (by assumption) (by assumption) (by assumption) (by assumption) (by (refine DmAll.mono ?_ (by assumption); intro _ _; k_mem)) (by assumption) (by assumption) (by omega)) ?_ ?_); (intro _ _ _ _ _ _); (try dsimp only); (try k_fold); rotate_left; (intro _ _ _ _ _ _ _ _); (try dsimp only); rotate_right)) | (with_reducible (k_here; (fail_if_success (fail_if_success (with_reducible show wpAny _ _ (call (Value.ref _) [_, _]) _ _ _))); k_dflt (refine Ctr.new1 (by k_asm) (by k_asm) (by k_asm) (by k_asm) (by k_asm) (by exact rfl) (by ktr_room) (by ktr_units) (followers_ctr (by k_mem) (by assumption) (by omega) (by k_mem) (by assumption) (by assumption) (by assumption) (by assumption)) ?_); (intro _ _ _ _ _ _ _ _); (try dsimp only); (try k_fold))) | (with_reducible (k_here; (fail_if_success (fail_if_success (with_reducible show wpAny _ _ (call (Value.ref _) [_]) _ _ _))); k_dflt (refine Ctr.new (by k_asm) (by k_asm) (by k_asm) (by k_asm) (by k_asm) (by exact rfl) (by ktr_room) (by ktr_units) (uses_ctr (by k_mem) (by assumption) (by assumption) (by assumption) (by assumption) (by assumption) (by omega)) ?_); (intro _ _ _ _ _ _ _); (try dsimp only); (try k_fold))) | (with_reducible (k_here; (fail_if_success (fail_if_success (with_reducible show wpAny _ _ (call (Value.type "str") [Value.ref _]) _ _ _))); k_dflt (refine str_dm (by k_asm) (by k_asm) (by (refine Dm.mono ?_ (by assumption); intro _ _; k_mem)) (by assumption) (by assumption) (by ktr_units) ?_); intro _ _ _ _ _ _ _; (try dsimp only))) | ((fail_if_success (fail_if_success (with_reducible show wpAny _ _ (call (Value.builtin "len") _ _) _ _ _))); with_reducible (k_here; k_dflt (refine len_tup (by k_asm) (by k_dflt k_mem) (by assumption) (by first | assumption | omega) ?_); intro _ _; (try dsimp only))) | (with_reducible (k_here; (fail_if_success (fail_if_success (with_reducible show wpAny _ _ (call (Value.ref _) [_]) _ _ _))); k_dflt (refine Ctr.same (by k_asm) (by k_asm) (by k_asm) (by k_asm) (by k_asm) (by exact rfl) (by ktr_room) (by ktr_units) (sets_ctr2 (by k_mem) (by assumption) (by assumption) (by assumption) (by assumption) (by assumption)) ?_); (intro _ _ _ _ _); (try dsimp only); (try k_fold))) | (with_reducible (k_here; (fail_if_success (fail_if_success (with_reducible show wpAny _ _ (call (Value.ref 52) [Value.str _ _]) _ _ _))); k_dflt (refine fault_made (by k_asm) (by k_asm) (by k_asm) (by k_asm) (by k_asm) (by exact rfl) (by ktr_room) (by ktr_units) ?_); (intro _ _ _ _ _ _ _ _); (try dsimp only); (try k_fold))) | ((fail_if_success (fail_if_success (with_reducible show wpAny _ _ (call (Value.type "zip") _ _) _ _ _))); with_reducible (k_here; k_dflt (refine call_zipK (by k_asm) (by k_asm) (by k_mem) (by assumption) ?_); intro _ _ _ _ _)) | (with_reducible (k_here; (fail_if_success (fail_if_success (with_reducible show wpAny _ _ (call (Value.ref _) [_]) _ _ _))); k_dflt (refine Ctr.same (by k_asm) (by k_asm) (by k_asm) (by k_asm) (by k_asm) (by exact rfl) (by ktr_room) (by ktr_units) (shape_ctr (by k_mem) (by assumption) (by assumption) (by assumption)) ?_); (intro _ _ _ _ _); (try dsimp only); (try k_fold)))) | ((fail_if_success (fail_if_success (with_reducible show wpAny _ _ (subscriptTail _ _ _ _) _ _ _))); first | (with_reducible (k_here; (fail_if_success (fail_if_success (with_reducible show wpAny _ _ (subscriptTail _ _ (Value.ref _) (Value.int _ _)) _ _ _))); first | ((fail_if_success (fail_if_success (with_reducible show wpAny _ _ (subscriptTail _ _ _ (Value.int 0 _)) _ _ _))); (with_unfolding_all refine row0 (by k_asm) (by k_mem) ?_ (by with_unfolding_all rfl))) | ((fail_if_success (fail_if_success (with_reducible show wpAny _ _ (subscriptTail _ _ _ (Value.int 1 _)) _ _ _))); (with_unfolding_all refine row1 (by k_asm) (by k_mem) ?_ (by with_unfolding_all rfl))) | ((fail_if_success (fail_if_success (with_reducible show wpAny _ _ (subscriptTail _ _ _ (Value.int 2 _)) _ _ _))); (with_unfolding_all refine row2 (by k_asm) (by k_mem) ?_ (by with_unfolding_all rfl))) | ((fail_if_success (fail_if_success (with_reducible show wpAny _ _ (subscriptTail _ _ _ (Value.int 3 _)) _ _ _))); (with_unfolding_all refine row3 (by k_asm) (by k_mem) ?_ (by with_unfolding_all rfl))) | ((fail_if_success (fail_if_success (with_reducible show wpAny _ _ (subscriptTail _ _ _ (Value.int 4 _)) _ _ _))); (with_unfolding_all refine row4 (by k_asm) (by k_mem) ?_ (by with_unfolding_all rfl))) | ((fail_if_success (fail_if_success (with_reducible show wpAny _ _ (subscriptTail _ _ _ (Value.int (Nat.cast _) _)) _ _ _))); (with_unfolding_all refine row_i _ (by k_asm) (by k_mem) (by assumption) (by omega) ?_ (by with_unfolding_all rfl))))) | (with_reducible (k_here; (fail_if_success (fail_if_success (with_reducible show wpAny _ _ (subscriptTail _ _ (Value.ref _) (Value.ref _)) _ _ _))); (with_unfolding_all refine row_tail (by k_asm) (by k_asm) (by k_mem) (by assumption) ?_ (by with_unfolding_all rfl) (by (intro _; with_unfolding_all rfl))); intro _ _ _ _ _))) | ((fail_if_success (fail_if_success (with_reducible show wpAny _ _ (binaryOp _ _ _) _ _ _))); first | ((fail_if_success (fail_if_success (with_reducible show wpAny _ _ (binaryOp .Add (Value.ref _) (Value.ref _)) _ _ _))); with_reducible (k_here; k_dflt (refine addL (by k_asm) (by k_asm) (by k_mem) (by k_mem) (by simp only [List.length_nil, List.length_cons, List.length_append]; omega) ?_); intro _ _ _ _ _))) | ((fail_if_success (fail_if_success (with_reducible show wpAny _ _ (compareOp _ _ _) _ _ _))); first | ((fail_if_success (fail_if_success (with_reducible show wpAny _ _ (compareOp .NotIn _ _) _ _ _))); with_reducible (k_here; k_dflt (refine notIn_one (by k_asm) (by (refine Dm.mono ?_ (by assumption); intro _ _; k_mem)) (by k_mem) (by ktr_units) ?_)))) | walk1 | (dsimp only; walk1) | (leave1; walk_say "STEP leave1"; try dsimp only) | fail "no step"))
  rotate_left
  · (rename_i R9 U9; exact hexc (row_no1 (by assumption)) _ _ _ _ FG' U9 (RaisedX.sub R9 (by intro q9 hq9; k_mem)))
  rename sortsD _ _ _ = true => hok
  obtain ⟨us, hU, hud⟩ := uses_dm hp (by simpa using hl) (sorts_pick hok) hfull
  have hul : us.length < 100 := by rw [hud.len]; exact hus
  (repeat' (first | (k_unfold; (try dsimp only)) | (k_end; wrow_close) | ((fail_if_success (fail_if_success (with_reducible show wpAny _ _ (call _ _ _) _ _ _))); first | (with_reducible (k_here; (fail_if_success (fail_if_success (with_reducible show wpAny _ _ (call (Value.ref _) [_, _]) _ _ _))); k_dflt (refine CtrE.same (by k_asm) (by k_asm) (by k_asm) (by k_asm) (by k_asm) (by exact rfl) (by ktr_room) (by ktr_units) (by assumption) (sorts_ctr (by k_mem) (by assumption) (by assumption) (by assumption) (by assumption) (by (refine DmAll.mono ?_ (by assumption); intro _ _; k_mem)) (by assumption) (by assumption) (by omega)) ?_ ?_); (intro _ _ _ _ _ _); (try dsimp only); (try k_fold); rotate_left; (intro _ _ _ _ _ _ _ _); (try dsimp only); rotate_right)) | (with_reducible (k_here; (fail_if_success (fail_if_success (with_reducible show wpAny _ _ (call (Value.ref _) [_, _]) _ _ _))); k_dflt (refine Ctr.new1 (by k_asm) (by k_asm) (by k_asm) (by k_asm) (by k_asm) (by exact rfl) (by ktr_room) (by ktr_units) (followers_ctr (by k_mem) (by assumption) (by omega) (by k_mem) (by assumption) (by assumption) (by assumption) (by assumption)) ?_); (intro _ _ _ _ _ _ _ _); (try dsimp only); (try k_fold))) | (with_reducible (k_here; (fail_if_success (fail_if_success (with_reducible show wpAny _ _ (call (Value.ref _) [_]) _ _ _))); k_dflt (refine Ctr.new (by k_asm) (by k_asm) (by k_asm) (by k_asm) (by k_asm) (by exact rfl) (by ktr_room) (by ktr_units) (uses_ctr (by k_mem) (by assumption) (by assumption) (by assumption) (by assumption) (by assumption) (by omega)) ?_); (intro _ _ _ _ _ _ _); (try dsimp only); (try k_fold))) | (with_reducible (k_here; (fail_if_success (fail_if_success (with_reducible show wpAny _ _ (call (Value.type "str") [Value.ref _]) _ _ _))); k_dflt (refine str_dm (by k_asm) (by k_asm) (by (refine Dm.mono ?_ (by assumption); intro _ _; k_mem)) (by assumption) (by assumption) (by ktr_units) ?_); intro _ _ _ _ _ _ _; (try dsimp only))) | ((fail_if_success (fail_if_success (with_reducible show wpAny _ _ (call (Value.builtin "len") _ _) _ _ _))); with_reducible (k_here; k_dflt (refine len_tup (by k_asm) (by k_dflt k_mem) (by assumption) (by first | assumption | omega) ?_); intro _ _; (try dsimp only))) | (with_reducible (k_here; (fail_if_success (fail_if_success (with_reducible show wpAny _ _ (call (Value.ref _) [_]) _ _ _))); k_dflt (refine Ctr.same (by k_asm) (by k_asm) (by k_asm) (by k_asm) (by k_asm) (by exact rfl) (by ktr_room) (by ktr_units) (sets_ctr2 (by k_mem) (by assumption) (by assumption) (by assumption) (by assumption) (by assumption)) ?_); (intro _ _ _ _ _); (try dsimp only); (try k_fold))) | (with_reducible (k_here; (fail_if_success (fail_if_success (with_reducible show wpAny _ _ (call (Value.ref 52) [Value.str _ _]) _ _ _))); k_dflt (refine fault_made (by k_asm) (by k_asm) (by k_asm) (by k_asm) (by k_asm) (by exact rfl) (by ktr_room) (by ktr_units) ?_); (intro _ _ _ _ _ _ _ _); (try dsimp only); (try k_fold))) | ((fail_if_success (fail_if_success (with_reducible show wpAny _ _ (call (Value.type "zip") _ _) _ _ _))); with_reducible (k_here; k_dflt (refine call_zipK (by k_asm) (by k_asm) (by k_mem) (by assumption) ?_); intro _ _ _ _ _)) | (with_reducible (k_here; (fail_if_success (fail_if_success (with_reducible show wpAny _ _ (call (Value.ref _) [_]) _ _ _))); k_dflt (refine Ctr.same (by k_asm) (by k_asm) (by k_asm) (by k_asm) (by k_asm) (by exact rfl) (by ktr_room) (by ktr_units) (shape_ctr (by k_mem) (by assumption) (by assumption) (by assumption)) ?_); (intro _ _ _ _ _); (try dsimp only); (try k_fold)))) | ((fail_if_success (fail_if_success (with_reducible show wpAny _ _ (subscriptTail _ _ _ _) _ _ _))); first | (with_reducible (k_here; (fail_if_success (fail_if_success (with_reducible show wpAny _ _ (subscriptTail _ _ (Value.ref _) (Value.int _ _)) _ _ _))); first | ((fail_if_success (fail_if_success (with_reducible show wpAny _ _ (subscriptTail _ _ _ (Value.int 0 _)) _ _ _))); (with_unfolding_all refine row0 (by k_asm) (by k_mem) ?_ (by with_unfolding_all rfl))) | ((fail_if_success (fail_if_success (with_reducible show wpAny _ _ (subscriptTail _ _ _ (Value.int 1 _)) _ _ _))); (with_unfolding_all refine row1 (by k_asm) (by k_mem) ?_ (by with_unfolding_all rfl))) | ((fail_if_success (fail_if_success (with_reducible show wpAny _ _ (subscriptTail _ _ _ (Value.int 2 _)) _ _ _))); (with_unfolding_all refine row2 (by k_asm) (by k_mem) ?_ (by with_unfolding_all rfl))) | ((fail_if_success (fail_if_success (with_reducible show wpAny _ _ (subscriptTail _ _ _ (Value.int 3 _)) _ _ _))); (with_unfolding_all refine row3 (by k_asm) (by k_mem) ?_ (by with_unfolding_all rfl))) | ((fail_if_success (fail_if_success (with_reducible show wpAny _ _ (subscriptTail _ _ _ (Value.int 4 _)) _ _ _))); (with_unfolding_all refine row4 (by k_asm) (by k_mem) ?_ (by with_unfolding_all rfl))) | ((fail_if_success (fail_if_success (with_reducible show wpAny _ _ (subscriptTail _ _ _ (Value.int (Nat.cast _) _)) _ _ _))); (with_unfolding_all refine row_i _ (by k_asm) (by k_mem) (by assumption) (by omega) ?_ (by with_unfolding_all rfl))))) | (with_reducible (k_here; (fail_if_success (fail_if_success (with_reducible show wpAny _ _ (subscriptTail _ _ (Value.ref _) (Value.ref _)) _ _ _))); (with_unfolding_all refine row_tail (by k_asm) (by k_asm) (by k_mem) (by assumption) ?_ (by with_unfolding_all rfl) (by (intro _; with_unfolding_all rfl))); intro _ _ _ _ _))) | ((fail_if_success (fail_if_success (with_reducible show wpAny _ _ (binaryOp _ _ _) _ _ _))); first | ((fail_if_success (fail_if_success (with_reducible show wpAny _ _ (binaryOp .Add (Value.ref _) (Value.ref _)) _ _ _))); with_reducible (k_here; k_dflt (refine addL (by k_asm) (by k_asm) (by k_mem) (by k_mem) (by simp only [List.length_nil, List.length_cons, List.length_append]; omega) ?_); intro _ _ _ _ _))) | ((fail_if_success (fail_if_success (with_reducible show wpAny _ _ (compareOp _ _ _) _ _ _))); first | ((fail_if_success (fail_if_success (with_reducible show wpAny _ _ (compareOp .NotIn _ _) _ _ _))); with_reducible (k_here; k_dflt (refine notIn_one (by k_asm) (by (refine Dm.mono ?_ (by assumption); intro _ _; k_mem)) (by k_mem) (by ktr_units) ?_)))) | walk1 | (dsimp only; walk1) | (leave1; walk_say "STEP leave1"; try dsimp only) | fail "no step"))
  show wpAny _ _ _ _ _ _
  (rename Fr _ _ _ _ => lF')
  (with_unfolding_all refine' For_invVF lF' ?_ ?_ ?_)
  · exact rfl
  · exact rfl
  refine iter_cut (s₀ := s) (news := news) (us ++ (if isZ (if c0 = 100 then d0 else .none) then [] else [sv])) lF' ?_ ?_
  · (repeat' (first | (k_unfold; (try dsimp only)) | (k_end; wrow_close) | ((fail_if_success (fail_if_success (with_reducible show wpAny _ _ (call _ _ _) _ _ _))); first | (with_reducible (k_here; (fail_if_success (fail_if_success (with_reducible show wpAny _ _ (call (Value.ref _) [_, _]) _ _ _))); k_dflt (refine CtrE.same (by k_asm) (by k_asm) (by k_asm) (by k_asm) (by k_asm) (by exact rfl) (by ktr_room) (by ktr_units) (by assumption) (sorts_ctr (by k_mem) (by assumption) (by assumption) (by assumption) (by assumption) (by (refine DmAll.mono ?_ (by assumption); intro _ _; k_mem)) (by assumption) (by assumption) (by omega)) ?_ ?_); (intro _ _ _ _ _ _); (try dsimp only); (try k_fold); rotate_left; (intro _ _ _ _ _ _ _ _); (try dsimp only); rotate_right)) | (with_reducible (k_here; (fail_if_success (fail_if_success (with_reducible show wpAny _ _ (call (Value.ref _) [_, _]) _ _ _))); k_dflt (refine Ctr.new1 (by k_asm) (by k_asm) (by k_asm) (by k_asm) (by k_asm) (by exact rfl) (by ktr_room) (by ktr_units) (followers_ctr (by k_mem) (by assumption) (by omega) (by k_mem) (by assumption) (by assumption) (by assumption) (by assumption)) ?_); (intro _ _ _ _ _ _ _ _); (try dsimp only); (try k_fold))) | (with_reducible (k_here; (fail_if_success (fail_if_success (with_reducible show wpAny _ _ (call (Value.ref _) [_]) _ _ _))); k_dflt (refine Ctr.new (by k_asm) (by k_asm) (by k_asm) (by k_asm) (by k_asm) (by exact rfl) (by ktr_room) (by ktr_units) (uses_ctr (by k_mem) (by assumption) (by assumption) (by assumption) (by assumption) (by assumption) (by omega)) ?_); (intro _ _ _ _ _ _ _); (try dsimp only); (try k_fold))) | (with_reducible (k_here; (fail_if_success (fail_if_success (with_reducible show wpAny _ _ (call (Value.type "str") [Value.ref _]) _ _ _))); k_dflt (refine str_dm (by k_asm) (by k_asm) (by (refine Dm.mono ?_ (by assumption); intro _ _; k_mem)) (by assumption) (by assumption) (by ktr_units) ?_); intro _ _ _ _ _ _ _; (try dsimp only))) | ((fail_if_success (fail_if_success (with_reducible show wpAny _ _ (call (Value.builtin "len") _ _) _ _ _))); with_reducible (k_here; k_dflt (refine len_tup (by k_asm) (by k_dflt k_mem) (by assumption) (by first | assumption | omega) ?_); intro _ _; (try dsimp only))) | (with_reducible (k_here; (fail_if_success (fail_if_success (with_reducible show wpAny _ _ (call (Value.ref _) [_]) _ _ _))); k_dflt (refine Ctr.same (by k_asm) (by k_asm) (by k_asm) (by k_asm) (by k_asm) (by exact rfl) (by ktr_room) (by ktr_units) (sets_ctr2 (by k_mem) (by assumption) (by assumption) (by assumption) (by assumption) (by assumption)) ?_); (intro _ _ _ _ _); (try dsimp only); (try k_fold))) | (with_reducible (k_here; (fail_if_success (fail_if_success (with_reducible show wpAny _ _ (call (Value.ref 52) [Value.str _ _]) _ _ _))); k_dflt (refine fault_made (by k_asm) (by k_asm) (by k_asm) (by k_asm) (by k_asm) (by exact rfl) (by ktr_room) (by ktr_units) ?_); (intro _ _ _ _ _ _ _ _); (try dsimp only); (try k_fold))) | ((fail_if_success (fail_if_success (with_reducible show wpAny _ _ (call (Value.type "zip") _ _) _ _ _))); with_reducible (k_here; k_dflt (refine call_zipK (by k_asm) (by k_asm) (by k_mem) (by assumption) ?_); intro _ _ _ _ _)) | (with_reducible (k_here; (fail_if_success (fail_if_success (with_reducible show wpAny _ _ (call (Value.ref _) [_]) _ _ _))); k_dflt (refine Ctr.same (by k_asm) (by k_asm) (by k_asm) (by k_asm) (by k_asm) (by exact rfl) (by ktr_room) (by ktr_units) (shape_ctr (by k_mem) (by assumption) (by assumption) (by assumption)) ?_); (intro _ _ _ _ _); (try dsimp only); (try k_fold)))) | ((fail_if_success (fail_if_success (with_reducible show wpAny _ _ (subscriptTail _ _ _ _) _ _ _))); first | (with_reducible (k_here; (fail_if_success (fail_if_success (with_reducible show wpAny _ _ (subscriptTail _ _ (Value.ref _) (Value.int _ _)) _ _ _))); first | ((fail_if_success (fail_if_success (with_reducible show wpAny _ _ (subscriptTail _ _ _ (Value.int 0 _)) _ _ _))); (with_unfolding_all refine row0 (by k_asm) (by k_mem) ?_ (by with_unfolding_all rfl))) | ((fail_if_success (fail_if_success (with_reducible show wpAny _ _ (subscriptTail _ _ _ (Value.int 1 _)) _ _ _))); (with_unfolding_all refine row1 (by k_asm) (by k_mem) ?_ (by with_unfolding_all rfl))) | ((fail_if_success (fail_if_success (with_reducible show wpAny _ _ (subscriptTail _ _ _ (Value.int 2 _)) _ _ _))); (with_unfolding_all refine row2 (by k_asm) (by k_mem) ?_ (by with_unfolding_all rfl))) | ((fail_if_success (fail_if_success (with_reducible show wpAny _ _ (subscriptTail _ _ _ (Value.int 3 _)) _ _ _))); (with_unfolding_all refine row3 (by k_asm) (by k_mem) ?_ (by with_unfolding_all rfl))) | ((fail_if_success (fail_if_success (with_reducible show wpAny _ _ (subscriptTail _ _ _ (Value.int 4 _)) _ _ _))); (with_unfolding_all refine row4 (by k_asm) (by k_mem) ?_ (by with_unfolding_all rfl))) | ((fail_if_success (fail_if_success (with_reducible show wpAny _ _ (subscriptTail _ _ _ (Value.int (Nat.cast _) _)) _ _ _))); (with_unfolding_all refine row_i _ (by k_asm) (by k_mem) (by assumption) (by omega) ?_ (by with_unfolding_all rfl))))) | (with_reducible (k_here; (fail_if_success (fail_if_success (with_reducible show wpAny _ _ (subscriptTail _ _ (Value.ref _) (Value.ref _)) _ _ _))); (with_unfolding_all refine row_tail (by k_asm) (by k_asm) (by k_mem) (by assumption) ?_ (by with_unfolding_all rfl) (by (intro _; with_unfolding_all rfl))); intro _ _ _ _ _))) | ((fail_if_success (fail_if_success (with_reducible show wpAny _ _ (binaryOp _ _ _) _ _ _))); first | ((fail_if_success (fail_if_success (with_reducible show wpAny _ _ (binaryOp .Add (Value.ref _) (Value.ref _)) _ _ _))); with_reducible (k_here; k_dflt (refine addL (by k_asm) (by k_asm) (by k_mem) (by k_mem) (by simp only [List.length_nil, List.length_cons, List.length_append]; omega) ?_); intro _ _ _ _ _))) | ((fail_if_success (fail_if_success (with_reducible show wpAny _ _ (compareOp _ _ _) _ _ _))); first | ((fail_if_success (fail_if_success (with_reducible show wpAny _ _ (compareOp .NotIn _ _) _ _ _))); with_reducible (k_here; k_dflt (refine notIn_one (by k_asm) (by (refine Dm.mono ?_ (by assumption); intro _ _; k_mem)) (by k_mem) (by ktr_units) ?_)))) | walk1 | (dsimp only; walk1) | (leave1; walk_say "STEP leave1"; try dsimp only) | fail "no step"))
    · rename isZ _ = _ => hz
      rename_i D9 h9 F9 N9 l9
      rw [if_pos hz]
      exact ⟨D9, _, _, _, rfl, rfl, F9, News.sub N9 (by intro q9 hq9; rcases List.mem_cons.mp hq9 with rfl | hq9; exact .head _; exact .tail _ (by k_mem)), fun q hq => l9 q (by k_mem)⟩
    · rename isZ _ = _ => hz
      rename_i D9 h9 F9 N9 l9
      rw [if_neg (by rw [hz]; decide)]
      exact ⟨D9, _, _, _, rfl, rfl, F9, News.sub N9 (by intro q9 hq9; rcases List.mem_cons.mp hq9 with rfl | hq9; exact .head _; exact .tail _ (by k_mem)), fun q hq => l9 q (by k_mem)⟩
  intro D k h1 tk1 F1 N1 lt1
  have hrd : DmAll news (us ++ (if isZ (if c0 = 100 then d0 else .none) then [] else [sv])) (usesD x.cps.toList (d0 :: ds') ++ setsD x (d0 :: ds')) := by
    refine hud.append ?_
    rw [← hsv]
    unfold setsD
    rw [h0]
    by_cases e : c0 = 100
    · simp only [e, if_true, plain_z (hpl d0 (.head _))]
      exact .cons hd0 .nil
    · simp only [if_neg e, Option.some.injEq]
      exact .nil
  refine listLoop (fun i => ((usesD x.cps.toList (d0 :: ds') ++ setsD x (d0 :: ds')).take i).all regD = true) rfl F1 N1 (.head _) (by simp) ?_ ?_
  · intro i v h tk I oI hv hP F2 N2 lt2
    obtain ⟨d, hd, hdv⟩ := hrd.get hv
    have hnbd := hnb d (List.mem_of_getElem? hd)
    cases hdv with
    | «at» cv =>
      cases cv with
      | int =>
        (repeat' (first | (k_unfold; (try dsimp only)) | (k_end; wrow_close) | ((fail_if_success (fail_if_success (with_reducible show wpAny _ _ (call _ _ _) _ _ _))); first | (with_reducible (k_here; (fail_if_success (fail_if_success (with_reducible show wpAny _ _ (call (Value.ref _) [_, _]) _ _ _))); k_dflt (refine CtrE.same (by k_asm) (by k_asm) (by k_asm) (by k_asm) (by k_asm) (by exact rfl) (by ktr_room) (by ktr_units) (by assumption) (sorts_ctr (by k_mem) (by assumption) (by assumption) (by assumption) (by assumption) (by (refine DmAll.mono ?_ (by assumption); intro _ _; k_mem)) (by assumption) (by assumption) (by omega)) ?_ ?_); (intro _ _ _ _ _ _); (try dsimp only); (try k_fold); rotate_left; (intro _ _ _ _ _ _ _ _); (try dsimp only); rotate_right)) | (with_reducible (k_here; (fail_if_success (fail_if_success (with_reducible show wpAny _ _ (call (Value.ref _) [_, _]) _ _ _))); k_dflt (refine Ctr.new1 (by k_asm) (by k_asm) (by k_asm) (by k_asm) (by k_asm) (by exact rfl) (by ktr_room) (by ktr_units) (followers_ctr (by k_mem) (by assumption) (by omega) (by k_mem) (by assumption) (by assumption) (by assumption) (by assumption)) ?_); (intro _ _ _ _ _ _ _ _); (try dsimp only); (try k_fold))) | (with_reducible (k_here; (fail_if_success (fail_if_success (with_reducible show wpAny _ _ (call (Value.ref _) [_]) _ _ _))); k_dflt (refine Ctr.new (by k_asm) (by k_asm) (by k_asm) (by k_asm) (by k_asm) (by exact rfl) (by ktr_room) (by ktr_units) (uses_ctr (by k_mem) (by assumption) (by assumption) (by assumption) (by assumption) (by assumption) (by omega)) ?_); (intro _ _ _ _ _ _ _); (try dsimp only); (try k_fold))) | (with_reducible (k_here; (fail_if_success (fail_if_success (with_reducible show wpAny _ _ (call (Value.type "str") [Value.ref _]) _ _ _))); k_dflt (refine str_dm (by k_asm) (by k_asm) (by (refine Dm.mono ?_ (by assumption); intro _ _; k_mem)) (by assumption) (by assumption) (by ktr_units) ?_); intro _ _ _ _ _ _ _; (try dsimp only))) | ((fail_if_success (fail_if_success (with_reducible show wpAny _ _ (call (Value.builtin "len") _ _) _ _ _))); with_reducible (k_here; k_dflt (refine len_tup (by k_asm) (by k_dflt k_mem) (by assumption) (by first | assumption | omega) ?_); intro _ _; (try dsimp only))) | (with_reducible (k_here; (fail_if_success (fail_if_success (with_reducible show wpAny _ _ (call (Value.ref _) [_]) _ _ _))); k_dflt (refine Ctr.same (by k_asm) (by k_asm) (by k_asm) (by k_asm) (by k_asm) (by exact rfl) (by ktr_room) (by ktr_units) (sets_ctr2 (by k_mem) (by assumption) (by assumption) (by assumption) (by assumption) (by assumption)) ?_); (intro _ _ _ _ _); (try dsimp only); (try k_fold))) | (with_reducible (k_here; (fail_if_success (fail_if_success (with_reducible show wpAny _ _ (call (Value.ref 52) [Value.str _ _]) _ _ _))); k_dflt (refine fault_made (by k_asm) (by k_asm) (by k_asm) (by k_asm) (by k_asm) (by exact rfl) (by ktr_room) (by ktr_units) ?_); (intro _ _ _ _ _ _ _ _); (try dsimp only); (try k_fold))) | ((fail_if_success (fail_if_success (with_reducible show wpAny _ _ (call (Value.type "zip") _ _) _ _ _))); with_reducible (k_here; k_dflt (refine call_zipK (by k_asm) (by k_asm) (by k_mem) (by assumption) ?_); intro _ _ _ _ _)) | (with_reducible (k_here; (fail_if_success (fail_if_success (with_reducible show wpAny _ _ (call (Value.ref _) [_]) _ _ _))); k_dflt (refine Ctr.same (by k_asm) (by k_asm) (by k_asm) (by k_asm) (by k_asm) (by exact rfl) (by ktr_room) (by ktr_units) (shape_ctr (by k_mem) (by assumption) (by assumption) (by assumption)) ?_); (intro _ _ _ _ _); (try dsimp only); (try k_fold)))) | ((fail_if_success (fail_if_success (with_reducible show wpAny _ _ (subscriptTail _ _ _ _) _ _ _))); first | (with_reducible (k_here; (fail_if_success (fail_if_success (with_reducible show wpAny _ _ (subscriptTail _ _ (Value.ref _) (Value.int _ _)) _ _ _))); first | ((fail_if_success (fail_if_success (with_reducible show wpAny _ _ (subscriptTail _ _ _ (Value.int 0 _)) _ _ _))); (with_unfolding_all refine row0 (by k_asm) (by k_mem) ?_ (by with_unfolding_all rfl))) | ((fail_if_success (fail_if_success (with_reducible show wpAny _ _ (subscriptTail _ _ _ (Value.int 1 _)) _ _ _))); (with_unfolding_all refine row1 (by k_asm) (by k_mem) ?_ (by with_unfolding_all rfl))) | ((fail_if_success (fail_if_success (with_reducible show wpAny _ _ (subscriptTail _ _ _ (Value.int 2 _)) _ _ _))); (with_unfolding_all refine row2 (by k_asm) (by k_mem) ?_ (by with_unfolding_all rfl))) | ((fail_if_success (fail_if_success (with_reducible show wpAny _ _ (subscriptTail _ _ _ (Value.int 3 _)) _ _ _))); (with_unfolding_all refine row3 (by k_asm) (by k_mem) ?_ (by with_unfolding_all rfl))) | ((fail_if_success (fail_if_success (with_reducible show wpAny _ _ (subscriptTail _ _ _ (Value.int 4 _)) _ _ _))); (with_unfolding_all refine row4 (by k_asm) (by k_mem) ?_ (by with_unfolding_all rfl))) | ((fail_if_success (fail_if_success (with_reducible show wpAny _ _ (subscriptTail _ _ _ (Value.int (Nat.cast _) _)) _ _ _))); (with_unfolding_all refine row_i _ (by k_asm) (by k_mem) (by assumption) (by omega) ?_ (by with_unfolding_all rfl))))) | (with_reducible (k_here; (fail_if_success (fail_if_success (with_reducible show wpAny _ _ (subscriptTail _ _ (Value.ref _) (Value.ref _)) _ _ _))); (with_unfolding_all refine row_tail (by k_asm) (by k_asm) (by k_mem) (by assumption) ?_ (by with_unfolding_all rfl) (by (intro _; with_unfolding_all rfl))); intro _ _ _ _ _))) | ((fail_if_success (fail_if_success (with_reducible show wpAny _ _ (binaryOp _ _ _) _ _ _))); first | ((fail_if_success (fail_if_success (with_reducible show wpAny _ _ (binaryOp .Add (Value.ref _) (Value.ref _)) _ _ _))); with_reducible (k_here; k_dflt (refine addL (by k_asm) (by k_asm) (by k_mem) (by k_mem) (by simp only [List.length_nil, List.length_cons, List.length_append]; omega) ?_); intro _ _ _ _ _))) | ((fail_if_success (fail_if_success (with_reducible show wpAny _ _ (compareOp _ _ _) _ _ _))); first | ((fail_if_success (fail_if_success (with_reducible show wpAny _ _ (compareOp .NotIn _ _) _ _ _))); with_reducible (k_here; k_dflt (refine notIn_one (by k_asm) (by (refine Dm.mono ?_ (by assumption); intro _ _; k_mem)) (by k_mem) (by ktr_units) ?_)))) | walk1 | (dsimp only; walk1) | (leave1; walk_say "STEP leave1"; try dsimp only) | fail "no step"))
        · exact ⟨_, _, rfl, F2, N2, take_all hP hd (by simp only [regD, Bool.and_eq_true, decide_eq_true_eq]; constructor <;> assumption)⟩
        · (k_dflt (refine raise_end (by k_asm) (by k_asm) (by k_asm) (by assumption) (by rfl) ?_); intro h9 R9 U9; exact hexc (row_no2 hd (by simp only [regD, Bool.and_eq_false_iff, decide_eq_false_iff_not]; first | exact .inr (by assumption) | exact .inl (by assumption))) _ _ _ _ FG' U9 (R9.sub (by intro q9 hq9; k_mem)))
        · (k_dflt (refine raise_end (by k_asm) (by k_asm) (by k_asm) (by assumption) (by rfl) ?_); intro h9 R9 U9; exact hexc (row_no2 hd (by simp only [regD, Bool.and_eq_false_iff, decide_eq_false_iff_not]; first | exact .inr (by assumption) | exact .inl (by assumption))) _ _ _ _ FG' U9 (R9.sub (by intro q9 hq9; k_mem)))
      | bool => cases hnbd
      | str =>
        (repeat' (first | (k_unfold; (try dsimp only)) | (k_end; wrow_close) | ((fail_if_success (fail_if_success (with_reducible show wpAny _ _ (call _ _ _) _ _ _))); first | (with_reducible (k_here; (fail_if_success (fail_if_success (with_reducible show wpAny _ _ (call (Value.ref _) [_, _]) _ _ _))); k_dflt (refine CtrE.same (by k_asm) (by k_asm) (by k_asm) (by k_asm) (by k_asm) (by exact rfl) (by ktr_room) (by ktr_units) (by assumption) (sorts_ctr (by k_mem) (by assumption) (by assumption) (by assumption) (by assumption) (by (refine DmAll.mono ?_ (by assumption); intro _ _; k_mem)) (by assumption) (by assumption) (by omega)) ?_ ?_); (intro _ _ _ _ _ _); (try dsimp only); (try k_fold); rotate_left; (intro _ _ _ _ _ _ _ _); (try dsimp only); rotate_right)) | (with_reducible (k_here; (fail_if_success (fail_if_success (with_reducible show wpAny _ _ (call (Value.ref _) [_, _]) _ _ _))); k_dflt (refine Ctr.new1 (by k_asm) (by k_asm) (by k_asm) (by k_asm) (by k_asm) (by exact rfl) (by ktr_room) (by ktr_units) (followers_ctr (by k_mem) (by assumption) (by omega) (by k_mem) (by assumption) (by assumption) (by assumption) (by assumption)) ?_); (intro _ _ _ _ _ _ _ _); (try dsimp only); (try k_fold))) | (with_reducible (k_here; (fail_if_success (fail_if_success (with_reducible show wpAny _ _ (call (Value.ref _) [_]) _ _ _))); k_dflt (refine Ctr.new (by k_asm) (by k_asm) (by k_asm) (by k_asm) (by k_asm) (by exact rfl) (by ktr_room) (by ktr_units) (uses_ctr (by k_mem) (by assumption) (by assumption) (by assumption) (by assumption) (by assumption) (by omega)) ?_); (intro _ _ _ _ _ _ _); (try dsimp only); (try k_fold))) | (with_reducible (k_here; (fail_if_success (fail_if_success (with_reducible show wpAny _ _ (call (Value.type "str") [Value.ref _]) _ _ _))); k_dflt (refine str_dm (by k_asm) (by k_asm) (by (refine Dm.mono ?_ (by assumption); intro _ _; k_mem)) (by assumption) (by assumption) (by ktr_units) ?_); intro _ _ _ _ _ _ _; (try dsimp only))) | ((fail_if_success (fail_if_success (with_reducible show wpAny _ _ (call (Value.builtin "len") _ _) _ _ _))); with_reducible (k_here; k_dflt (refine len_tup (by k_asm) (by k_dflt k_mem) (by assumption) (by first | assumption | omega) ?_); intro _ _; (try dsimp only))) | (with_reducible (k_here; (fail_if_success (fail_if_success (with_reducible show wpAny _ _ (call (Value.ref _) [_]) _ _ _))); k_dflt (refine Ctr.same (by k_asm) (by k_asm) (by k_asm) (by k_asm) (by k_asm) (by exact rfl) (by ktr_room) (by ktr_units) (sets_ctr2 (by k_mem) (by assumption) (by assumption) (by assumption) (by assumption) (by assumption)) ?_); (intro _ _ _ _ _); (try dsimp only); (try k_fold))) | (with_reducible (k_here; (fail_if_success (fail_if_success (with_reducible show wpAny _ _ (call (Value.ref 52) [Value.str _ _]) _ _ _))); k_dflt (refine fault_made (by k_asm) (by k_asm) (by k_asm) (by k_asm) (by k_asm) (by exact rfl) (by ktr_room) (by ktr_units) ?_); (intro _ _ _ _ _ _ _ _); (try dsimp only); (try k_fold))) | ((fail_if_success (fail_if_success (with_reducible show wpAny _ _ (call (Value.type "zip") _ _) _ _ _))); with_reducible (k_here; k_dflt (refine call_zipK (by k_asm) (by k_asm) (by k_mem) (by assumption) ?_); intro _ _ _ _ _)) | (with_reducible (k_here; (fail_if_success (fail_if_success (with_reducible show wpAny _ _ (call (Value.ref _) [_]) _ _ _))); k_dflt (refine Ctr.same (by k_asm) (by k_asm) (by k_asm) (by k_asm) (by k_asm) (by exact rfl) (by ktr_room) (by ktr_units) (shape_ctr (by k_mem) (by assumption) (by assumption) (by assumption)) ?_); (intro _ _ _ _ _); (try dsimp only); (try k_fold)))) | ((fail_if_success (fail_if_success (with_reducible show wpAny _ _ (subscriptTail _ _ _ _) _ _ _))); first | (with_reducible (k_here; (fail_if_success (fail_if_success (with_reducible show wpAny _ _ (subscriptTail _ _ (Value.ref _) (Value.int _ _)) _ _ _))); first | ((fail_if_success (fail_if_success (with_reducible show wpAny _ _ (subscriptTail _ _ _ (Value.int 0 _)) _ _ _))); (with_unfolding_all refine row0 (by k_asm) (by k_mem) ?_ (by with_unfolding_all rfl))) | ((fail_if_success (fail_if_success (with_reducible show wpAny _ _ (subscriptTail _ _ _ (Value.int 1 _)) _ _ _))); (with_unfolding_all refine row1 (by k_asm) (by k_mem) ?_ (by with_unfolding_all rfl))) | ((fail_if_success (fail_if_success (with_reducible show wpAny _ _ (subscriptTail _ _ _ (Value.int 2 _)) _ _ _))); (with_unfolding_all refine row2 (by k_asm) (by k_mem) ?_ (by with_unfolding_all rfl))) | ((fail_if_success (fail_if_success (with_reducible show wpAny _ _ (subscriptTail _ _ _ (Value.int 3 _)) _ _ _))); (with_unfolding_all refine row3 (by k_asm) (by k_mem) ?_ (by with_unfolding_all rfl))) | ((fail_if_success (fail_if_success (with_reducible show wpAny _ _ (subscriptTail _ _ _ (Value.int 4 _)) _ _ _))); (with_unfolding_all refine row4 (by k_asm) (by k_mem) ?_ (by with_unfolding_all rfl))) | ((fail_if_success (fail_if_success (with_reducible show wpAny _ _ (subscriptTail _ _ _ (Value.int (Nat.cast _) _)) _ _ _))); (with_unfolding_all refine row_i _ (by k_asm) (by k_mem) (by assumption) (by omega) ?_ (by with_unfolding_all rfl))))) | (with_reducible (k_here; (fail_if_success (fail_if_success (with_reducible show wpAny _ _ (subscriptTail _ _ (Value.ref _) (Value.ref _)) _ _ _))); (with_unfolding_all refine row_tail (by k_asm) (by k_asm) (by k_mem) (by assumption) ?_ (by with_unfolding_all rfl) (by (intro _; with_unfolding_all rfl))); intro _ _ _ _ _))) | ((fail_if_success (fail_if_success (with_reducible show wpAny _ _ (binaryOp _ _ _) _ _ _))); first | ((fail_if_success (fail_if_success (with_reducible show wpAny _ _ (binaryOp .Add (Value.ref _) (Value.ref _)) _ _ _))); with_reducible (k_here; k_dflt (refine addL (by k_asm) (by k_asm) (by k_mem) (by k_mem) (by simp only [List.length_nil, List.length_cons, List.length_append]; omega) ?_); intro _ _ _ _ _))) | ((fail_if_success (fail_if_success (with_reducible show wpAny _ _ (compareOp _ _ _) _ _ _))); first | ((fail_if_success (fail_if_success (with_reducible show wpAny _ _ (compareOp .NotIn _ _) _ _ _))); with_reducible (k_here; k_dflt (refine notIn_one (by k_asm) (by (refine Dm.mono ?_ (by assumption); intro _ _; k_mem)) (by k_mem) (by ktr_units) ?_)))) | walk1 | (dsimp only; walk1) | (leave1; walk_say "STEP leave1"; try dsimp only) | fail "no step"))
        (k_dflt (refine raise_end (by k_asm) (by k_asm) (by k_asm) (by assumption) (by rfl) ?_); intro h9 R9 U9; exact hexc (row_no2 hd rfl) _ _ _ _ FG' U9 (R9.sub (by intro q9 hq9; k_mem)))
      | none =>
        (repeat' (first | (k_unfold; (try dsimp only)) | (k_end; wrow_close) | ((fail_if_success (fail_if_success (with_reducible show wpAny _ _ (call _ _ _) _ _ _))); first | (with_reducible (k_here; (fail_if_success (fail_if_success (with_reducible show wpAny _ _ (call (Value.ref _) [_, _]) _ _ _))); k_dflt (refine CtrE.same (by k_asm) (by k_asm) (by k_asm) (by k_asm) (by k_asm) (by exact rfl) (by ktr_room) (by ktr_units) (by assumption) (sorts_ctr (by k_mem) (by assumption) (by assumption) (by assumption) (by assumption) (by (refine DmAll.mono ?_ (by assumption); intro _ _; k_mem)) (by assumption) (by assumption) (by omega)) ?_ ?_); (intro _ _ _ _ _ _); (try dsimp only); (try k_fold); rotate_left; (intro _ _ _ _ _ _ _ _); (try dsimp only); rotate_right)) | (with_reducible (k_here; (fail_if_success (fail_if_success (with_reducible show wpAny _ _ (call (Value.ref _) [_, _]) _ _ _))); k_dflt (refine Ctr.new1 (by k_asm) (by k_asm) (by k_asm) (by k_asm) (by k_asm) (by exact rfl) (by ktr_room) (by ktr_units) (followers_ctr (by k_mem) (by assumption) (by omega) (by k_mem) (by assumption) (by assumption) (by assumption) (by assumption)) ?_); (intro _ _ _ _ _ _ _ _); (try dsimp only); (try k_fold))) | (with_reducible (k_here; (fail_if_success (fail_if_success (with_reducible show wpAny _ _ (call (Value.ref _) [_]) _ _ _))); k_dflt (refine Ctr.new (by k_asm) (by k_asm) (by k_asm) (by k_asm) (by k_asm) (by exact rfl) (by ktr_room) (by ktr_units) (uses_ctr (by k_mem) (by assumption) (by assumption) (by assumption) (by assumption) (by assumption) (by omega)) ?_); (intro _ _ _ _ _ _ _); (try dsimp only); (try k_fold))) | (with_reducible (k_here; (fail_if_success (fail_if_success (with_reducible show wpAny _ _ (call (Value.type "str") [Value.ref _]) _ _ _))); k_dflt (refine str_dm (by k_asm) (by k_asm) (by (refine Dm.mono ?_ (by assumption); intro _ _; k_mem)) (by assumption) (by assumption) (by ktr_units) ?_); intro _ _ _ _ _ _ _; (try dsimp only))) | ((fail_if_success (fail_if_success (with_reducible show wpAny _ _ (call (Value.builtin "len") _ _) _ _ _))); with_reducible (k_here; k_dflt (refine len_tup (by k_asm) (by k_dflt k_mem) (by assumption) (by first | assumption | omega) ?_); intro _ _; (try dsimp only))) | (with_reducible (k_here; (fail_if_success (fail_if_success (with_reducible show wpAny _ _ (call (Value.ref _) [_]) _ _ _))); k_dflt (refine Ctr.same (by k_asm) (by k_asm) (by k_asm) (by k_asm) (by k_asm) (by exact rfl) (by ktr_room) (by ktr_units) (sets_ctr2 (by k_mem) (by assumption) (by assumption) (by assumption) (by assumption) (by assumption)) ?_); (intro _ _ _ _ _); (try dsimp only); (try k_fold))) | (with_reducible (k_here; (fail_if_success (fail_if_success (with_reducible show wpAny _ _ (call (Value.ref 52) [Value.str _ _]) _ _ _))); k_dflt (refine fault_made (by k_asm) (by k_asm) (by k_asm) (by k_asm) (by k_asm) (by exact rfl) (by ktr_room) (by ktr_units) ?_); (intro _ _ _ _ _ _ _ _); (try dsimp only); (try k_fold))) | ((fail_if_success (fail_if_success (with_reducible show wpAny _ _ (call (Value.type "zip") _ _) _ _ _))); with_reducible (k_here; k_dflt (refine call_zipK (by k_asm) (by k_asm) (by k_mem) (by assumption) ?_); intro _ _ _ _ _)) | (with_reducible (k_here; (fail_if_success (fail_if_success (with_reducible show wpAny _ _ (call (Value.ref _) [_]) _ _ _))); k_dflt (refine Ctr.same (by k_asm) (by k_asm) (by k_asm) (by k_asm) (by k_asm) (by exact rfl) (by ktr_room) (by ktr_units) (shape_ctr (by k_mem) (by assumption) (by assumption) (by assumption)) ?_); (intro _ _ _ _ _); (try dsimp only); (try k_fold)))) | ((fail_if_success (fail_if_success (with_reducible show wpAny _ _ (subscriptTail _ _ _ _) _ _ _))); first | (with_reducible (k_here; (fail_if_success (fail_if_success (with_reducible show wpAny _ _ (subscriptTail _ _ (Value.ref _) (Value.int _ _)) _ _ _))); first | ((fail_if_success (fail_if_success (with_reducible show wpAny _ _ (subscriptTail _ _ _ (Value.int 0 _)) _ _ _))); (with_unfolding_all refine row0 (by k_asm) (by k_mem) ?_ (by with_unfolding_all rfl))) | ((fail_if_success (fail_if_success (with_reducible show wpAny _ _ (subscriptTail _ _ _ (Value.int 1 _)) _ _ _))); (with_unfolding_all refine row1 (by k_asm) (by k_mem) ?_ (by with_unfolding_all rfl))) | ((fail_if_success (fail_if_success (with_reducible show wpAny _ _ (subscriptTail _ _ _ (Value.int 2 _)) _ _ _))); (with_unfolding_all refine row2 (by k_asm) (by k_mem) ?_ (by with_unfolding_all rfl))) | ((fail_if_success (fail_if_success (with_reducible show wpAny _ _ (subscriptTail _ _ _ (Value.int 3 _)) _ _ _))); (with_unfolding_all refine row3 (by k_asm) (by k_mem) ?_ (by with_unfolding_all rfl))) | ((fail_if_success (fail_if_success (with_reducible show wpAny _ _ (subscriptTail _ _ _ (Value.int 4 _)) _ _ _))); (with_unfolding_all refine row4 (by k_asm) (by k_mem) ?_ (by with_unfolding_all rfl))) | ((fail_if_success (fail_if_success (with_reducible show wpAny _ _ (subscriptTail _ _ _ (Value.int (Nat.cast _) _)) _ _ _))); (with_unfolding_all refine row_i _ (by k_asm) (by k_mem) (by assumption) (by omega) ?_ (by with_unfolding_all rfl))))) | (with_reducible (k_here; (fail_if_success (fail_if_success (with_reducible show wpAny _ _ (subscriptTail _ _ (Value.ref _) (Value.ref _)) _ _ _))); (with_unfolding_all refine row_tail (by k_asm) (by k_asm) (by k_mem) (by assumption) ?_ (by with_unfolding_all rfl) (by (intro _; with_unfolding_all rfl))); intro _ _ _ _ _))) | ((fail_if_success (fail_if_success (with_reducible show wpAny _ _ (binaryOp _ _ _) _ _ _))); first | ((fail_if_success (fail_if_success (with_reducible show wpAny _ _ (binaryOp .Add (Value.ref _) (Value.ref _)) _ _ _))); with_reducible (k_here; k_dflt (refine addL (by k_asm) (by k_asm) (by k_mem) (by k_mem) (by simp only [List.length_nil, List.length_cons, List.length_append]; omega) ?_); intro _ _ _ _ _))) | ((fail_if_success (fail_if_success (with_reducible show wpAny _ _ (compareOp _ _ _) _ _ _))); first | ((fail_if_success (fail_if_success (with_reducible show wpAny _ _ (compareOp .NotIn _ _) _ _ _))); with_reducible (k_here; k_dflt (refine notIn_one (by k_asm) (by (refine Dm.mono ?_ (by assumption); intro _ _; k_mem)) (by k_mem) (by ktr_units) ?_)))) | walk1 | (dsimp only; walk1) | (leave1; walk_say "STEP leave1"; try dsimp only) | fail "no step"))
        (k_dflt (refine raise_end (by k_asm) (by k_asm) (by k_asm) (by assumption) (by rfl) ?_); intro h9 R9 U9; exact hexc (row_no2 hd rfl) _ _ _ _ FG' U9 (R9.sub (by intro q9 hq9; k_mem)))
    | tup mm _ =>
      (repeat' (first | (k_unfold; (try dsimp only)) | (k_end; wrow_close) | ((fail_if_success (fail_if_success (with_reducible show wpAny _ _ (call _ _ _) _ _ _))); first | (with_reducible (k_here; (fail_if_success (fail_if_success (with_reducible show wpAny _ _ (call (Value.ref _) [_, _]) _ _ _))); k_dflt (refine CtrE.same (by k_asm) (by k_asm) (by k_asm) (by k_asm) (by k_asm) (by exact rfl) (by ktr_room) (by ktr_units) (by assumption) (sorts_ctr (by k_mem) (by assumption) (by assumption) (by assumption) (by assumption) (by (refine DmAll.mono ?_ (by assumption); intro _ _; k_mem)) (by assumption) (by assumption) (by omega)) ?_ ?_); (intro _ _ _ _ _ _); (try dsimp only); (try k_fold); rotate_left; (intro _ _ _ _ _ _ _ _); (try dsimp only); rotate_right)) | (with_reducible (k_here; (fail_if_success (fail_if_success (with_reducible show wpAny _ _ (call (Value.ref _) [_, _]) _ _ _))); k_dflt (refine Ctr.new1 (by k_asm) (by k_asm) (by k_asm) (by k_asm) (by k_asm) (by exact rfl) (by ktr_room) (by ktr_units) (followers_ctr (by k_mem) (by assumption) (by omega) (by k_mem) (by assumption) (by assumption) (by assumption) (by assumption)) ?_); (intro _ _ _ _ _ _ _ _); (try dsimp only); (try k_fold))) | (with_reducible (k_here; (fail_if_success (fail_if_success (with_reducible show wpAny _ _ (call (Value.ref _) [_]) _ _ _))); k_dflt (refine Ctr.new (by k_asm) (by k_asm) (by k_asm) (by k_asm) (by k_asm) (by exact rfl) (by ktr_room) (by ktr_units) (uses_ctr (by k_mem) (by assumption) (by assumption) (by assumption) (by assumption) (by assumption) (by omega)) ?_); (intro _ _ _ _ _ _ _); (try dsimp only); (try k_fold))) | (with_reducible (k_here; (fail_if_success (fail_if_success (with_reducible show wpAny _ _ (call (Value.type "str") [Value.ref _]) _ _ _))); k_dflt (refine str_dm (by k_asm) (by k_asm) (by (refine Dm.mono ?_ (by assumption); intro _ _; k_mem)) (by assumption) (by assumption) (by ktr_units) ?_); intro _ _ _ _ _ _ _; (try dsimp only))) | ((fail_if_success (fail_if_success (with_reducible show wpAny _ _ (call (Value.builtin "len") _ _) _ _ _))); with_reducible (k_here; k_dflt (refine len_tup (by k_asm) (by k_dflt k_mem) (by assumption) (by first | assumption | omega) ?_); intro _ _; (try dsimp only))) | (with_reducible (k_here; (fail_if_success (fail_if_success (with_reducible show wpAny _ _ (call (Value.ref _) [_]) _ _ _))); k_dflt (refine Ctr.same (by k_asm) (by k_asm) (by k_asm) (by k_asm) (by k_asm) (by exact rfl) (by ktr_room) (by ktr_units) (sets_ctr2 (by k_mem) (by assumption) (by assumption) (by assumption) (by assumption) (by assumption)) ?_); (intro _ _ _ _ _); (try dsimp only); (try k_fold))) | (with_reducible (k_here; (fail_if_success (fail_if_success (with_reducible show wpAny _ _ (call (Value.ref 52) [Value.str _ _]) _ _ _))); k_dflt (refine fault_made (by k_asm) (by k_asm) (by k_asm) (by k_asm) (by k_asm) (by exact rfl) (by ktr_room) (by ktr_units) ?_); (intro _ _ _ _ _ _ _ _); (try dsimp only); (try k_fold))) | ((fail_if_success (fail_if_success (with_reducible show wpAny _ _ (call (Value.type "zip") _ _) _ _ _))); with_reducible (k_here; k_dflt (refine call_zipK (by k_asm) (by k_asm) (by k_mem) (by assumption) ?_); intro _ _ _ _ _)) | (with_reducible (k_here; (fail_if_success (fail_if_success (with_reducible show wpAny _ _ (call (Value.ref _) [_]) _ _ _))); k_dflt (refine Ctr.same (by k_asm) (by k_asm) (by k_asm) (by k_asm) (by k_asm) (by exact rfl) (by ktr_room) (by ktr_units) (shape_ctr (by k_mem) (by assumption) (by assumption) (by assumption)) ?_); (intro _ _ _ _ _); (try dsimp only); (try k_fold)))) | ((fail_if_success (fail_if_success (with_reducible show wpAny _ _ (subscriptTail _ _ _ _) _ _ _))); first | (with_reducible (k_here; (fail_if_success (fail_if_success (with_reducible show wpAny _ _ (subscriptTail _ _ (Value.ref _) (Value.int _ _)) _ _ _))); first | ((fail_if_success (fail_if_success (with_reducible show wpAny _ _ (subscriptTail _ _ _ (Value.int 0 _)) _ _ _))); (with_unfolding_all refine row0 (by k_asm) (by k_mem) ?_ (by with_unfolding_all rfl))) | ((fail_if_success (fail_if_success (with_reducible show wpAny _ _ (subscriptTail _ _ _ (Value.int 1 _)) _ _ _))); (with_unfolding_all refine row1 (by k_asm) (by k_mem) ?_ (by with_unfolding_all rfl))) | ((fail_if_success (fail_if_success (with_reducible show wpAny _ _ (subscriptTail _ _ _ (Value.int 2 _)) _ _ _))); (with_unfolding_all refine row2 (by k_asm) (by k_mem) ?_ (by with_unfolding_all rfl))) | ((fail_if_success (fail_if_success (with_reducible show wpAny _ _ (subscriptTail _ _ _ (Value.int 3 _)) _ _ _))); (with_unfolding_all refine row3 (by k_asm) (by k_mem) ?_ (by with_unfolding_all rfl))) | ((fail_if_success (fail_if_success (with_reducible show wpAny _ _ (subscriptTail _ _ _ (Value.int 4 _)) _ _ _))); (with_unfolding_all refine row4 (by k_asm) (by k_mem) ?_ (by with_unfolding_all rfl))) | ((fail_if_success (fail_if_success (with_reducible show wpAny _ _ (subscriptTail _ _ _ (Value.int (Nat.cast _) _)) _ _ _))); (with_unfolding_all refine row_i _ (by k_asm) (by k_mem) (by assumption) (by omega) ?_ (by with_unfolding_all rfl))))) | (with_reducible (k_here; (fail_if_success (fail_if_success (with_reducible show wpAny _ _ (subscriptTail _ _ (Value.ref _) (Value.ref _)) _ _ _))); (with_unfolding_all refine row_tail (by k_asm) (by k_asm) (by k_mem) (by assumption) ?_ (by with_unfolding_all rfl) (by (intro _; with_unfolding_all rfl))); intro _ _ _ _ _))) | ((fail_if_success (fail_if_success (with_reducible show wpAny _ _ (binaryOp _ _ _) _ _ _))); first | ((fail_if_success (fail_if_success (with_reducible show wpAny _ _ (binaryOp .Add (Value.ref _) (Value.ref _)) _ _ _))); with_reducible (k_here; k_dflt (refine addL (by k_asm) (by k_asm) (by k_mem) (by k_mem) (by simp only [List.length_nil, List.length_cons, List.length_append]; omega) ?_); intro _ _ _ _ _))) | ((fail_if_success (fail_if_success (with_reducible show wpAny _ _ (compareOp _ _ _) _ _ _))); first | ((fail_if_success (fail_if_success (with_reducible show wpAny _ _ (compareOp .NotIn _ _) _ _ _))); with_reducible (k_here; k_dflt (refine notIn_one (by k_asm) (by (refine Dm.mono ?_ (by assumption); intro _ _; k_mem)) (by k_mem) (by ktr_units) ?_)))) | walk1 | (dsimp only; walk1) | (leave1; walk_say "STEP leave1"; try dsimp only) | fail "no step"))
      (k_dflt (refine raise_end (by k_asm) (by k_asm) (by k_asm) (by assumption) (by rfl) ?_); intro h9 R9 U9; exact hexc (row_no2 hd rfl) _ _ _ _ FG' U9 (R9.sub (by intro q9 hq9; k_mem)))
    | lst mm _ =>
      (repeat' (first | (k_unfold; (try dsimp only)) | (k_end; wrow_close) | ((fail_if_success (fail_if_success (with_reducible show wpAny _ _ (call _ _ _) _ _ _))); first | (with_reducible (k_here; (fail_if_success (fail_if_success (with_reducible show wpAny _ _ (call (Value.ref _) [_, _]) _ _ _))); k_dflt (refine CtrE.same (by k_asm) (by k_asm) (by k_asm) (by k_asm) (by k_asm) (by exact rfl) (by ktr_room) (by ktr_units) (by assumption) (sorts_ctr (by k_mem) (by assumption) (by assumption) (by assumption) (by assumption) (by (refine DmAll.mono ?_ (by assumption); intro _ _; k_mem)) (by assumption) (by assumption) (by omega)) ?_ ?_); (intro _ _ _ _ _ _); (try dsimp only); (try k_fold); rotate_left; (intro _ _ _ _ _ _ _ _); (try dsimp only); rotate_right)) | (with_reducible (k_here; (fail_if_success (fail_if_success (with_reducible show wpAny _ _ (call (Value.ref _) [_, _]) _ _ _))); k_dflt (refine Ctr.new1 (by k_asm) (by k_asm) (by k_asm) (by k_asm) (by k_asm) (by exact rfl) (by ktr_room) (by ktr_units) (followers_ctr (by k_mem) (by assumption) (by omega) (by k_mem) (by assumption) (by assumption) (by assumption) (by assumption)) ?_); (intro _ _ _ _ _ _ _ _); (try dsimp only); (try k_fold))) | (with_reducible (k_here; (fail_if_success (fail_if_success (with_reducible show wpAny _ _ (call (Value.ref _) [_]) _ _ _))); k_dflt (refine Ctr.new (by k_asm) (by k_asm) (by k_asm) (by k_asm) (by k_asm) (by exact rfl) (by ktr_room) (by ktr_units) (uses_ctr (by k_mem) (by assumption) (by assumption) (by assumption) (by assumption) (by assumption) (by omega)) ?_); (intro _ _ _ _ _ _ _); (try dsimp only); (try k_fold))) | (with_reducible (k_here; (fail_if_success (fail_if_success (with_reducible show wpAny _ _ (call (Value.type "str") [Value.ref _]) _ _ _))); k_dflt (refine str_dm (by k_asm) (by k_asm) (by (refine Dm.mono ?_ (by assumption); intro _ _; k_mem)) (by assumption) (by assumption) (by ktr_units) ?_); intro _ _ _ _ _ _ _; (try dsimp only))) | ((fail_if_success (fail_if_success (with_reducible show wpAny _ _ (call (Value.builtin "len") _ _) _ _ _))); with_reducible (k_here; k_dflt (refine len_tup (by k_asm) (by k_dflt k_mem) (by assumption) (by first | assumption | omega) ?_); intro _ _; (try dsimp only))) | (with_reducible (k_here; (fail_if_success (fail_if_success (with_reducible show wpAny _ _ (call (Value.ref _) [_]) _ _ _))); k_dflt (refine Ctr.same (by k_asm) (by k_asm) (by k_asm) (by k_asm) (by k_asm) (by exact rfl) (by ktr_room) (by ktr_units) (sets_ctr2 (by k_mem) (by assumption) (by assumption) (by assumption) (by assumption) (by assumption)) ?_); (intro _ _ _ _ _); (try dsimp only); (try k_fold))) | (with_reducible (k_here; (fail_if_success (fail_if_success (with_reducible show wpAny _ _ (call (Value.ref 52) [Value.str _ _]) _ _ _))); k_dflt (refine fault_made (by k_asm) (by k_asm) (by k_asm) (by k_asm) (by k_asm) (by exact rfl) (by ktr_room) (by ktr_units) ?_); (intro _ _ _ _ _ _ _ _); (try dsimp only); (try k_fold))) | ((fail_if_success (fail_if_success (with_reducible show wpAny _ _ (call (Value.type "zip") _ _) _ _ _))); with_reducible (k_here; k_dflt (refine call_zipK (by k_asm) (by k_asm) (by k_mem) (by assumption) ?_); intro _ _ _ _ _)) | (with_reducible (k_here; (fail_if_success (fail_if_success (with_reducible show wpAny _ _ (call (Value.ref _) [_]) _ _ _))); k_dflt (refine Ctr.same (by k_asm) (by k_asm) (by k_asm) (by k_asm) (by k_asm) (by exact rfl) (by ktr_room) (by ktr_units) (shape_ctr (by k_mem) (by assumption) (by assumption) (by assumption)) ?_); (intro _ _ _ _ _); (try dsimp only); (try k_fold)))) | ((fail_if_success (fail_if_success (with_reducible show wpAny _ _ (subscriptTail _ _ _ _) _ _ _))); first | (with_reducible (k_here; (fail_if_success (fail_if_success (with_reducible show wpAny _ _ (subscriptTail _ _ (Value.ref _) (Value.int _ _)) _ _ _))); first | ((fail_if_success (fail_if_success (with_reducible show wpAny _ _ (subscriptTail _ _ _ (Value.int 0 _)) _ _ _))); (with_unfolding_all refine row0 (by k_asm) (by k_mem) ?_ (by with_unfolding_all rfl))) | ((fail_if_success (fail_if_success (with_reducible show wpAny _ _ (subscriptTail _ _ _ (Value.int 1 _)) _ _ _))); (with_unfolding_all refine row1 (by k_asm) (by k_mem) ?_ (by with_unfolding_all rfl))) | ((fail_if_success (fail_if_success (with_reducible show wpAny _ _ (subscriptTail _ _ _ (Value.int 2 _)) _ _ _))); (with_unfolding_all refine row2 (by k_asm) (by k_mem) ?_ (by with_unfolding_all rfl))) | ((fail_if_success (fail_if_success (with_reducible show wpAny _ _ (subscriptTail _ _ _ (Value.int 3 _)) _ _ _))); (with_unfolding_all refine row3 (by k_asm) (by k_mem) ?_ (by with_unfolding_all rfl))) | ((fail_if_success (fail_if_success (with_reducible show wpAny _ _ (subscriptTail _ _ _ (Value.int 4 _)) _ _ _))); (with_unfolding_all refine row4 (by k_asm) (by k_mem) ?_ (by with_unfolding_all rfl))) | ((fail_if_success (fail_if_success (with_reducible show wpAny _ _ (subscriptTail _ _ _ (Value.int (Nat.cast _) _)) _ _ _))); (with_unfolding_all refine row_i _ (by k_asm) (by k_mem) (by assumption) (by omega) ?_ (by with_unfolding_all rfl))))) | (with_reducible (k_here; (fail_if_success (fail_if_success (with_reducible show wpAny _ _ (subscriptTail _ _ (Value.ref _) (Value.ref _)) _ _ _))); (with_unfolding_all refine row_tail (by k_asm) (by k_asm) (by k_mem) (by assumption) ?_ (by with_unfolding_all rfl) (by (intro _; with_unfolding_all rfl))); intro _ _ _ _ _))) | ((fail_if_success (fail_if_success (with_reducible show wpAny _ _ (binaryOp _ _ _) _ _ _))); first | ((fail_if_success (fail_if_success (with_reducible show wpAny _ _ (binaryOp .Add (Value.ref _) (Value.ref _)) _ _ _))); with_reducible (k_here; k_dflt (refine addL (by k_asm) (by k_asm) (by k_mem) (by k_mem) (by simp only [List.length_nil, List.length_cons, List.length_append]; omega) ?_); intro _ _ _ _ _))) | ((fail_if_success (fail_if_success (with_reducible show wpAny _ _ (compareOp _ _ _) _ _ _))); first | ((fail_if_success (fail_if_success (with_reducible show wpAny _ _ (compareOp .NotIn _ _) _ _ _))); with_reducible (k_here; k_dflt (refine notIn_one (by k_asm) (by (refine Dm.mono ?_ (by assumption); intro _ _; k_mem)) (by k_mem) (by ktr_units) ?_)))) | walk1 | (dsimp only; walk1) | (leave1; walk_say "STEP leave1"; try dsimp only) | fail "no step"))
      (k_dflt (refine raise_end (by k_asm) (by k_asm) (by k_asm) (by assumption) (by rfl) ?_); intro h9 R9 U9; exact hexc (row_no2 hd rfl) _ _ _ _ FG' U9 (R9.sub (by intro q9 hq9; k_mem)))
  · intro u h tk F2 N2 hP
    (repeat' (first | (k_unfold; (try dsimp only)) | (k_end; wrow_close) | ((fail_if_success (fail_if_success (with_reducible show wpAny _ _ (call _ _ _) _ _ _))); first | (with_reducible (k_here; (fail_if_success (fail_if_success (with_reducible show wpAny _ _ (call (Value.ref _) [_, _]) _ _ _))); k_dflt (refine CtrE.same (by k_asm) (by k_asm) (by k_asm) (by k_asm) (by k_asm) (by exact rfl) (by ktr_room) (by ktr_units) (by assumption) (sorts_ctr (by k_mem) (by assumption) (by assumption) (by assumption) (by assumption) (by (refine DmAll.mono ?_ (by assumption); intro _ _; k_mem)) (by assumption) (by assumption) (by omega)) ?_ ?_); (intro _ _ _ _ _ _); (try dsimp only); (try k_fold); rotate_left; (intro _ _ _ _ _ _ _ _); (try dsimp only); rotate_right)) | (with_reducible (k_here; (fail_if_success (fail_if_success (with_reducible show wpAny _ _ (call (Value.ref _) [_, _]) _ _ _))); k_dflt (refine Ctr.new1 (by k_asm) (by k_asm) (by k_asm) (by k_asm) (by k_asm) (by exact rfl) (by ktr_room) (by ktr_units) (followers_ctr (by k_mem) (by assumption) (by omega) (by k_mem) (by assumption) (by assumption) (by assumption) (by assumption)) ?_); (intro _ _ _ _ _ _ _ _); (try dsimp only); (try k_fold))) | (with_reducible (k_here; (fail_if_success (fail_if_success (with_reducible show wpAny _ _ (call (Value.ref _) [_]) _ _ _))); k_dflt (refine Ctr.new (by k_asm) (by k_asm) (by k_asm) (by k_asm) (by k_asm) (by exact rfl) (by ktr_room) (by ktr_units) (uses_ctr (by k_mem) (by assumption) (by assumption) (by assumption) (by assumption) (by assumption) (by omega)) ?_); (intro _ _ _ _ _ _ _); (try dsimp only); (try k_fold))) | (with_reducible (k_here; (fail_if_success (fail_if_success (with_reducible show wpAny _ _ (call (Value.type "str") [Value.ref _]) _ _ _))); k_dflt (refine str_dm (by k_asm) (by k_asm) (by (refine Dm.mono ?_ (by assumption); intro _ _; k_mem)) (by assumption) (by assumption) (by ktr_units) ?_); intro _ _ _ _ _ _ _; (try dsimp only))) | ((fail_if_success (fail_if_success (with_reducible show wpAny _ _ (call (Value.builtin "len") _ _) _ _ _))); with_reducible (k_here; k_dflt (refine len_tup (by k_asm) (by k_dflt k_mem) (by assumption) (by first | assumption | omega) ?_); intro _ _; (try dsimp only))) | (with_reducible (k_here; (fail_if_success (fail_if_success (with_reducible show wpAny _ _ (call (Value.ref _) [_]) _ _ _))); k_dflt (refine Ctr.same (by k_asm) (by k_asm) (by k_asm) (by k_asm) (by k_asm) (by exact rfl) (by ktr_room) (by ktr_units) (sets_ctr2 (by k_mem) (by assumption) (by assumption) (by assumption) (by assumption) (by assumption)) ?_); (intro _ _ _ _ _); (try dsimp only); (try k_fold))) | (with_reducible (k_here; (fail_if_success (fail_if_success (with_reducible show wpAny _ _ (call (Value.ref 52) [Value.str _ _]) _ _ _))); k_dflt (refine fault_made (by k_asm) (by k_asm) (by k_asm) (by k_asm) (by k_asm) (by exact rfl) (by ktr_room) (by ktr_units) ?_); (intro _ _ _ _ _ _ _ _); (try dsimp only); (try k_fold))) | ((fail_if_success (fail_if_success (with_reducible show wpAny _ _ (call (Value.type "zip") _ _) _ _ _))); with_reducible (k_here; k_dflt (refine call_zipK (by k_asm) (by k_asm) (by k_mem) (by assumption) ?_); intro _ _ _ _ _)) | (with_reducible (k_here; (fail_if_success (fail_if_success (with_reducible show wpAny _ _ (call (Value.ref _) [_]) _ _ _))); k_dflt (refine Ctr.same (by k_asm) (by k_asm) (by k_asm) (by k_asm) (by k_asm) (by exact rfl) (by ktr_room) (by ktr_units) (shape_ctr (by k_mem) (by assumption) (by assumption) (by assumption)) ?_); (intro _ _ _ _ _); (try dsimp only); (try k_fold)))) | ((fail_if_success (fail_if_success (with_reducible show wpAny _ _ (subscriptTail _ _ _ _) _ _ _))); first | (with_reducible (k_here; (fail_if_success (fail_if_success (with_reducible show wpAny _ _ (subscriptTail _ _ (Value.ref _) (Value.int _ _)) _ _ _))); first | ((fail_if_success (fail_if_success (with_reducible show wpAny _ _ (subscriptTail _ _ _ (Value.int 0 _)) _ _ _))); (with_unfolding_all refine row0 (by k_asm) (by k_mem) ?_ (by with_unfolding_all rfl))) | ((fail_if_success (fail_if_success (with_reducible show wpAny _ _ (subscriptTail _ _ _ (Value.int 1 _)) _ _ _))); (with_unfolding_all refine row1 (by k_asm) (by k_mem) ?_ (by with_unfolding_all rfl))) | ((fail_if_success (fail_if_success (with_reducible show wpAny _ _ (subscriptTail _ _ _ (Value.int 2 _)) _ _ _))); (with_unfolding_all refine row2 (by k_asm) (by k_mem) ?_ (by with_unfolding_all rfl))) | ((fail_if_success (fail_if_success (with_reducible show wpAny _ _ (subscriptTail _ _ _ (Value.int 3 _)) _ _ _))); (with_unfolding_all refine row3 (by k_asm) (by k_mem) ?_ (by with_unfolding_all rfl))) | ((fail_if_success (fail_if_success (with_reducible show wpAny _ _ (subscriptTail _ _ _ (Value.int 4 _)) _ _ _))); (with_unfolding_all refine row4 (by k_asm) (by k_mem) ?_ (by with_unfolding_all rfl))) | ((fail_if_success (fail_if_success (with_reducible show wpAny _ _ (subscriptTail _ _ _ (Value.int (Nat.cast _) _)) _ _ _))); (with_unfolding_all refine row_i _ (by k_asm) (by k_mem) (by assumption) (by omega) ?_ (by with_unfolding_all rfl))))) | (with_reducible (k_here; (fail_if_success (fail_if_success (with_reducible show wpAny _ _ (subscriptTail _ _ (Value.ref _) (Value.ref _)) _ _ _))); (with_unfolding_all refine row_tail (by k_asm) (by k_asm) (by k_mem) (by assumption) ?_ (by with_unfolding_all rfl) (by (intro _; with_unfolding_all rfl))); intro _ _ _ _ _))) | ((fail_if_success (fail_if_success (with_reducible show wpAny _ _ (binaryOp _ _ _) _ _ _))); first | ((fail_if_success (fail_if_success (with_reducible show wpAny _ _ (binaryOp .Add (Value.ref _) (Value.ref _)) _ _ _))); with_reducible (k_here; k_dflt (refine addL (by k_asm) (by k_asm) (by k_mem) (by k_mem) (by simp only [List.length_nil, List.length_cons, List.length_append]; omega) ?_); intro _ _ _ _ _))) | ((fail_if_success (fail_if_success (with_reducible show wpAny _ _ (compareOp _ _ _) _ _ _))); first | ((fail_if_success (fail_if_success (with_reducible show wpAny _ _ (compareOp .NotIn _ _) _ _ _))); with_reducible (k_here; k_dflt (refine notIn_one (by k_asm) (by (refine Dm.mono ?_ (by assumption); intro _ _; k_mem)) (by k_mem) (by ktr_units) ?_)))) | walk1 | (dsimp only; walk1) | (leave1; walk_say "STEP leave1"; try dsimp only) | fail "no step"))
    show wpAny _ _ _ _ _ _
    (rename Fr _ _ _ _ => lF')
    (with_unfolding_all refine' For_invVF lF' ?_ ?_ ?_)
    · exact rfl
    · exact rfl
    (repeat' (first | (k_unfold; (try dsimp only)) | (k_end; wrow_close) | ((fail_if_success (fail_if_success (with_reducible show wpAny _ _ (call _ _ _) _ _ _))); first | (with_reducible (k_here; (fail_if_success (fail_if_success (with_reducible show wpAny _ _ (call (Value.ref _) [_, _]) _ _ _))); k_dflt (refine CtrE.same (by k_asm) (by k_asm) (by k_asm) (by k_asm) (by k_asm) (by exact rfl) (by ktr_room) (by ktr_units) (by assumption) (sorts_ctr (by k_mem) (by assumption) (by assumption) (by assumption) (by assumption) (by (refine DmAll.mono ?_ (by assumption); intro _ _; k_mem)) (by assumption) (by assumption) (by omega)) ?_ ?_); (intro _ _ _ _ _ _); (try dsimp only); (try k_fold); rotate_left; (intro _ _ _ _ _ _ _ _); (try dsimp only); rotate_right)) | (with_reducible (k_here; (fail_if_success (fail_if_success (with_reducible show wpAny _ _ (call (Value.ref _) [_, _]) _ _ _))); k_dflt (refine Ctr.new1 (by k_asm) (by k_asm) (by k_asm) (by k_asm) (by k_asm) (by exact rfl) (by ktr_room) (by ktr_units) (followers_ctr (by k_mem) (by assumption) (by omega) (by k_mem) (by assumption) (by assumption) (by assumption) (by assumption)) ?_); (intro _ _ _ _ _ _ _ _); (try dsimp only); (try k_fold))) | (with_reducible (k_here; (fail_if_success (fail_if_success (with_reducible show wpAny _ _ (call (Value.ref _) [_]) _ _ _))); k_dflt (refine Ctr.new (by k_asm) (by k_asm) (by k_asm) (by k_asm) (by k_asm) (by exact rfl) (by ktr_room) (by ktr_units) (uses_ctr (by k_mem) (by assumption) (by assumption) (by assumption) (by assumption) (by assumption) (by omega)) ?_); (intro _ _ _ _ _ _ _); (try dsimp only); (try k_fold))) | (with_reducible (k_here; (fail_if_success (fail_if_success (with_reducible show wpAny _ _ (call (Value.type "str") [Value.ref _]) _ _ _))); k_dflt (refine str_dm (by k_asm) (by k_asm) (by (refine Dm.mono ?_ (by assumption); intro _ _; k_mem)) (by assumption) (by assumption) (by ktr_units) ?_); intro _ _ _ _ _ _ _; (try dsimp only))) | ((fail_if_success (fail_if_success (with_reducible show wpAny _ _ (call (Value.builtin "len") _ _) _ _ _))); with_reducible (k_here; k_dflt (refine len_tup (by k_asm) (by k_dflt k_mem) (by assumption) (by first | assumption | omega) ?_); intro _ _; (try dsimp only))) | (with_reducible (k_here; (fail_if_success (fail_if_success (with_reducible show wpAny _ _ (call (Value.ref _) [_]) _ _ _))); k_dflt (refine Ctr.same (by k_asm) (by k_asm) (by k_asm) (by k_asm) (by k_asm) (by exact rfl) (by ktr_room) (by ktr_units) (sets_ctr2 (by k_mem) (by assumption) (by assumption) (by assumption) (by assumption) (by assumption)) ?_); (intro _ _ _ _ _); (try dsimp only); (try k_fold))) | (with_reducible (k_here; (fail_if_success (fail_if_success (with_reducible show wpAny _ _ (call (Value.ref 52) [Value.str _ _]) _ _ _))); k_dflt (refine fault_made (by k_asm) (by k_asm) (by k_asm) (by k_asm) (by k_asm) (by exact rfl) (by ktr_room) (by ktr_units) ?_); (intro _ _ _ _ _ _ _ _); (try dsimp only); (try k_fold))) | ((fail_if_success (fail_if_success (with_reducible show wpAny _ _ (call (Value.type "zip") _ _) _ _ _))); with_reducible (k_here; k_dflt (refine call_zipK (by k_asm) (by k_asm) (by k_mem) (by assumption) ?_); intro _ _ _ _ _)) | (with_reducible (k_here; (fail_if_success (fail_if_success (with_reducible show wpAny _ _ (call (Value.ref _) [_]) _ _ _))); k_dflt (refine Ctr.same (by k_asm) (by k_asm) (by k_asm) (by k_asm) (by k_asm) (by exact rfl) (by ktr_room) (by ktr_units) (shape_ctr (by k_mem) (by assumption) (by assumption) (by assumption)) ?_); (intro _ _ _ _ _); (try dsimp only); (try k_fold)))) | ((fail_if_success (fail_if_success (with_reducible show wpAny _ _ (subscriptTail _ _ _ _) _ _ _))); first | (with_reducible (k_here; (fail_if_success (fail_if_success (with_reducible show wpAny _ _ (subscriptTail _ _ (Value.ref _) (Value.int _ _)) _ _ _))); first | ((fail_if_success (fail_if_success (with_reducible show wpAny _ _ (subscriptTail _ _ _ (Value.int 0 _)) _ _ _))); (with_unfolding_all refine row0 (by k_asm) (by k_mem) ?_ (by with_unfolding_all rfl))) | ((fail_if_success (fail_if_success (with_reducible show wpAny _ _ (subscriptTail _ _ _ (Value.int 1 _)) _ _ _))); (with_unfolding_all refine row1 (by k_asm) (by k_mem) ?_ (by with_unfolding_all rfl))) | ((fail_if_success (fail_if_success (with_reducible show wpAny _ _ (subscriptTail _ _ _ (Value.int 2 _)) _ _ _))); (with_unfolding_all refine row2 (by k_asm) (by k_mem) ?_ (by with_unfolding_all rfl))) | ((fail_if_success (fail_if_success (with_reducible show wpAny _ _ (subscriptTail _ _ _ (Value.int 3 _)) _ _ _))); (with_unfolding_all refine row3 (by k_asm) (by k_mem) ?_ (by with_unfolding_all rfl))) | ((fail_if_success (fail_if_success (with_reducible show wpAny _ _ (subscriptTail _ _ _ (Value.int 4 _)) _ _ _))); (with_unfolding_all refine row4 (by k_asm) (by k_mem) ?_ (by with_unfolding_all rfl))) | ((fail_if_success (fail_if_success (with_reducible show wpAny _ _ (subscriptTail _ _ _ (Value.int (Nat.cast _) _)) _ _ _))); (with_unfolding_all refine row_i _ (by k_asm) (by k_mem) (by assumption) (by omega) ?_ (by with_unfolding_all rfl))))) | (with_reducible (k_here; (fail_if_success (fail_if_success (with_reducible show wpAny _ _ (subscriptTail _ _ (Value.ref _) (Value.ref _)) _ _ _))); (with_unfolding_all refine row_tail (by k_asm) (by k_asm) (by k_mem) (by assumption) ?_ (by with_unfolding_all rfl) (by (intro _; with_unfolding_all rfl))); intro _ _ _ _ _))) | ((fail_if_success (fail_if_success (with_reducible show wpAny _ _ (binaryOp _ _ _) _ _ _))); first | ((fail_if_success (fail_if_success (with_reducible show wpAny _ _ (binaryOp .Add (Value.ref _) (Value.ref _)) _ _ _))); with_reducible (k_here; k_dflt (refine addL (by k_asm) (by k_asm) (by k_mem) (by k_mem) (by simp only [List.length_nil, List.length_cons, List.length_append]; omega) ?_); intro _ _ _ _ _))) | ((fail_if_success (fail_if_success (with_reducible show wpAny _ _ (compareOp _ _ _) _ _ _))); first | ((fail_if_success (fail_if_success (with_reducible show wpAny _ _ (compareOp .NotIn _ _) _ _ _))); with_reducible (k_here; k_dflt (refine notIn_one (by k_asm) (by (refine Dm.mono ?_ (by assumption); intro _ _; k_mem)) (by k_mem) (by ktr_units) ?_)))) | walk1 | (dsimp only; walk1) | (leave1; walk_say "STEP leave1"; try dsimp only) | fail "no step"))
    rename_i h9 tk9 F9 a9 k9 u9 N9 l9
    have hgd : DmAll news ((if isEnd op then [] else [.int ((at_ : Int) + 1) u9]) ++ pickZ (fun c _ => c == 103) x.cps.toList (p0 :: ps')) (goalsD op x (d0 :: ds') at_) := by
      unfold goalsD
      refine DmAll.append ?_ (pick_dm (q := fun c _ => c == 103) (q' := fun c _ => c == 103) (fun _ _ => rfl) _ hp)
      split
      · exact .nil
      · exact .cons (.at (.int _ _)) .nil
    refine listLoop (fun i => ((goalsD op x (d0 :: ds') at_).take i).all regD = true) rfl F9 N9 (.head _) (by simp) ?_ ?_
    · intro i v h tk I oI hv hP' F3 N3 lt3
      obtain ⟨d, hd, hdv⟩ := hgd.get hv
      have hnbd := hng d (List.mem_of_getElem? hd)
      cases hdv with
      | «at» cv =>
        cases cv with
        | int =>
          (repeat' (first | (k_unfold; (try dsimp only)) | (k_end; wrow_close) | ((fail_if_success (fail_if_success (with_reducible show wpAny _ _ (call _ _ _) _ _ _))); first | (with_reducible (k_here; (fail_if_success (fail_if_success (with_reducible show wpAny _ _ (call (Value.ref _) [_, _]) _ _ _))); k_dflt (refine CtrE.same (by k_asm) (by k_asm) (by k_asm) (by k_asm) (by k_asm) (by exact rfl) (by ktr_room) (by ktr_units) (by assumption) (sorts_ctr (by k_mem) (by assumption) (by assumption) (by assumption) (by assumption) (by (refine DmAll.mono ?_ (by assumption); intro _ _; k_mem)) (by assumption) (by assumption) (by omega)) ?_ ?_); (intro _ _ _ _ _ _); (try dsimp only); (try k_fold); rotate_left; (intro _ _ _ _ _ _ _ _); (try dsimp only); rotate_right)) | (with_reducible (k_here; (fail_if_success (fail_if_success (with_reducible show wpAny _ _ (call (Value.ref _) [_, _]) _ _ _))); k_dflt (refine Ctr.new1 (by k_asm) (by k_asm) (by k_asm) (by k_asm) (by k_asm) (by exact rfl) (by ktr_room) (by ktr_units) (followers_ctr (by k_mem) (by assumption) (by omega) (by k_mem) (by assumption) (by assumption) (by assumption) (by assumption)) ?_); (intro _ _ _ _ _ _ _ _); (try dsimp only); (try k_fold))) | (with_reducible (k_here; (fail_if_success (fail_if_success (with_reducible show wpAny _ _ (call (Value.ref _) [_]) _ _ _))); k_dflt (refine Ctr.new (by k_asm) (by k_asm) (by k_asm) (by k_asm) (by k_asm) (by exact rfl) (by ktr_room) (by ktr_units) (uses_ctr (by k_mem) (by assumption) (by assumption) (by assumption) (by assumption) (by assumption) (by omega)) ?_); (intro _ _ _ _ _ _ _); (try dsimp only); (try k_fold))) | (with_reducible (k_here; (fail_if_success (fail_if_success (with_reducible show wpAny _ _ (call (Value.type "str") [Value.ref _]) _ _ _))); k_dflt (refine str_dm (by k_asm) (by k_asm) (by (refine Dm.mono ?_ (by assumption); intro _ _; k_mem)) (by assumption) (by assumption) (by ktr_units) ?_); intro _ _ _ _ _ _ _; (try dsimp only))) | ((fail_if_success (fail_if_success (with_reducible show wpAny _ _ (call (Value.builtin "len") _ _) _ _ _))); with_reducible (k_here; k_dflt (refine len_tup (by k_asm) (by k_dflt k_mem) (by assumption) (by first | assumption | omega) ?_); intro _ _; (try dsimp only))) | (with_reducible (k_here; (fail_if_success (fail_if_success (with_reducible show wpAny _ _ (call (Value.ref _) [_]) _ _ _))); k_dflt (refine Ctr.same (by k_asm) (by k_asm) (by k_asm) (by k_asm) (by k_asm) (by exact rfl) (by ktr_room) (by ktr_units) (sets_ctr2 (by k_mem) (by assumption) (by assumption) (by assumption) (by assumption) (by assumption)) ?_); (intro _ _ _ _ _); (try dsimp only); (try k_fold))) | (with_reducible (k_here; (fail_if_success (fail_if_success (with_reducible show wpAny _ _ (call (Value.ref 52) [Value.str _ _]) _ _ _))); k_dflt (refine fault_made (by k_asm) (by k_asm) (by k_asm) (by k_asm) (by k_asm) (by exact rfl) (by ktr_room) (by ktr_units) ?_); (intro _ _ _ _ _ _ _ _); (try dsimp only); (try k_fold))) | ((fail_if_success (fail_if_success (with_reducible show wpAny _ _ (call (Value.type "zip") _ _) _ _ _))); with_reducible (k_here; k_dflt (refine call_zipK (by k_asm) (by k_asm) (by k_mem) (by assumption) ?_); intro _ _ _ _ _)) | (with_reducible (k_here; (fail_if_success (fail_if_success (with_reducible show wpAny _ _ (call (Value.ref _) [_]) _ _ _))); k_dflt (refine Ctr.same (by k_asm) (by k_asm) (by k_asm) (by k_asm) (by k_asm) (by exact rfl) (by ktr_room) (by ktr_units) (shape_ctr (by k_mem) (by assumption) (by assumption) (by assumption)) ?_); (intro _ _ _ _ _); (try dsimp only); (try k_fold)))) | ((fail_if_success (fail_if_success (with_reducible show wpAny _ _ (subscriptTail _ _ _ _) _ _ _))); first | (with_reducible (k_here; (fail_if_success (fail_if_success (with_reducible show wpAny _ _ (subscriptTail _ _ (Value.ref _) (Value.int _ _)) _ _ _))); first | ((fail_if_success (fail_if_success (with_reducible show wpAny _ _ (subscriptTail _ _ _ (Value.int 0 _)) _ _ _))); (with_unfolding_all refine row0 (by k_asm) (by k_mem) ?_ (by with_unfolding_all rfl))) | ((fail_if_success (fail_if_success (with_reducible show wpAny _ _ (subscriptTail _ _ _ (Value.int 1 _)) _ _ _))); (with_unfolding_all refine row1 (by k_asm) (by k_mem) ?_ (by with_unfolding_all rfl))) | ((fail_if_success (fail_if_success (with_reducible show wpAny _ _ (subscriptTail _ _ _ (Value.int 2 _)) _ _ _))); (with_unfolding_all refine row2 (by k_asm) (by k_mem) ?_ (by with_unfolding_all rfl))) | ((fail_if_success (fail_if_success (with_reducible show wpAny _ _ (subscriptTail _ _ _ (Value.int 3 _)) _ _ _))); (with_unfolding_all refine row3 (by k_asm) (by k_mem) ?_ (by with_unfolding_all rfl))) | ((fail_if_success (fail_if_success (with_reducible show wpAny _ _ (subscriptTail _ _ _ (Value.int 4 _)) _ _ _))); (with_unfolding_all refine row4 (by k_asm) (by k_mem) ?_ (by with_unfolding_all rfl))) | ((fail_if_success (fail_if_success (with_reducible show wpAny _ _ (subscriptTail _ _ _ (Value.int (Nat.cast _) _)) _ _ _))); (with_unfolding_all refine row_i _ (by k_asm) (by k_mem) (by assumption) (by omega) ?_ (by with_unfolding_all rfl))))) | (with_reducible (k_here; (fail_if_success (fail_if_success (with_reducible show wpAny _ _ (subscriptTail _ _ (Value.ref _) (Value.ref _)) _ _ _))); (with_unfolding_all refine row_tail (by k_asm) (by k_asm) (by k_mem) (by assumption) ?_ (by with_unfolding_all rfl) (by (intro _; with_unfolding_all rfl))); intro _ _ _ _ _))) | ((fail_if_success (fail_if_success (with_reducible show wpAny _ _ (binaryOp _ _ _) _ _ _))); first | ((fail_if_success (fail_if_success (with_reducible show wpAny _ _ (binaryOp .Add (Value.ref _) (Value.ref _)) _ _ _))); with_reducible (k_here; k_dflt (refine addL (by k_asm) (by k_asm) (by k_mem) (by k_mem) (by simp only [List.length_nil, List.length_cons, List.length_append]; omega) ?_); intro _ _ _ _ _))) | ((fail_if_success (fail_if_success (with_reducible show wpAny _ _ (compareOp _ _ _) _ _ _))); first | ((fail_if_success (fail_if_success (with_reducible show wpAny _ _ (compareOp .NotIn _ _) _ _ _))); with_reducible (k_here; k_dflt (refine notIn_one (by k_asm) (by (refine Dm.mono ?_ (by assumption); intro _ _; k_mem)) (by k_mem) (by ktr_units) ?_)))) | walk1 | (dsimp only; walk1) | (leave1; walk_say "STEP leave1"; try dsimp only) | fail "no step"))
          · exact ⟨_, _, rfl, F3, N3, take_all hP' hd (regD_int (by omega) (by omega))⟩
          · (k_dflt (refine raise_end (by k_asm) (by k_asm) (by k_asm) (by assumption) (by rfl) ?_); intro h9 R9 U9; exact hexc (row_no3 hd (regD_no (by omega))) _ _ _ _ FG' U9 (R9.sub (by intro q9 hq9; k_mem)))
          · (k_dflt (refine raise_end (by k_asm) (by k_asm) (by k_asm) (by assumption) (by rfl) ?_); intro h9 R9 U9; exact hexc (row_no3 hd (regD_no (by omega))) _ _ _ _ FG' U9 (R9.sub (by intro q9 hq9; k_mem)))
        | bool => cases hnbd
        | str =>
          (repeat' (first | (k_unfold; (try dsimp only)) | (k_end; wrow_close) | ((fail_if_success (fail_if_success (with_reducible show wpAny _ _ (call _ _ _) _ _ _))); first | (with_reducible (k_here; (fail_if_success (fail_if_success (with_reducible show wpAny _ _ (call (Value.ref _) [_, _]) _ _ _))); k_dflt (refine CtrE.same (by k_asm) (by k_asm) (by k_asm) (by k_asm) (by k_asm) (by exact rfl) (by ktr_room) (by ktr_units) (by assumption) (sorts_ctr (by k_mem) (by assumption) (by assumption) (by assumption) (by assumption) (by (refine DmAll.mono ?_ (by assumption); intro _ _; k_mem)) (by assumption) (by assumption) (by omega)) ?_ ?_); (intro _ _ _ _ _ _); (try dsimp only); (try k_fold); rotate_left; (intro _ _ _ _ _ _ _ _); (try dsimp only); rotate_right)) | (with_reducible (k_here; (fail_if_success (fail_if_success (with_reducible show wpAny _ _ (call (Value.ref _) [_, _]) _ _ _))); k_dflt (refine Ctr.new1 (by k_asm) (by k_asm) (by k_asm) (by k_asm) (by k_asm) (by exact rfl) (by ktr_room) (by ktr_units) (followers_ctr (by k_mem) (by assumption) (by omega) (by k_mem) (by assumption) (by assumption) (by assumption) (by assumption)) ?_); (intro _ _ _ _ _ _ _ _); (try dsimp only); (try k_fold))) | (with_reducible (k_here; (fail_if_success (fail_if_success (with_reducible show wpAny _ _ (call (Value.ref _) [_]) _ _ _))); k_dflt (refine Ctr.new (by k_asm) (by k_asm) (by k_asm) (by k_asm) (by k_asm) (by exact rfl) (by ktr_room) (by ktr_units) (uses_ctr (by k_mem) (by assumption) (by assumption) (by assumption) (by assumption) (by assumption) (by omega)) ?_); (intro _ _ _ _ _ _ _); (try dsimp only); (try k_fold))) | (with_reducible (k_here; (fail_if_success (fail_if_success (with_reducible show wpAny _ _ (call (Value.type "str") [Value.ref _]) _ _ _))); k_dflt (refine str_dm (by k_asm) (by k_asm) (by (refine Dm.mono ?_ (by assumption); intro _ _; k_mem)) (by assumption) (by assumption) (by ktr_units) ?_); intro _ _ _ _ _ _ _; (try dsimp only))) | ((fail_if_success (fail_if_success (with_reducible show wpAny _ _ (call (Value.builtin "len") _ _) _ _ _))); with_reducible (k_here; k_dflt (refine len_tup (by k_asm) (by k_dflt k_mem) (by assumption) (by first | assumption | omega) ?_); intro _ _; (try dsimp only))) | (with_reducible (k_here; (fail_if_success (fail_if_success (with_reducible show wpAny _ _ (call (Value.ref _) [_]) _ _ _))); k_dflt (refine Ctr.same (by k_asm) (by k_asm) (by k_asm) (by k_asm) (by k_asm) (by exact rfl) (by ktr_room) (by ktr_units) (sets_ctr2 (by k_mem) (by assumption) (by assumption) (by assumption) (by assumption) (by assumption)) ?_); (intro _ _ _ _ _); (try dsimp only); (try k_fold))) | (with_reducible (k_here; (fail_if_success (fail_if_success (with_reducible show wpAny _ _ (call (Value.ref 52) [Value.str _ _]) _ _ _))); k_dflt (refine fault_made (by k_asm) (by k_asm) (by k_asm) (by k_asm) (by k_asm) (by exact rfl) (by ktr_room) (by ktr_units) ?_); (intro _ _ _ _ _ _ _ _); (try dsimp only); (try k_fold))) | ((fail_if_success (fail_if_success (with_reducible show wpAny _ _ (call (Value.type "zip") _ _) _ _ _))); with_reducible (k_here; k_dflt (refine call_zipK (by k_asm) (by k_asm) (by k_mem) (by assumption) ?_); intro _ _ _ _ _)) | (with_reducible (k_here; (fail_if_success (fail_if_success (with_reducible show wpAny _ _ (call (Value.ref _) [_]) _ _ _))); k_dflt (refine Ctr.same (by k_asm) (by k_asm) (by k_asm) (by k_asm) (by k_asm) (by exact rfl) (by ktr_room) (by ktr_units) (shape_ctr (by k_mem) (by assumption) (by assumption) (by assumption)) ?_); (intro _ _ _ _ _); (try dsimp only); (try k_fold)))) | ((fail_if_success (fail_if_success (with_reducible show wpAny _ _ (subscriptTail _ _ _ _) _ _ _))); first | (with_reducible (k_here; (fail_if_success (fail_if_success (with_reducible show wpAny _ _ (subscriptTail _ _ (Value.ref _) (Value.int _ _)) _ _ _))); first | ((fail_if_success (fail_if_success (with_reducible show wpAny _ _ (subscriptTail _ _ _ (Value.int 0 _)) _ _ _))); (with_unfolding_all refine row0 (by k_asm) (by k_mem) ?_ (by with_unfolding_all rfl))) | ((fail_if_success (fail_if_success (with_reducible show wpAny _ _ (subscriptTail _ _ _ (Value.int 1 _)) _ _ _))); (with_unfolding_all refine row1 (by k_asm) (by k_mem) ?_ (by with_unfolding_all rfl))) | ((fail_if_success (fail_if_success (with_reducible show wpAny _ _ (subscriptTail _ _ _ (Value.int 2 _)) _ _ _))); (with_unfolding_all refine row2 (by k_asm) (by k_mem) ?_ (by with_unfolding_all rfl))) | ((fail_if_success (fail_if_success (with_reducible show wpAny _ _ (subscriptTail _ _ _ (Value.int 3 _)) _ _ _))); (with_unfolding_all refine row3 (by k_asm) (by k_mem) ?_ (by with_unfolding_all rfl))) | ((fail_if_success (fail_if_success (with_reducible show wpAny _ _ (subscriptTail _ _ _ (Value.int 4 _)) _ _ _))); (with_unfolding_all refine row4 (by k_asm) (by k_mem) ?_ (by with_unfolding_all rfl))) | ((fail_if_success (fail_if_success (with_reducible show wpAny _ _ (subscriptTail _ _ _ (Value.int (Nat.cast _) _)) _ _ _))); (with_unfolding_all refine row_i _ (by k_asm) (by k_mem) (by assumption) (by omega) ?_ (by with_unfolding_all rfl))))) | (with_reducible (k_here; (fail_if_success (fail_if_success (with_reducible show wpAny _ _ (subscriptTail _ _ (Value.ref _) (Value.ref _)) _ _ _))); (with_unfolding_all refine row_tail (by k_asm) (by k_asm) (by k_mem) (by assumption) ?_ (by with_unfolding_all rfl) (by (intro _; with_unfolding_all rfl))); intro _ _ _ _ _))) | ((fail_if_success (fail_if_success (with_reducible show wpAny _ _ (binaryOp _ _ _) _ _ _))); first | ((fail_if_success (fail_if_success (with_reducible show wpAny _ _ (binaryOp .Add (Value.ref _) (Value.ref _)) _ _ _))); with_reducible (k_here; k_dflt (refine addL (by k_asm) (by k_asm) (by k_mem) (by k_mem) (by simp only [List.length_nil, List.length_cons, List.length_append]; omega) ?_); intro _ _ _ _ _))) | ((fail_if_success (fail_if_success (with_reducible show wpAny _ _ (compareOp _ _ _) _ _ _))); first | ((fail_if_success (fail_if_success (with_reducible show wpAny _ _ (compareOp .NotIn _ _) _ _ _))); with_reducible (k_here; k_dflt (refine notIn_one (by k_asm) (by (refine Dm.mono ?_ (by assumption); intro _ _; k_mem)) (by k_mem) (by ktr_units) ?_)))) | walk1 | (dsimp only; walk1) | (leave1; walk_say "STEP leave1"; try dsimp only) | fail "no step"))
          (k_dflt (refine raise_end (by k_asm) (by k_asm) (by k_asm) (by assumption) (by rfl) ?_); intro h9 R9 U9; exact hexc (row_no3 hd rfl) _ _ _ _ FG' U9 (R9.sub (by intro q9 hq9; k_mem)))
        | none =>
          (repeat' (first | (k_unfold; (try dsimp only)) | (k_end; wrow_close) | ((fail_if_success (fail_if_success (with_reducible show wpAny _ _ (call _ _ _) _ _ _))); first | (with_reducible (k_here; (fail_if_success (fail_if_success (with_reducible show wpAny _ _ (call (Value.ref _) [_, _]) _ _ _))); k_dflt (refine CtrE.same (by k_asm) (by k_asm) (by k_asm) (by k_asm) (by k_asm) (by exact rfl) (by ktr_room) (by ktr_units) (by assumption) (sorts_ctr (by k_mem) (by assumption) (by assumption) (by assumption) (by assumption) (by (refine DmAll.mono ?_ (by assumption); intro _ _; k_mem)) (by assumption) (by assumption) (by omega)) ?_ ?_); (intro _ _ _ _ _ _); (try dsimp only); (try k_fold); rotate_left; (intro _ _ _ _ _ _ _ _); (try dsimp only); rotate_right)) | (with_reducible (k_here; (fail_if_success (fail_if_success (with_reducible show wpAny _ _ (call (Value.ref _) [_, _]) _ _ _))); k_dflt (refine Ctr.new1 (by k_asm) (by k_asm) (by k_asm) (by k_asm) (by k_asm) (by exact rfl) (by ktr_room) (by ktr_units) (followers_ctr (by k_mem) (by assumption) (by omega) (by k_mem) (by assumption) (by assumption) (by assumption) (by assumption)) ?_); (intro _ _ _ _ _ _ _ _); (try dsimp only); (try k_fold))) | (with_reducible (k_here; (fail_if_success (fail_if_success (with_reducible show wpAny _ _ (call (Value.ref _) [_]) _ _ _))); k_dflt (refine Ctr.new (by k_asm) (by k_asm) (by k_asm) (by k_asm) (by k_asm) (by exact rfl) (by ktr_room) (by ktr_units) (uses_ctr (by k_mem) (by assumption) (by assumption) (by assumption) (by assumption) (by assumption) (by omega)) ?_); (intro _ _ _ _ _ _ _); (try dsimp only); (try k_fold))) | (with_reducible (k_here; (fail_if_success (fail_if_success (with_reducible show wpAny _ _ (call (Value.type "str") [Value.ref _]) _ _ _))); k_dflt (refine str_dm (by k_asm) (by k_asm) (by (refine Dm.mono ?_ (by assumption); intro _ _; k_mem)) (by assumption) (by assumption) (by ktr_units) ?_); intro _ _ _ _ _ _ _; (try dsimp only))) | ((fail_if_success (fail_if_success (with_reducible show wpAny _ _ (call (Value.builtin "len") _ _) _ _ _))); with_reducible (k_here; k_dflt (refine len_tup (by k_asm) (by k_dflt k_mem) (by assumption) (by first | assumption | omega) ?_); intro _ _; (try dsimp only))) | (with_reducible (k_here; (fail_if_success (fail_if_success (with_reducible show wpAny _ _ (call (Value.ref _) [_]) _ _ _))); k_dflt (refine Ctr.same (by k_asm) (by k_asm) (by k_asm) (by k_asm) (by k_asm) (by exact rfl) (by ktr_room) (by ktr_units) (sets_ctr2 (by k_mem) (by assumption) (by assumption) (by assumption) (by assumption) (by assumption)) ?_); (intro _ _ _ _ _); (try dsimp only); (try k_fold))) | (with_reducible (k_here; (fail_if_success (fail_if_success (with_reducible show wpAny _ _ (call (Value.ref 52) [Value.str _ _]) _ _ _))); k_dflt (refine fault_made (by k_asm) (by k_asm) (by k_asm) (by k_asm) (by k_asm) (by exact rfl) (by ktr_room) (by ktr_units) ?_); (intro _ _ _ _ _ _ _ _); (try dsimp only); (try k_fold))) | ((fail_if_success (fail_if_success (with_reducible show wpAny _ _ (call (Value.type "zip") _ _) _ _ _))); with_reducible (k_here; k_dflt (refine call_zipK (by k_asm) (by k_asm) (by k_mem) (by assumption) ?_); intro _ _ _ _ _)) | (with_reducible (k_here; (fail_if_success (fail_if_success (with_reducible show wpAny _ _ (call (Value.ref _) [_]) _ _ _))); k_dflt (refine Ctr.same (by k_asm) (by k_asm) (by k_asm) (by k_asm) (by k_asm) (by exact rfl) (by ktr_room) (by ktr_units) (shape_ctr (by k_mem) (by assumption) (by assumption) (by assumption)) ?_); (intro _ _ _ _ _); (try dsimp only); (try k_fold)))) | ((fail_if_success (fail_if_success (with_reducible show wpAny _ _ (subscriptTail _ _ _ _) _ _ _))); first | (with_reducible (k_here; (fail_if_success (fail_if_success (with_reducible show wpAny _ _ (subscriptTail _ _ (Value.ref _) (Value.int _ _)) _ _ _))); first | ((fail_if_success (fail_if_success (with_reducible show wpAny _ _ (subscriptTail _ _ _ (Value.int 0 _)) _ _ _))); (with_unfolding_all refine row0 (by k_asm) (by k_mem) ?_ (by with_unfolding_all rfl))) | ((fail_if_success (fail_if_success (with_reducible show wpAny _ _ (subscriptTail _ _ _ (Value.int 1 _)) _ _ _))); (with_unfolding_all refine row1 (by k_asm) (by k_mem) ?_ (by with_unfolding_all rfl))) | ((fail_if_success (fail_if_success (with_reducible show wpAny _ _ (subscriptTail _ _ _ (Value.int 2 _)) _ _ _))); (with_unfolding_all refine row2 (by k_asm) (by k_mem) ?_ (by with_unfolding_all rfl))) | ((fail_if_success (fail_if_success (with_reducible show wpAny _ _ (subscriptTail _ _ _ (Value.int 3 _)) _ _ _))); (with_unfolding_all refine row3 (by k_asm) (by k_mem) ?_ (by with_unfolding_all rfl))) | ((fail_if_success (fail_if_success (with_reducible show wpAny _ _ (subscriptTail _ _ _ (Value.int 4 _)) _ _ _))); (with_unfolding_all refine row4 (by k_asm) (by k_mem) ?_ (by with_unfolding_all rfl))) | ((fail_if_success (fail_if_success (with_reducible show wpAny _ _ (subscriptTail _ _ _ (Value.int (Nat.cast _) _)) _ _ _))); (with_unfolding_all refine row_i _ (by k_asm) (by k_mem) (by assumption) (by omega) ?_ (by with_unfolding_all rfl))))) | (with_reducible (k_here; (fail_if_success (fail_if_success (with_reducible show wpAny _ _ (subscriptTail _ _ (Value.ref _) (Value.ref _)) _ _ _))); (with_unfolding_all refine row_tail (by k_asm) (by k_asm) (by k_mem) (by assumption) ?_ (by with_unfolding_all rfl) (by (intro _; with_unfolding_all rfl))); intro _ _ _ _ _))) | ((fail_if_success (fail_if_success (with_reducible show wpAny _ _ (binaryOp _ _ _) _ _ _))); first | ((fail_if_success (fail_if_success (with_reducible show wpAny _ _ (binaryOp .Add (Value.ref _) (Value.ref _)) _ _ _))); with_reducible (k_here; k_dflt (refine addL (by k_asm) (by k_asm) (by k_mem) (by k_mem) (by simp only [List.length_nil, List.length_cons, List.length_append]; omega) ?_); intro _ _ _ _ _))) | ((fail_if_success (fail_if_success (with_reducible show wpAny _ _ (compareOp _ _ _) _ _ _))); first | ((fail_if_success (fail_if_success (with_reducible show wpAny _ _ (compareOp .NotIn _ _) _ _ _))); with_reducible (k_here; k_dflt (refine notIn_one (by k_asm) (by (refine Dm.mono ?_ (by assumption); intro _ _; k_mem)) (by k_mem) (by ktr_units) ?_)))) | walk1 | (dsimp only; walk1) | (leave1; walk_say "STEP leave1"; try dsimp only) | fail "no step"))
          (k_dflt (refine raise_end (by k_asm) (by k_asm) (by k_asm) (by assumption) (by rfl) ?_); intro h9 R9 U9; exact hexc (row_no3 hd rfl) _ _ _ _ FG' U9 (R9.sub (by intro q9 hq9; k_mem)))
      | tup mm _ =>
        (repeat' (first | (k_unfold; (try dsimp only)) | (k_end; wrow_close) | ((fail_if_success (fail_if_success (with_reducible show wpAny _ _ (call _ _ _) _ _ _))); first | (with_reducible (k_here; (fail_if_success (fail_if_success (with_reducible show wpAny _ _ (call (Value.ref _) [_, _]) _ _ _))); k_dflt (refine CtrE.same (by k_asm) (by k_asm) (by k_asm) (by k_asm) (by k_asm) (by exact rfl) (by ktr_room) (by ktr_units) (by assumption) (sorts_ctr (by k_mem) (by assumption) (by assumption) (by assumption) (by assumption) (by (refine DmAll.mono ?_ (by assumption); intro _ _; k_mem)) (by assumption) (by assumption) (by omega)) ?_ ?_); (intro _ _ _ _ _ _); (try dsimp only); (try k_fold); rotate_left; (intro _ _ _ _ _ _ _ _); (try dsimp only); rotate_right)) | (with_reducible (k_here; (fail_if_success (fail_if_success (with_reducible show wpAny _ _ (call (Value.ref _) [_, _]) _ _ _))); k_dflt (refine Ctr.new1 (by k_asm) (by k_asm) (by k_asm) (by k_asm) (by k_asm) (by exact rfl) (by ktr_room) (by ktr_units) (followers_ctr (by k_mem) (by assumption) (by omega) (by k_mem) (by assumption) (by assumption) (by assumption) (by assumption)) ?_); (intro _ _ _ _ _ _ _ _); (try dsimp only); (try k_fold))) | (with_reducible (k_here; (fail_if_success (fail_if_success (with_reducible show wpAny _ _ (call (Value.ref _) [_]) _ _ _))); k_dflt (refine Ctr.new (by k_asm) (by k_asm) (by k_asm) (by k_asm) (by k_asm) (by exact rfl) (by ktr_room) (by ktr_units) (uses_ctr (by k_mem) (by assumption) (by assumption) (by assumption) (by assumption) (by assumption) (by omega)) ?_); (intro _ _ _ _ _ _ _); (try dsimp only); (try k_fold))) | (with_reducible (k_here; (fail_if_success (fail_if_success (with_reducible show wpAny _ _ (call (Value.type "str") [Value.ref _]) _ _ _))); k_dflt (refine str_dm (by k_asm) (by k_asm) (by (refine Dm.mono ?_ (by assumption); intro _ _; k_mem)) (by assumption) (by assumption) (by ktr_units) ?_); intro _ _ _ _ _ _ _; (try dsimp only))) | ((fail_if_success (fail_if_success (with_reducible show wpAny _ _ (call (Value.builtin "len") _ _) _ _ _))); with_reducible (k_here; k_dflt (refine len_tup (by k_asm) (by k_dflt k_mem) (by assumption) (by first | assumption | omega) ?_); intro _ _; (try dsimp only))) | (with_reducible (k_here; (fail_if_success (fail_if_success (with_reducible show wpAny _ _ (call (Value.ref _) [_]) _ _ _))); k_dflt (refine Ctr.same (by k_asm) (by k_asm) (by k_asm) (by k_asm) (by k_asm) (by exact rfl) (by ktr_room) (by ktr_units) (sets_ctr2 (by k_mem) (by assumption) (by assumption) (by assumption) (by assumption) (by assumption)) ?_); (intro _ _ _ _ _); (try dsimp only); (try k_fold))) | (with_reducible (k_here; (fail_if_success (fail_if_success (with_reducible show wpAny _ _ (call (Value.ref 52) [Value.str _ _]) _ _ _))); k_dflt (refine fault_made (by k_asm) (by k_asm) (by k_asm) (by k_asm) (by k_asm) (by exact rfl) (by ktr_room) (by ktr_units) ?_); (intro _ _ _ _ _ _ _ _); (try dsimp only); (try k_fold))) | ((fail_if_success (fail_if_success (with_reducible show wpAny _ _ (call (Value.type "zip") _ _) _ _ _))); with_reducible (k_here; k_dflt (refine call_zipK (by k_asm) (by k_asm) (by k_mem) (by assumption) ?_); intro _ _ _ _ _)) | (with_reducible (k_here; (fail_if_success (fail_if_success (with_reducible show wpAny _ _ (call (Value.ref _) [_]) _ _ _))); k_dflt (refine Ctr.same (by k_asm) (by k_asm) (by k_asm) (by k_asm) (by k_asm) (by exact rfl) (by ktr_room) (by ktr_units) (shape_ctr (by k_mem) (by assumption) (by assumption) (by assumption)) ?_); (intro _ _ _ _ _); (try dsimp only); (try k_fold)))) | ((fail_if_success (fail_if_success (with_reducible show wpAny _ _ (subscriptTail _ _ _ _) _ _ _))); first | (with_reducible (k_here; (fail_if_success (fail_if_success (with_reducible show wpAny _ _ (subscriptTail _ _ (Value.ref _) (Value.int _ _)) _ _ _))); first | ((fail_if_success (fail_if_success (with_reducible show wpAny _ _ (subscriptTail _ _ _ (Value.int 0 _)) _ _ _))); (with_unfolding_all refine row0 (by k_asm) (by k_mem) ?_ (by with_unfolding_all rfl))) | ((fail_if_success (fail_if_success (with_reducible show wpAny _ _ (subscriptTail _ _ _ (Value.int 1 _)) _ _ _))); (with_unfolding_all refine row1 (by k_asm) (by k_mem) ?_ (by with_unfolding_all rfl))) | ((fail_if_success (fail_if_success (with_reducible show wpAny _ _ (subscriptTail _ _ _ (Value.int 2 _)) _ _ _))); (with_unfolding_all refine row2 (by k_asm) (by k_mem) ?_ (by with_unfolding_all rfl))) | ((fail_if_success (fail_if_success (with_reducible show wpAny _ _ (subscriptTail _ _ _ (Value.int 3 _)) _ _ _))); (with_unfolding_all refine row3 (by k_asm) (by k_mem) ?_ (by with_unfolding_all rfl))) | ((fail_if_success (fail_if_success (with_reducible show wpAny _ _ (subscriptTail _ _ _ (Value.int 4 _)) _ _ _))); (with_unfolding_all refine row4 (by k_asm) (by k_mem) ?_ (by with_unfolding_all rfl))) | ((fail_if_success (fail_if_success (with_reducible show wpAny _ _ (subscriptTail _ _ _ (Value.int (Nat.cast _) _)) _ _ _))); (with_unfolding_all refine row_i _ (by k_asm) (by k_mem) (by assumption) (by omega) ?_ (by with_unfolding_all rfl))))) | (with_reducible (k_here; (fail_if_success (fail_if_success (with_reducible show wpAny _ _ (subscriptTail _ _ (Value.ref _) (Value.ref _)) _ _ _))); (with_unfolding_all refine row_tail (by k_asm) (by k_asm) (by k_mem) (by assumption) ?_ (by with_unfolding_all rfl) (by (intro _; with_unfolding_all rfl))); intro _ _ _ _ _))) | ((fail_if_success (fail_if_success (with_reducible show wpAny _ _ (binaryOp _ _ _) _ _ _))); first | ((fail_if_success (fail_if_success (with_reducible show wpAny _ _ (binaryOp .Add (Value.ref _) (Value.ref _)) _ _ _))); with_reducible (k_here; k_dflt (refine addL (by k_asm) (by k_asm) (by k_mem) (by k_mem) (by simp only [List.length_nil, List.length_cons, List.length_append]; omega) ?_); intro _ _ _ _ _))) | ((fail_if_success (fail_if_success (with_reducible show wpAny _ _ (compareOp _ _ _) _ _ _))); first | ((fail_if_success (fail_if_success (with_reducible show wpAny _ _ (compareOp .NotIn _ _) _ _ _))); with_reducible (k_here; k_dflt (refine notIn_one (by k_asm) (by (refine Dm.mono ?_ (by assumption); intro _ _; k_mem)) (by k_mem) (by ktr_units) ?_)))) | walk1 | (dsimp only; walk1) | (leave1; walk_say "STEP leave1"; try dsimp only) | fail "no step"))
        (k_dflt (refine raise_end (by k_asm) (by k_asm) (by k_asm) (by assumption) (by rfl) ?_); intro h9 R9 U9; exact hexc (row_no3 hd rfl) _ _ _ _ FG' U9 (R9.sub (by intro q9 hq9; k_mem)))
      | lst mm _ =>
        (repeat' (first | (k_unfold; (try dsimp only)) | (k_end; wrow_close) | ((fail_if_success (fail_if_success (with_reducible show wpAny _ _ (call _ _ _) _ _ _))); first | (with_reducible (k_here; (fail_if_success (fail_if_success (with_reducible show wpAny _ _ (call (Value.ref _) [_, _]) _ _ _))); k_dflt (refine CtrE.same (by k_asm) (by k_asm) (by k_asm) (by k_asm) (by k_asm) (by exact rfl) (by ktr_room) (by ktr_units) (by assumption) (sorts_ctr (by k_mem) (by assumption) (by assumption) (by assumption) (by assumption) (by (refine DmAll.mono ?_ (by assumption); intro _ _; k_mem)) (by assumption) (by assumption) (by omega)) ?_ ?_); (intro _ _ _ _ _ _); (try dsimp only); (try k_fold); rotate_left; (intro _ _ _ _ _ _ _ _); (try dsimp only); rotate_right)) | (with_reducible (k_here; (fail_if_success (fail_if_success (with_reducible show wpAny _ _ (call (Value.ref _) [_, _]) _ _ _))); k_dflt (refine Ctr.new1 (by k_asm) (by k_asm) (by k_asm) (by k_asm) (by k_asm) (by exact rfl) (by ktr_room) (by ktr_units) (followers_ctr (by k_mem) (by assumption) (by omega) (by k_mem) (by assumption) (by assumption) (by assumption) (by assumption)) ?_); (intro _ _ _ _ _ _ _ _); (try dsimp only); (try k_fold))) | (with_reducible (k_here; (fail_if_success (fail_if_success (with_reducible show wpAny _ _ (call (Value.ref _) [_]) _ _ _))); k_dflt (refine Ctr.new (by k_asm) (by k_asm) (by k_asm) (by k_asm) (by k_asm) (by exact rfl) (by ktr_room) (by ktr_units) (uses_ctr (by k_mem) (by assumption) (by assumption) (by assumption) (by assumption) (by assumption) (by omega)) ?_); (intro _ _ _ _ _ _ _); (try dsimp only); (try k_fold))) | (with_reducible (k_here; (fail_if_success (fail_if_success (with_reducible show wpAny _ _ (call (Value.type "str") [Value.ref _]) _ _ _))); k_dflt (refine str_dm (by k_asm) (by k_asm) (by (refine Dm.mono ?_ (by assumption); intro _ _; k_mem)) (by assumption) (by assumption) (by ktr_units) ?_); intro _ _ _ _ _ _ _; (try dsimp only))) | ((fail_if_success (fail_if_success (with_reducible show wpAny _ _ (call (Value.builtin "len") _ _) _ _ _))); with_reducible (k_here; k_dflt (refine len_tup (by k_asm) (by k_dflt k_mem) (by assumption) (by first | assumption | omega) ?_); intro _ _; (try dsimp only))) | (with_reducible (k_here; (fail_if_success (fail_if_success (with_reducible show wpAny _ _ (call (Value.ref _) [_]) _ _ _))); k_dflt (refine Ctr.same (by k_asm) (by k_asm) (by k_asm) (by k_asm) (by k_asm) (by exact rfl) (by ktr_room) (by ktr_units) (sets_ctr2 (by k_mem) (by assumption) (by assumption) (by assumption) (by assumption) (by assumption)) ?_); (intro _ _ _ _ _); (try dsimp only); (try k_fold))) | (with_reducible (k_here; (fail_if_success (fail_if_success (with_reducible show wpAny _ _ (call (Value.ref 52) [Value.str _ _]) _ _ _))); k_dflt (refine fault_made (by k_asm) (by k_asm) (by k_asm) (by k_asm) (by k_asm) (by exact rfl) (by ktr_room) (by ktr_units) ?_); (intro _ _ _ _ _ _ _ _); (try dsimp only); (try k_fold))) | ((fail_if_success (fail_if_success (with_reducible show wpAny _ _ (call (Value.type "zip") _ _) _ _ _))); with_reducible (k_here; k_dflt (refine call_zipK (by k_asm) (by k_asm) (by k_mem) (by assumption) ?_); intro _ _ _ _ _)) | (with_reducible (k_here; (fail_if_success (fail_if_success (with_reducible show wpAny _ _ (call (Value.ref _) [_]) _ _ _))); k_dflt (refine Ctr.same (by k_asm) (by k_asm) (by k_asm) (by k_asm) (by k_asm) (by exact rfl) (by ktr_room) (by ktr_units) (shape_ctr (by k_mem) (by assumption) (by assumption) (by assumption)) ?_); (intro _ _ _ _ _); (try dsimp only); (try k_fold)))) | ((fail_if_success (fail_if_success (with_reducible show wpAny _ _ (subscriptTail _ _ _ _) _ _ _))); first | (with_reducible (k_here; (fail_if_success (fail_if_success (with_reducible show wpAny _ _ (subscriptTail _ _ (Value.ref _) (Value.int _ _)) _ _ _))); first | ((fail_if_success (fail_if_success (with_reducible show wpAny _ _ (subscriptTail _ _ _ (Value.int 0 _)) _ _ _))); (with_unfolding_all refine row0 (by k_asm) (by k_mem) ?_ (by with_unfolding_all rfl))) | ((fail_if_success (fail_if_success (with_reducible show wpAny _ _ (subscriptTail _ _ _ (Value.int 1 _)) _ _ _))); (with_unfolding_all refine row1 (by k_asm) (by k_mem) ?_ (by with_unfolding_all rfl))) | ((fail_if_success (fail_if_success (with_reducible show wpAny _ _ (subscriptTail _ _ _ (Value.int 2 _)) _ _ _))); (with_unfolding_all refine row2 (by k_asm) (by k_mem) ?_ (by with_unfolding_all rfl))) | ((fail_if_success (fail_if_success (with_reducible show wpAny _ _ (subscriptTail _ _ _ (Value.int 3 _)) _ _ _))); (with_unfolding_all refine row3 (by k_asm) (by k_mem) ?_ (by with_unfolding_all rfl))) | ((fail_if_success (fail_if_success (with_reducible show wpAny _ _ (subscriptTail _ _ _ (Value.int 4 _)) _ _ _))); (with_unfolding_all refine row4 (by k_asm) (by k_mem) ?_ (by with_unfolding_all rfl))) | ((fail_if_success (fail_if_success (with_reducible show wpAny _ _ (subscriptTail _ _ _ (Value.int (Nat.cast _) _)) _ _ _))); (with_unfolding_all refine row_i _ (by k_asm) (by k_mem) (by assumption) (by omega) ?_ (by with_unfolding_all rfl))))) | (with_reducible (k_here; (fail_if_success (fail_if_success (with_reducible show wpAny _ _ (subscriptTail _ _ (Value.ref _) (Value.ref _)) _ _ _))); (with_unfolding_all refine row_tail (by k_asm) (by k_asm) (by k_mem) (by assumption) ?_ (by with_unfolding_all rfl) (by (intro _; with_unfolding_all rfl))); intro _ _ _ _ _))) | ((fail_if_success (fail_if_success (with_reducible show wpAny _ _ (binaryOp _ _ _) _ _ _))); first | ((fail_if_success (fail_if_success (with_reducible show wpAny _ _ (binaryOp .Add (Value.ref _) (Value.ref _)) _ _ _))); with_reducible (k_here; k_dflt (refine addL (by k_asm) (by k_asm) (by k_mem) (by k_mem) (by simp only [List.length_nil, List.length_cons, List.length_append]; omega) ?_); intro _ _ _ _ _))) | ((fail_if_success (fail_if_success (with_reducible show wpAny _ _ (compareOp _ _ _) _ _ _))); first | ((fail_if_success (fail_if_success (with_reducible show wpAny _ _ (compareOp .NotIn _ _) _ _ _))); with_reducible (k_here; k_dflt (refine notIn_one (by k_asm) (by (refine Dm.mono ?_ (by assumption); intro _ _; k_mem)) (by k_mem) (by ktr_units) ?_)))) | walk1 | (dsimp only; walk1) | (leave1; walk_say "STEP leave1"; try dsimp only) | fail "no step"))
        (k_dflt (refine raise_end (by k_asm) (by k_asm) (by k_asm) (by assumption) (by rfl) ?_); intro h9 R9 U9; exact hexc (row_no3 hd rfl) _ _ _ _ FG' U9 (R9.sub (by intro q9 hq9; k_mem)))
    · intro u h tk F3 N3 hP3
      have hop := row_op hok hP (Nat.le_of_eq hrd.len.symm) hP3 (Nat.le_of_eq hgd.len.symm)
      clear hrd hgd hP hP3 hU hud
      by_cases h1 : op = Str.ofString "static"
      · have hI := tl2 (Str.ofString "dx") h1 (shp_eq (h1 ▸ hs) (by k_is)) hl rfl hp
        clear h1 hp
        cases hI with | mk a1 =>
        have hs1 := hsm _ (List.mem_cons_of_mem _ (List.mem_cons_self))
        have hb1 := hpl _ (List.mem_cons_of_mem _ (List.mem_cons_self))
        have a2 := a1
        cases a1 with
        | «at» cv => cases cv with
          | none => cases hb1
          | bool => cases hb1
          | int =>
            obtain ⟨hi1, hi2⟩ := plain_int hb1
            (repeat' (first | (k_unfold; (try dsimp only)) | (k_end; wrow_close) | ((fail_if_success (fail_if_success (with_reducible show wpAny _ _ (call _ _ _) _ _ _))); first | (with_reducible (k_here; (fail_if_success (fail_if_success (with_reducible show wpAny _ _ (call (Value.ref _) [_, _]) _ _ _))); k_dflt (refine CtrE.same (by k_asm) (by k_asm) (by k_asm) (by k_asm) (by k_asm) (by exact rfl) (by ktr_room) (by ktr_units) (by assumption) (sorts_ctr (by k_mem) (by assumption) (by assumption) (by assumption) (by assumption) (by (refine DmAll.mono ?_ (by assumption); intro _ _; k_mem)) (by assumption) (by assumption) (by omega)) ?_ ?_); (intro _ _ _ _ _ _); (try dsimp only); (try k_fold); rotate_left; (intro _ _ _ _ _ _ _ _); (try dsimp only); rotate_right)) | (with_reducible (k_here; (fail_if_success (fail_if_success (with_reducible show wpAny _ _ (call (Value.ref _) [_, _]) _ _ _))); k_dflt (refine Ctr.new1 (by k_asm) (by k_asm) (by k_asm) (by k_asm) (by k_asm) (by exact rfl) (by ktr_room) (by ktr_units) (followers_ctr (by k_mem) (by assumption) (by omega) (by k_mem) (by assumption) (by assumption) (by assumption) (by assumption)) ?_); (intro _ _ _ _ _ _ _ _); (try dsimp only); (try k_fold))) | (with_reducible (k_here; (fail_if_success (fail_if_success (with_reducible show wpAny _ _ (call (Value.ref _) [_]) _ _ _))); k_dflt (refine Ctr.new (by k_asm) (by k_asm) (by k_asm) (by k_asm) (by k_asm) (by exact rfl) (by ktr_room) (by ktr_units) (uses_ctr (by k_mem) (by assumption) (by assumption) (by assumption) (by assumption) (by assumption) (by omega)) ?_); (intro _ _ _ _ _ _ _); (try dsimp only); (try k_fold))) | (with_reducible (k_here; (fail_if_success (fail_if_success (with_reducible show wpAny _ _ (call (Value.type "str") [Value.ref _]) _ _ _))); k_dflt (refine str_dm (by k_asm) (by k_asm) (by (refine Dm.mono ?_ (by assumption); intro _ _; k_mem)) (by assumption) (by assumption) (by ktr_units) ?_); intro _ _ _ _ _ _ _; (try dsimp only))) | ((fail_if_success (fail_if_success (with_reducible show wpAny _ _ (call (Value.builtin "len") _ _) _ _ _))); with_reducible (k_here; k_dflt (refine len_tup (by k_asm) (by k_dflt k_mem) (by assumption) (by first | assumption | omega) ?_); intro _ _; (try dsimp only))) | (with_reducible (k_here; (fail_if_success (fail_if_success (with_reducible show wpAny _ _ (call (Value.ref _) [_]) _ _ _))); k_dflt (refine Ctr.same (by k_asm) (by k_asm) (by k_asm) (by k_asm) (by k_asm) (by exact rfl) (by ktr_room) (by ktr_units) (sets_ctr2 (by k_mem) (by assumption) (by assumption) (by assumption) (by assumption) (by assumption)) ?_); (intro _ _ _ _ _); (try dsimp only); (try k_fold))) | (with_reducible (k_here; (fail_if_success (fail_if_success (with_reducible show wpAny _ _ (call (Value.ref 52) [Value.str _ _]) _ _ _))); k_dflt (refine fault_made (by k_asm) (by k_asm) (by k_asm) (by k_asm) (by k_asm) (by exact rfl) (by ktr_room) (by ktr_units) ?_); (intro _ _ _ _ _ _ _ _); (try dsimp only); (try k_fold))) | ((fail_if_success (fail_if_success (with_reducible show wpAny _ _ (call (Value.type "zip") _ _) _ _ _))); with_reducible (k_here; k_dflt (refine call_zipK (by k_asm) (by k_asm) (by k_mem) (by assumption) ?_); intro _ _ _ _ _)) | (with_reducible (k_here; (fail_if_success (fail_if_success (with_reducible show wpAny _ _ (call (Value.ref _) [_]) _ _ _))); k_dflt (refine Ctr.same (by k_asm) (by k_asm) (by k_asm) (by k_asm) (by k_asm) (by exact rfl) (by ktr_room) (by ktr_units) (shape_ctr (by k_mem) (by assumption) (by assumption) (by assumption)) ?_); (intro _ _ _ _ _); (try dsimp only); (try k_fold)))) | ((fail_if_success (fail_if_success (with_reducible show wpAny _ _ (subscriptTail _ _ _ _) _ _ _))); first | (with_reducible (k_here; (fail_if_success (fail_if_success (with_reducible show wpAny _ _ (subscriptTail _ _ (Value.ref _) (Value.int _ _)) _ _ _))); first | ((fail_if_success (fail_if_success (with_reducible show wpAny _ _ (subscriptTail _ _ _ (Value.int 0 _)) _ _ _))); (with_unfolding_all refine row0 (by k_asm) (by k_mem) ?_ (by with_unfolding_all rfl))) | ((fail_if_success (fail_if_success (with_reducible show wpAny _ _ (subscriptTail _ _ _ (Value.int 1 _)) _ _ _))); (with_unfolding_all refine row1 (by k_asm) (by k_mem) ?_ (by with_unfolding_all rfl))) | ((fail_if_success (fail_if_success (with_reducible show wpAny _ _ (subscriptTail _ _ _ (Value.int 2 _)) _ _ _))); (with_unfolding_all refine row2 (by k_asm) (by k_mem) ?_ (by with_unfolding_all rfl))) | ((fail_if_success (fail_if_success (with_reducible show wpAny _ _ (subscriptTail _ _ _ (Value.int 3 _)) _ _ _))); (with_unfolding_all refine row3 (by k_asm) (by k_mem) ?_ (by with_unfolding_all rfl))) | ((fail_if_success (fail_if_success (with_reducible show wpAny _ _ (subscriptTail _ _ _ (Value.int 4 _)) _ _ _))); (with_unfolding_all refine row4 (by k_asm) (by k_mem) ?_ (by with_unfolding_all rfl))) | ((fail_if_success (fail_if_success (with_reducible show wpAny _ _ (subscriptTail _ _ _ (Value.int (Nat.cast _) _)) _ _ _))); (with_unfolding_all refine row_i _ (by k_asm) (by k_mem) (by assumption) (by omega) ?_ (by with_unfolding_all rfl))))) | (with_reducible (k_here; (fail_if_success (fail_if_success (with_reducible show wpAny _ _ (subscriptTail _ _ (Value.ref _) (Value.ref _)) _ _ _))); (with_unfolding_all refine row_tail (by k_asm) (by k_asm) (by k_mem) (by assumption) ?_ (by with_unfolding_all rfl) (by (intro _; with_unfolding_all rfl))); intro _ _ _ _ _))) | ((fail_if_success (fail_if_success (with_reducible show wpAny _ _ (binaryOp _ _ _) _ _ _))); first | ((fail_if_success (fail_if_success (with_reducible show wpAny _ _ (binaryOp .Add (Value.ref _) (Value.ref _)) _ _ _))); with_reducible (k_here; k_dflt (refine addL (by k_asm) (by k_asm) (by k_mem) (by k_mem) (by simp only [List.length_nil, List.length_cons, List.length_append]; omega) ?_); intro _ _ _ _ _))) | ((fail_if_success (fail_if_success (with_reducible show wpAny _ _ (compareOp _ _ _) _ _ _))); first | ((fail_if_success (fail_if_success (with_reducible show wpAny _ _ (compareOp .NotIn _ _) _ _ _))); with_reducible (k_here; k_dflt (refine notIn_one (by k_asm) (by (refine Dm.mono ?_ (by assumption); intro _ _; k_mem)) (by k_mem) (by ktr_units) ?_)))) | walk1 | (dsimp only; walk1) | (leave1; walk_say "STEP leave1"; try dsimp only) | fail "no step"))
            · (rename_i kF9 kN9 _ _; exact hret (hop.trans (op_static.trans (by assumption))) _ [] _ _ kF9 (News.sub kN9 (by intro q9 hq9; k_mem)) (fun _ _ _ h => nomatch h) ⟨rfl, rfl⟩)
            · (k_dflt (refine raise_end (by k_asm) (by k_asm) (by k_asm) (by assumption) (by rfl) ?_); intro h9 R9 U9; exact hexc (hop.trans (op_static.trans (by assumption))) _ _ _ _ FG' U9 (R9.sub (by intro q9 hq9; k_mem)))
          | str =>
            replace hb1 := plain_str hb1
            (repeat' (first | (k_unfold; (try dsimp only)) | (k_end; wrow_close) | ((fail_if_success (fail_if_success (with_reducible show wpAny _ _ (call _ _ _) _ _ _))); first | (with_reducible (k_here; (fail_if_success (fail_if_success (with_reducible show wpAny _ _ (call (Value.ref _) [_, _]) _ _ _))); k_dflt (refine CtrE.same (by k_asm) (by k_asm) (by k_asm) (by k_asm) (by k_asm) (by exact rfl) (by ktr_room) (by ktr_units) (by assumption) (sorts_ctr (by k_mem) (by assumption) (by assumption) (by assumption) (by assumption) (by (refine DmAll.mono ?_ (by assumption); intro _ _; k_mem)) (by assumption) (by assumption) (by omega)) ?_ ?_); (intro _ _ _ _ _ _); (try dsimp only); (try k_fold); rotate_left; (intro _ _ _ _ _ _ _ _); (try dsimp only); rotate_right)) | (with_reducible (k_here; (fail_if_success (fail_if_success (with_reducible show wpAny _ _ (call (Value.ref _) [_, _]) _ _ _))); k_dflt (refine Ctr.new1 (by k_asm) (by k_asm) (by k_asm) (by k_asm) (by k_asm) (by exact rfl) (by ktr_room) (by ktr_units) (followers_ctr (by k_mem) (by assumption) (by omega) (by k_mem) (by assumption) (by assumption) (by assumption) (by assumption)) ?_); (intro _ _ _ _ _ _ _ _); (try dsimp only); (try k_fold))) | (with_reducible (k_here; (fail_if_success (fail_if_success (with_reducible show wpAny _ _ (call (Value.ref _) [_]) _ _ _))); k_dflt (refine Ctr.new (by k_asm) (by k_asm) (by k_asm) (by k_asm) (by k_asm) (by exact rfl) (by ktr_room) (by ktr_units) (uses_ctr (by k_mem) (by assumption) (by assumption) (by assumption) (by assumption) (by assumption) (by omega)) ?_); (intro _ _ _ _ _ _ _); (try dsimp only); (try k_fold))) | (with_reducible (k_here; (fail_if_success (fail_if_success (with_reducible show wpAny _ _ (call (Value.type "str") [Value.ref _]) _ _ _))); k_dflt (refine str_dm (by k_asm) (by k_asm) (by (refine Dm.mono ?_ (by assumption); intro _ _; k_mem)) (by assumption) (by assumption) (by ktr_units) ?_); intro _ _ _ _ _ _ _; (try dsimp only))) | ((fail_if_success (fail_if_success (with_reducible show wpAny _ _ (call (Value.builtin "len") _ _) _ _ _))); with_reducible (k_here; k_dflt (refine len_tup (by k_asm) (by k_dflt k_mem) (by assumption) (by first | assumption | omega) ?_); intro _ _; (try dsimp only))) | (with_reducible (k_here; (fail_if_success (fail_if_success (with_reducible show wpAny _ _ (call (Value.ref _) [_]) _ _ _))); k_dflt (refine Ctr.same (by k_asm) (by k_asm) (by k_asm) (by k_asm) (by k_asm) (by exact rfl) (by ktr_room) (by ktr_units) (sets_ctr2 (by k_mem) (by assumption) (by assumption) (by assumption) (by assumption) (by assumption)) ?_); (intro _ _ _ _ _); (try dsimp only); (try k_fold))) | (with_reducible (k_here; (fail_if_success (fail_if_success (with_reducible show wpAny _ _ (call (Value.ref 52) [Value.str _ _]) _ _ _))); k_dflt (refine fault_made (by k_asm) (by k_asm) (by k_asm) (by k_asm) (by k_asm) (by exact rfl) (by ktr_room) (by ktr_units) ?_); (intro _ _ _ _ _ _ _ _); (try dsimp only); (try k_fold))) | ((fail_if_success (fail_if_success (with_reducible show wpAny _ _ (call (Value.type "zip") _ _) _ _ _))); with_reducible (k_here; k_dflt (refine call_zipK (by k_asm) (by k_asm) (by k_mem) (by assumption) ?_); intro _ _ _ _ _)) | (with_reducible (k_here; (fail_if_success (fail_if_success (with_reducible show wpAny _ _ (call (Value.ref _) [_]) _ _ _))); k_dflt (refine Ctr.same (by k_asm) (by k_asm) (by k_asm) (by k_asm) (by k_asm) (by exact rfl) (by ktr_room) (by ktr_units) (shape_ctr (by k_mem) (by assumption) (by assumption) (by assumption)) ?_); (intro _ _ _ _ _); (try dsimp only); (try k_fold)))) | ((fail_if_success (fail_if_success (with_reducible show wpAny _ _ (subscriptTail _ _ _ _) _ _ _))); first | (with_reducible (k_here; (fail_if_success (fail_if_success (with_reducible show wpAny _ _ (subscriptTail _ _ (Value.ref _) (Value.int _ _)) _ _ _))); first | ((fail_if_success (fail_if_success (with_reducible show wpAny _ _ (subscriptTail _ _ _ (Value.int 0 _)) _ _ _))); (with_unfolding_all refine row0 (by k_asm) (by k_mem) ?_ (by with_unfolding_all rfl))) | ((fail_if_success (fail_if_success (with_reducible show wpAny _ _ (subscriptTail _ _ _ (Value.int 1 _)) _ _ _))); (with_unfolding_all refine row1 (by k_asm) (by k_mem) ?_ (by with_unfolding_all rfl))) | ((fail_if_success (fail_if_success (with_reducible show wpAny _ _ (subscriptTail _ _ _ (Value.int 2 _)) _ _ _))); (with_unfolding_all refine row2 (by k_asm) (by k_mem) ?_ (by with_unfolding_all rfl))) | ((fail_if_success (fail_if_success (with_reducible show wpAny _ _ (subscriptTail _ _ _ (Value.int 3 _)) _ _ _))); (with_unfolding_all refine row3 (by k_asm) (by k_mem) ?_ (by with_unfolding_all rfl))) | ((fail_if_success (fail_if_success (with_reducible show wpAny _ _ (subscriptTail _ _ _ (Value.int 4 _)) _ _ _))); (with_unfolding_all refine row4 (by k_asm) (by k_mem) ?_ (by with_unfolding_all rfl))) | ((fail_if_success (fail_if_success (with_reducible show wpAny _ _ (subscriptTail _ _ _ (Value.int (Nat.cast _) _)) _ _ _))); (with_unfolding_all refine row_i _ (by k_asm) (by k_mem) (by assumption) (by omega) ?_ (by with_unfolding_all rfl))))) | (with_reducible (k_here; (fail_if_success (fail_if_success (with_reducible show wpAny _ _ (subscriptTail _ _ (Value.ref _) (Value.ref _)) _ _ _))); (with_unfolding_all refine row_tail (by k_asm) (by k_asm) (by k_mem) (by assumption) ?_ (by with_unfolding_all rfl) (by (intro _; with_unfolding_all rfl))); intro _ _ _ _ _))) | ((fail_if_success (fail_if_success (with_reducible show wpAny _ _ (binaryOp _ _ _) _ _ _))); first | ((fail_if_success (fail_if_success (with_reducible show wpAny _ _ (binaryOp .Add (Value.ref _) (Value.ref _)) _ _ _))); with_reducible (k_here; k_dflt (refine addL (by k_asm) (by k_asm) (by k_mem) (by k_mem) (by simp only [List.length_nil, List.length_cons, List.length_append]; omega) ?_); intro _ _ _ _ _))) | ((fail_if_success (fail_if_success (with_reducible show wpAny _ _ (compareOp _ _ _) _ _ _))); first | ((fail_if_success (fail_if_success (with_reducible show wpAny _ _ (compareOp .NotIn _ _) _ _ _))); with_reducible (k_here; k_dflt (refine notIn_one (by k_asm) (by (refine Dm.mono ?_ (by assumption); intro _ _; k_mem)) (by k_mem) (by ktr_units) ?_)))) | walk1 | (dsimp only; walk1) | (leave1; walk_say "STEP leave1"; try dsimp only) | fail "no step"))
            · (rename_i kF9 kN9 _ _; exact hret (hop.trans (op_static.trans (by assumption))) _ [] _ _ kF9 (News.sub kN9 (by intro q9 hq9; k_mem)) (fun _ _ _ h => nomatch h) ⟨rfl, rfl⟩)
            · (k_dflt (refine raise_end (by k_asm) (by k_asm) (by k_asm) (by assumption) (by rfl) ?_); intro h9 R9 U9; exact hexc (hop.trans (op_static.trans (by assumption))) _ _ _ _ FG' U9 (R9.sub (by intro q9 hq9; k_mem)))
        | tup mm _ =>
          (repeat' (first | (k_unfold; (try dsimp only)) | (k_end; wrow_close) | ((fail_if_success (fail_if_success (with_reducible show wpAny _ _ (call _ _ _) _ _ _))); first | (with_reducible (k_here; (fail_if_success (fail_if_success (with_reducible show wpAny _ _ (call (Value.ref _) [_, _]) _ _ _))); k_dflt (refine CtrE.same (by k_asm) (by k_asm) (by k_asm) (by k_asm) (by k_asm) (by exact rfl) (by ktr_room) (by ktr_units) (by assumption) (sorts_ctr (by k_mem) (by assumption) (by assumption) (by assumption) (by assumption) (by (refine DmAll.mono ?_ (by assumption); intro _ _; k_mem)) (by assumption) (by assumption) (by omega)) ?_ ?_); (intro _ _ _ _ _ _); (try dsimp only); (try k_fold); rotate_left; (intro _ _ _ _ _ _ _ _); (try dsimp only); rotate_right)) | (with_reducible (k_here; (fail_if_success (fail_if_success (with_reducible show wpAny _ _ (call (Value.ref _) [_, _]) _ _ _))); k_dflt (refine Ctr.new1 (by k_asm) (by k_asm) (by k_asm) (by k_asm) (by k_asm) (by exact rfl) (by ktr_room) (by ktr_units) (followers_ctr (by k_mem) (by assumption) (by omega) (by k_mem) (by assumption) (by assumption) (by assumption) (by assumption)) ?_); (intro _ _ _ _ _ _ _ _); (try dsimp only); (try k_fold))) | (with_reducible (k_here; (fail_if_success (fail_if_success (with_reducible show wpAny _ _ (call (Value.ref _) [_]) _ _ _))); k_dflt (refine Ctr.new (by k_asm) (by k_asm) (by k_asm) (by k_asm) (by k_asm) (by exact rfl) (by ktr_room) (by ktr_units) (uses_ctr (by k_mem) (by assumption) (by assumption) (by assumption) (by assumption) (by assumption) (by omega)) ?_); (intro _ _ _ _ _ _ _); (try dsimp only); (try k_fold))) | (with_reducible (k_here; (fail_if_success (fail_if_success (with_reducible show wpAny _ _ (call (Value.type "str") [Value.ref _]) _ _ _))); k_dflt (refine str_dm (by k_asm) (by k_asm) (by (refine Dm.mono ?_ (by assumption); intro _ _; k_mem)) (by assumption) (by assumption) (by ktr_units) ?_); intro _ _ _ _ _ _ _; (try dsimp only))) | ((fail_if_success (fail_if_success (with_reducible show wpAny _ _ (call (Value.builtin "len") _ _) _ _ _))); with_reducible (k_here; k_dflt (refine len_tup (by k_asm) (by k_dflt k_mem) (by assumption) (by first | assumption | omega) ?_); intro _ _; (try dsimp only))) | (with_reducible (k_here; (fail_if_success (fail_if_success (with_reducible show wpAny _ _ (call (Value.ref _) [_]) _ _ _))); k_dflt (refine Ctr.same (by k_asm) (by k_asm) (by k_asm) (by k_asm) (by k_asm) (by exact rfl) (by ktr_room) (by ktr_units) (sets_ctr2 (by k_mem) (by assumption) (by assumption) (by assumption) (by assumption) (by assumption)) ?_); (intro _ _ _ _ _); (try dsimp only); (try k_fold))) | (with_reducible (k_here; (fail_if_success (fail_if_success (with_reducible show wpAny _ _ (call (Value.ref 52) [Value.str _ _]) _ _ _))); k_dflt (refine fault_made (by k_asm) (by k_asm) (by k_asm) (by k_asm) (by k_asm) (by exact rfl) (by ktr_room) (by ktr_units) ?_); (intro _ _ _ _ _ _ _ _); (try dsimp only); (try k_fold))) | ((fail_if_success (fail_if_success (with_reducible show wpAny _ _ (call (Value.type "zip") _ _) _ _ _))); with_reducible (k_here; k_dflt (refine call_zipK (by k_asm) (by k_asm) (by k_mem) (by assumption) ?_); intro _ _ _ _ _)) | (with_reducible (k_here; (fail_if_success (fail_if_success (with_reducible show wpAny _ _ (call (Value.ref _) [_]) _ _ _))); k_dflt (refine Ctr.same (by k_asm) (by k_asm) (by k_asm) (by k_asm) (by k_asm) (by exact rfl) (by ktr_room) (by ktr_units) (shape_ctr (by k_mem) (by assumption) (by assumption) (by assumption)) ?_); (intro _ _ _ _ _); (try dsimp only); (try k_fold)))) | ((fail_if_success (fail_if_success (with_reducible show wpAny _ _ (subscriptTail _ _ _ _) _ _ _))); first | (with_reducible (k_here; (fail_if_success (fail_if_success (with_reducible show wpAny _ _ (subscriptTail _ _ (Value.ref _) (Value.int _ _)) _ _ _))); first | ((fail_if_success (fail_if_success (with_reducible show wpAny _ _ (subscriptTail _ _ _ (Value.int 0 _)) _ _ _))); (with_unfolding_all refine row0 (by k_asm) (by k_mem) ?_ (by with_unfolding_all rfl))) | ((fail_if_success (fail_if_success (with_reducible show wpAny _ _ (subscriptTail _ _ _ (Value.int 1 _)) _ _ _))); (with_unfolding_all refine row1 (by k_asm) (by k_mem) ?_ (by with_unfolding_all rfl))) | ((fail_if_success (fail_if_success (with_reducible show wpAny _ _ (subscriptTail _ _ _ (Value.int 2 _)) _ _ _))); (with_unfolding_all refine row2 (by k_asm) (by k_mem) ?_ (by with_unfolding_all rfl))) | ((fail_if_success (fail_if_success (with_reducible show wpAny _ _ (subscriptTail _ _ _ (Value.int 3 _)) _ _ _))); (with_unfolding_all refine row3 (by k_asm) (by k_mem) ?_ (by with_unfolding_all rfl))) | ((fail_if_success (fail_if_success (with_reducible show wpAny _ _ (subscriptTail _ _ _ (Value.int 4 _)) _ _ _))); (with_unfolding_all refine row4 (by k_asm) (by k_mem) ?_ (by with_unfolding_all rfl))) | ((fail_if_success (fail_if_success (with_reducible show wpAny _ _ (subscriptTail _ _ _ (Value.int (Nat.cast _) _)) _ _ _))); (with_unfolding_all refine row_i _ (by k_asm) (by k_mem) (by assumption) (by omega) ?_ (by with_unfolding_all rfl))))) | (with_reducible (k_here; (fail_if_success (fail_if_success (with_reducible show wpAny _ _ (subscriptTail _ _ (Value.ref _) (Value.ref _)) _ _ _))); (with_unfolding_all refine row_tail (by k_asm) (by k_asm) (by k_mem) (by assumption) ?_ (by with_unfolding_all rfl) (by (intro _; with_unfolding_all rfl))); intro _ _ _ _ _))) | ((fail_if_success (fail_if_success (with_reducible show wpAny _ _ (binaryOp _ _ _) _ _ _))); first | ((fail_if_success (fail_if_success (with_reducible show wpAny _ _ (binaryOp .Add (Value.ref _) (Value.ref _)) _ _ _))); with_reducible (k_here; k_dflt (refine addL (by k_asm) (by k_asm) (by k_mem) (by k_mem) (by simp only [List.length_nil, List.length_cons, List.length_append]; omega) ?_); intro _ _ _ _ _))) | ((fail_if_success (fail_if_success (with_reducible show wpAny _ _ (compareOp _ _ _) _ _ _))); first | ((fail_if_success (fail_if_success (with_reducible show wpAny _ _ (compareOp .NotIn _ _) _ _ _))); with_reducible (k_here; k_dflt (refine notIn_one (by k_asm) (by (refine Dm.mono ?_ (by assumption); intro _ _; k_mem)) (by k_mem) (by ktr_units) ?_)))) | walk1 | (dsimp only; walk1) | (leave1; walk_say "STEP leave1"; try dsimp only) | fail "no step"))
          · (rename_i kF9 kN9 _ _; exact hret (hop.trans (op_static.trans (by assumption))) _ [] _ _ kF9 (News.sub kN9 (by intro q9 hq9; k_mem)) (fun _ _ _ h => nomatch h) ⟨rfl, rfl⟩)
          · (k_dflt (refine raise_end (by k_asm) (by k_asm) (by k_asm) (by assumption) (by rfl) ?_); intro h9 R9 U9; exact hexc (hop.trans (op_static.trans (by assumption))) _ _ _ _ FG' U9 (R9.sub (by intro q9 hq9; k_mem)))
        | lst mm _ =>
          (repeat' (first | (k_unfold; (try dsimp only)) | (k_end; wrow_close) | ((fail_if_success (fail_if_success (with_reducible show wpAny _ _ (call _ _ _) _ _ _))); first | (with_reducible (k_here; (fail_if_success (fail_if_success (with_reducible show wpAny _ _ (call (Value.ref _) [_, _]) _ _ _))); k_dflt (refine CtrE.same (by k_asm) (by k_asm) (by k_asm) (by k_asm) (by k_asm) (by exact rfl) (by ktr_room) (by ktr_units) (by assumption) (sorts_ctr (by k_mem) (by assumption) (by assumption) (by assumption) (by assumption) (by (refine DmAll.mono ?_ (by assumption); intro _ _; k_mem)) (by assumption) (by assumption) (by omega)) ?_ ?_); (intro _ _ _ _ _ _); (try dsimp only); (try k_fold); rotate_left; (intro _ _ _ _ _ _ _ _); (try dsimp only); rotate_right)) | (with_reducible (k_here; (fail_if_success (fail_if_success (with_reducible show wpAny _ _ (call (Value.ref _) [_, _]) _ _ _))); k_dflt (refine Ctr.new1 (by k_asm) (by k_asm) (by k_asm) (by k_asm) (by k_asm) (by exact rfl) (by ktr_room) (by ktr_units) (followers_ctr (by k_mem) (by assumption) (by omega) (by k_mem) (by assumption) (by assumption) (by assumption) (by assumption)) ?_); (intro _ _ _ _ _ _ _ _); (try dsimp only); (try k_fold))) | (with_reducible (k_here; (fail_if_success (fail_if_success (with_reducible show wpAny _ _ (call (Value.ref _) [_]) _ _ _))); k_dflt (refine Ctr.new (by k_asm) (by k_asm) (by k_asm) (by k_asm) (by k_asm) (by exact rfl) (by ktr_room) (by ktr_units) (uses_ctr (by k_mem) (by assumption) (by assumption) (by assumption) (by assumption) (by assumption) (by omega)) ?_); (intro _ _ _ _ _ _ _); (try dsimp only); (try k_fold))) | (with_reducible (k_here; (fail_if_success (fail_if_success (with_reducible show wpAny _ _ (call (Value.type "str") [Value.ref _]) _ _ _))); k_dflt (refine str_dm (by k_asm) (by k_asm) (by (refine Dm.mono ?_ (by assumption); intro _ _; k_mem)) (by assumption) (by assumption) (by ktr_units) ?_); intro _ _ _ _ _ _ _; (try dsimp only))) | ((fail_if_success (fail_if_success (with_reducible show wpAny _ _ (call (Value.builtin "len") _ _) _ _ _))); with_reducible (k_here; k_dflt (refine len_tup (by k_asm) (by k_dflt k_mem) (by assumption) (by first | assumption | omega) ?_); intro _ _; (try dsimp only))) | (with_reducible (k_here; (fail_if_success (fail_if_success (with_reducible show wpAny _ _ (call (Value.ref _) [_]) _ _ _))); k_dflt (refine Ctr.same (by k_asm) (by k_asm) (by k_asm) (by k_asm) (by k_asm) (by exact rfl) (by ktr_room) (by ktr_units) (sets_ctr2 (by k_mem) (by assumption) (by assumption) (by assumption) (by assumption) (by assumption)) ?_); (intro _ _ _ _ _); (try dsimp only); (try k_fold))) | (with_reducible (k_here; (fail_if_success (fail_if_success (with_reducible show wpAny _ _ (call (Value.ref 52) [Value.str _ _]) _ _ _))); k_dflt (refine fault_made (by k_asm) (by k_asm) (by k_asm) (by k_asm) (by k_asm) (by exact rfl) (by ktr_room) (by ktr_units) ?_); (intro _ _ _ _ _ _ _ _); (try dsimp only); (try k_fold))) | ((fail_if_success (fail_if_success (with_reducible show wpAny _ _ (call (Value.type "zip") _ _) _ _ _))); with_reducible (k_here; k_dflt (refine call_zipK (by k_asm) (by k_asm) (by k_mem) (by assumption) ?_); intro _ _ _ _ _)) | (with_reducible (k_here; (fail_if_success (fail_if_success (with_reducible show wpAny _ _ (call (Value.ref _) [_]) _ _ _))); k_dflt (refine Ctr.same (by k_asm) (by k_asm) (by k_asm) (by k_asm) (by k_asm) (by exact rfl) (by ktr_room) (by ktr_units) (shape_ctr (by k_mem) (by assumption) (by assumption) (by assumption)) ?_); (intro _ _ _ _ _); (try dsimp only); (try k_fold)))) | ((fail_if_success (fail_if_success (with_reducible show wpAny _ _ (subscriptTail _ _ _ _) _ _ _))); first | (with_reducible (k_here; (fail_if_success (fail_if_success (with_reducible show wpAny _ _ (subscriptTail _ _ (Value.ref _) (Value.int _ _)) _ _ _))); first | ((fail_if_success (fail_if_success (with_reducible show wpAny _ _ (subscriptTail _ _ _ (Value.int 0 _)) _ _ _))); (with_unfolding_all refine row0 (by k_asm) (by k_mem) ?_ (by with_unfolding_all rfl))) | ((fail_if_success (fail_if_success (with_reducible show wpAny _ _ (subscriptTail _ _ _ (Value.int 1 _)) _ _ _))); (with_unfolding_all refine row1 (by k_asm) (by k_mem) ?_ (by with_unfolding_all rfl))) | ((fail_if_success (fail_if_success (with_reducible show wpAny _ _ (subscriptTail _ _ _ (Value.int 2 _)) _ _ _))); (with_unfolding_all refine row2 (by k_asm) (by k_mem) ?_ (by with_unfolding_all rfl))) | ((fail_if_success (fail_if_success (with_reducible show wpAny _ _ (subscriptTail _ _ _ (Value.int 3 _)) _ _ _))); (with_unfolding_all refine row3 (by k_asm) (by k_mem) ?_ (by with_unfolding_all rfl))) | ((fail_if_success (fail_if_success (with_reducible show wpAny _ _ (subscriptTail _ _ _ (Value.int 4 _)) _ _ _))); (with_unfolding_all refine row4 (by k_asm) (by k_mem) ?_ (by with_unfolding_all rfl))) | ((fail_if_success (fail_if_success (with_reducible show wpAny _ _ (subscriptTail _ _ _ (Value.int (Nat.cast _) _)) _ _ _))); (with_unfolding_all refine row_i _ (by k_asm) (by k_mem) (by assumption) (by omega) ?_ (by with_unfolding_all rfl))))) | (with_reducible (k_here; (fail_if_success (fail_if_success (with_reducible show wpAny _ _ (subscriptTail _ _ (Value.ref _) (Value.ref _)) _ _ _))); (with_unfolding_all refine row_tail (by k_asm) (by k_asm) (by k_mem) (by assumption) ?_ (by with_unfolding_all rfl) (by (intro _; with_unfolding_all rfl))); intro _ _ _ _ _))) | ((fail_if_success (fail_if_success (with_reducible show wpAny _ _ (binaryOp _ _ _) _ _ _))); first | ((fail_if_success (fail_if_success (with_reducible show wpAny _ _ (binaryOp .Add (Value.ref _) (Value.ref _)) _ _ _))); with_reducible (k_here; k_dflt (refine addL (by k_asm) (by k_asm) (by k_mem) (by k_mem) (by simp only [List.length_nil, List.length_cons, List.length_append]; omega) ?_); intro _ _ _ _ _))) | ((fail_if_success (fail_if_success (with_reducible show wpAny _ _ (compareOp _ _ _) _ _ _))); first | ((fail_if_success (fail_if_success (with_reducible show wpAny _ _ (compareOp .NotIn _ _) _ _ _))); with_reducible (k_here; k_dflt (refine notIn_one (by k_asm) (by (refine Dm.mono ?_ (by assumption); intro _ _; k_mem)) (by k_mem) (by ktr_units) ?_)))) | walk1 | (dsimp only; walk1) | (leave1; walk_say "STEP leave1"; try dsimp only) | fail "no step"))
          · (rename_i kF9 kN9 _ _; exact hret (hop.trans (op_static.trans (by assumption))) _ [] _ _ kF9 (News.sub kN9 (by intro q9 hq9; k_mem)) (fun _ _ _ h => nomatch h) ⟨rfl, rfl⟩)
          · (k_dflt (refine raise_end (by k_asm) (by k_asm) (by k_asm) (by assumption) (by rfl) ?_); intro h9 R9 U9; exact hexc (hop.trans (op_static.trans (by assumption))) _ _ _ _ FG' U9 (R9.sub (by intro q9 hq9; k_mem)))
      by_cases h2 : op = Str.ofString "capture"
      · have hI := tl2 (Str.ofString "dx") h2 (shp_eq (h2 ▸ hs) (by k_is)) hl rfl hp
        clear h2 hp
        cases hI with | mk a1 =>
        have hb1 := hpl _ (List.mem_cons_of_mem _ (List.mem_cons_self))
        have hk1 := (sorts_capture (sorts_pick hok)).symm.trans hok
        cases a1 with
        | «at» cv => cases cv with
          | none => cases hb1
          | bool => cases hb1
          | int =>
            obtain ⟨hi1, hi2⟩ := plain_int hb1
            (repeat' (first | (k_unfold; (try dsimp only)) | (k_end; wrow_close) | ((fail_if_success (fail_if_success (with_reducible show wpAny _ _ (call _ _ _) _ _ _))); first | (with_reducible (k_here; (fail_if_success (fail_if_success (with_reducible show wpAny _ _ (call (Value.ref _) [_, _]) _ _ _))); k_dflt (refine CtrE.same (by k_asm) (by k_asm) (by k_asm) (by k_asm) (by k_asm) (by exact rfl) (by ktr_room) (by ktr_units) (by assumption) (sorts_ctr (by k_mem) (by assumption) (by assumption) (by assumption) (by assumption) (by (refine DmAll.mono ?_ (by assumption); intro _ _; k_mem)) (by assumption) (by assumption) (by omega)) ?_ ?_); (intro _ _ _ _ _ _); (try dsimp only); (try k_fold); rotate_left; (intro _ _ _ _ _ _ _ _); (try dsimp only); rotate_right)) | (with_reducible (k_here; (fail_if_success (fail_if_success (with_reducible show wpAny _ _ (call (Value.ref _) [_, _]) _ _ _))); k_dflt (refine Ctr.new1 (by k_asm) (by k_asm) (by k_asm) (by k_asm) (by k_asm) (by exact rfl) (by ktr_room) (by ktr_units) (followers_ctr (by k_mem) (by assumption) (by omega) (by k_mem) (by assumption) (by assumption) (by assumption) (by assumption)) ?_); (intro _ _ _ _ _ _ _ _); (try dsimp only); (try k_fold))) | (with_reducible (k_here; (fail_if_success (fail_if_success (with_reducible show wpAny _ _ (call (Value.ref _) [_]) _ _ _))); k_dflt (refine Ctr.new (by k_asm) (by k_asm) (by k_asm) (by k_asm) (by k_asm) (by exact rfl) (by ktr_room) (by ktr_units) (uses_ctr (by k_mem) (by assumption) (by assumption) (by assumption) (by assumption) (by assumption) (by omega)) ?_); (intro _ _ _ _ _ _ _); (try dsimp only); (try k_fold))) | (with_reducible (k_here; (fail_if_success (fail_if_success (with_reducible show wpAny _ _ (call (Value.type "str") [Value.ref _]) _ _ _))); k_dflt (refine str_dm (by k_asm) (by k_asm) (by (refine Dm.mono ?_ (by assumption); intro _ _; k_mem)) (by assumption) (by assumption) (by ktr_units) ?_); intro _ _ _ _ _ _ _; (try dsimp only))) | ((fail_if_success (fail_if_success (with_reducible show wpAny _ _ (call (Value.builtin "len") _ _) _ _ _))); with_reducible (k_here; k_dflt (refine len_tup (by k_asm) (by k_dflt k_mem) (by assumption) (by first | assumption | omega) ?_); intro _ _; (try dsimp only))) | (with_reducible (k_here; (fail_if_success (fail_if_success (with_reducible show wpAny _ _ (call (Value.ref _) [_]) _ _ _))); k_dflt (refine Ctr.same (by k_asm) (by k_asm) (by k_asm) (by k_asm) (by k_asm) (by exact rfl) (by ktr_room) (by ktr_units) (sets_ctr2 (by k_mem) (by assumption) (by assumption) (by assumption) (by assumption) (by assumption)) ?_); (intro _ _ _ _ _); (try dsimp only); (try k_fold))) | (with_reducible (k_here; (fail_if_success (fail_if_success (with_reducible show wpAny _ _ (call (Value.ref 52) [Value.str _ _]) _ _ _))); k_dflt (refine fault_made (by k_asm) (by k_asm) (by k_asm) (by k_asm) (by k_asm) (by exact rfl) (by ktr_room) (by ktr_units) ?_); (intro _ _ _ _ _ _ _ _); (try dsimp only); (try k_fold))) | ((fail_if_success (fail_if_success (with_reducible show wpAny _ _ (call (Value.type "zip") _ _) _ _ _))); with_reducible (k_here; k_dflt (refine call_zipK (by k_asm) (by k_asm) (by k_mem) (by assumption) ?_); intro _ _ _ _ _)) | (with_reducible (k_here; (fail_if_success (fail_if_success (with_reducible show wpAny _ _ (call (Value.ref _) [_]) _ _ _))); k_dflt (refine Ctr.same (by k_asm) (by k_asm) (by k_asm) (by k_asm) (by k_asm) (by exact rfl) (by ktr_room) (by ktr_units) (shape_ctr (by k_mem) (by assumption) (by assumption) (by assumption)) ?_); (intro _ _ _ _ _); (try dsimp only); (try k_fold)))) | ((fail_if_success (fail_if_success (with_reducible show wpAny _ _ (subscriptTail _ _ _ _) _ _ _))); first | (with_reducible (k_here; (fail_if_success (fail_if_success (with_reducible show wpAny _ _ (subscriptTail _ _ (Value.ref _) (Value.int _ _)) _ _ _))); first | ((fail_if_success (fail_if_success (with_reducible show wpAny _ _ (subscriptTail _ _ _ (Value.int 0 _)) _ _ _))); (with_unfolding_all refine row0 (by k_asm) (by k_mem) ?_ (by with_unfolding_all rfl))) | ((fail_if_success (fail_if_success (with_reducible show wpAny _ _ (subscriptTail _ _ _ (Value.int 1 _)) _ _ _))); (with_unfolding_all refine row1 (by k_asm) (by k_mem) ?_ (by with_unfolding_all rfl))) | ((fail_if_success (fail_if_success (with_reducible show wpAny _ _ (subscriptTail _ _ _ (Value.int 2 _)) _ _ _))); (with_unfolding_all refine row2 (by k_asm) (by k_mem) ?_ (by with_unfolding_all rfl))) | ((fail_if_success (fail_if_success (with_reducible show wpAny _ _ (subscriptTail _ _ _ (Value.int 3 _)) _ _ _))); (with_unfolding_all refine row3 (by k_asm) (by k_mem) ?_ (by with_unfolding_all rfl))) | ((fail_if_success (fail_if_success (with_reducible show wpAny _ _ (subscriptTail _ _ _ (Value.int 4 _)) _ _ _))); (with_unfolding_all refine row4 (by k_asm) (by k_mem) ?_ (by with_unfolding_all rfl))) | ((fail_if_success (fail_if_success (with_reducible show wpAny _ _ (subscriptTail _ _ _ (Value.int (Nat.cast _) _)) _ _ _))); (with_unfolding_all refine row_i _ (by k_asm) (by k_mem) (by assumption) (by omega) ?_ (by with_unfolding_all rfl))))) | (with_reducible (k_here; (fail_if_success (fail_if_success (with_reducible show wpAny _ _ (subscriptTail _ _ (Value.ref _) (Value.ref _)) _ _ _))); (with_unfolding_all refine row_tail (by k_asm) (by k_asm) (by k_mem) (by assumption) ?_ (by with_unfolding_all rfl) (by (intro _; with_unfolding_all rfl))); intro _ _ _ _ _))) | ((fail_if_success (fail_if_success (with_reducible show wpAny _ _ (binaryOp _ _ _) _ _ _))); first | ((fail_if_success (fail_if_success (with_reducible show wpAny _ _ (binaryOp .Add (Value.ref _) (Value.ref _)) _ _ _))); with_reducible (k_here; k_dflt (refine addL (by k_asm) (by k_asm) (by k_mem) (by k_mem) (by simp only [List.length_nil, List.length_cons, List.length_append]; omega) ?_); intro _ _ _ _ _))) | ((fail_if_success (fail_if_success (with_reducible show wpAny _ _ (compareOp _ _ _) _ _ _))); first | ((fail_if_success (fail_if_success (with_reducible show wpAny _ _ (compareOp .NotIn _ _) _ _ _))); with_reducible (k_here; k_dflt (refine notIn_one (by k_asm) (by (refine Dm.mono ?_ (by assumption); intro _ _; k_mem)) (by k_mem) (by ktr_units) ?_)))) | walk1 | (dsimp only; walk1) | (leave1; walk_say "STEP leave1"; try dsimp only) | fail "no step"))
            · (rename_i kF9 kN9 _ _; exact hret (hop.trans (op_capture.trans (regD_int (by omega) (by omega)))) _ [] _ _ kF9 (News.sub kN9 (by intro q9 hq9; k_mem)) (fun _ _ _ h => nomatch h) ⟨rfl, rfl⟩)
            · (k_dflt (refine raise_end (by k_asm) (by k_asm) (by k_asm) (by assumption) (by rfl) ?_); intro h9 R9 U9; exact hexc (hop.trans (op_capture.trans (regD_no (by omega)))) _ _ _ _ FG' U9 (R9.sub (by intro q9 hq9; k_mem)))
            · (k_dflt (refine raise_end (by k_asm) (by k_asm) (by k_asm) (by assumption) (by rfl) ?_); intro h9 R9 U9; exact hexc (hop.trans (op_capture.trans (regD_no (by omega)))) _ _ _ _ FG' U9 (R9.sub (by intro q9 hq9; k_mem)))
          | str => cases hk1
        | tup mm _ => cases hk1
        | lst mm _ => cases hk1
      by_cases h3 : op = Str.ofString "splat"
      · have hI := tl4 (Str.ofString "dsmx") h3 (shp_eq (h3 ▸ hs) (by k_is)) hl rfl hp
        clear h3 hp
        cases hI with | mk _ a2 a3 =>
        have hk2 := m_splat (sorts_pick hok)
        have hk3 := (sorts_splat (sorts_pick hok)).symm.trans hok
        have hb2 := hpl _ (List.mem_cons_of_mem _ (List.mem_cons_of_mem _ List.mem_cons_self))
        have hb3 := hpl _ (List.mem_cons_of_mem _ (List.mem_cons_of_mem _ (List.mem_cons_of_mem _ List.mem_cons_self)))
        cases a2 with
        | «at» cv => cases cv <;> cases hk2
        | lst => cases hk2
        | tup m2 c2 => cases a3 with
          | «at» cv => cases cv <;> cases hk3
          | lst => cases hk3
          | tup m3 c3 =>
            have hl2 := carried_len c2
            have hl3 := carried_len c3
            replace hb2 := plain_tup hb2
            replace hb3 := plain_tup hb3
            (repeat' (first | (k_unfold; (try dsimp only)) | (k_end; wrow_close) | ((fail_if_success (fail_if_success (with_reducible show wpAny _ _ (call _ _ _) _ _ _))); first | (with_reducible (k_here; (fail_if_success (fail_if_success (with_reducible show wpAny _ _ (call (Value.ref _) [_, _]) _ _ _))); k_dflt (refine CtrE.same (by k_asm) (by k_asm) (by k_asm) (by k_asm) (by k_asm) (by exact rfl) (by ktr_room) (by ktr_units) (by assumption) (sorts_ctr (by k_mem) (by assumption) (by assumption) (by assumption) (by assumption) (by (refine DmAll.mono ?_ (by assumption); intro _ _; k_mem)) (by assumption) (by assumption) (by omega)) ?_ ?_); (intro _ _ _ _ _ _); (try dsimp only); (try k_fold); rotate_left; (intro _ _ _ _ _ _ _ _); (try dsimp only); rotate_right)) | (with_reducible (k_here; (fail_if_success (fail_if_success (with_reducible show wpAny _ _ (call (Value.ref _) [_, _]) _ _ _))); k_dflt (refine Ctr.new1 (by k_asm) (by k_asm) (by k_asm) (by k_asm) (by k_asm) (by exact rfl) (by ktr_room) (by ktr_units) (followers_ctr (by k_mem) (by assumption) (by omega) (by k_mem) (by assumption) (by assumption) (by assumption) (by assumption)) ?_); (intro _ _ _ _ _ _ _ _); (try dsimp only); (try k_fold))) | (with_reducible (k_here; (fail_if_success (fail_if_success (with_reducible show wpAny _ _ (call (Value.ref _) [_]) _ _ _))); k_dflt (refine Ctr.new (by k_asm) (by k_asm) (by k_asm) (by k_asm) (by k_asm) (by exact rfl) (by ktr_room) (by ktr_units) (uses_ctr (by k_mem) (by assumption) (by assumption) (by assumption) (by assumption) (by assumption) (by omega)) ?_); (intro _ _ _ _ _ _ _); (try dsimp only); (try k_fold))) | (with_reducible (k_here; (fail_if_success (fail_if_success (with_reducible show wpAny _ _ (call (Value.type "str") [Value.ref _]) _ _ _))); k_dflt (refine str_dm (by k_asm) (by k_asm) (by (refine Dm.mono ?_ (by assumption); intro _ _; k_mem)) (by assumption) (by assumption) (by ktr_units) ?_); intro _ _ _ _ _ _ _; (try dsimp only))) | ((fail_if_success (fail_if_success (with_reducible show wpAny _ _ (call (Value.builtin "len") _ _) _ _ _))); with_reducible (k_here; k_dflt (refine len_tup (by k_asm) (by k_dflt k_mem) (by assumption) (by first | assumption | omega) ?_); intro _ _; (try dsimp only))) | (with_reducible (k_here; (fail_if_success (fail_if_success (with_reducible show wpAny _ _ (call (Value.ref _) [_]) _ _ _))); k_dflt (refine Ctr.same (by k_asm) (by k_asm) (by k_asm) (by k_asm) (by k_asm) (by exact rfl) (by ktr_room) (by ktr_units) (sets_ctr2 (by k_mem) (by assumption) (by assumption) (by assumption) (by assumption) (by assumption)) ?_); (intro _ _ _ _ _); (try dsimp only); (try k_fold))) | (with_reducible (k_here; (fail_if_success (fail_if_success (with_reducible show wpAny _ _ (call (Value.ref 52) [Value.str _ _]) _ _ _))); k_dflt (refine fault_made (by k_asm) (by k_asm) (by k_asm) (by k_asm) (by k_asm) (by exact rfl) (by ktr_room) (by ktr_units) ?_); (intro _ _ _ _ _ _ _ _); (try dsimp only); (try k_fold))) | ((fail_if_success (fail_if_success (with_reducible show wpAny _ _ (call (Value.type "zip") _ _) _ _ _))); with_reducible (k_here; k_dflt (refine call_zipK (by k_asm) (by k_asm) (by k_mem) (by assumption) ?_); intro _ _ _ _ _)) | (with_reducible (k_here; (fail_if_success (fail_if_success (with_reducible show wpAny _ _ (call (Value.ref _) [_]) _ _ _))); k_dflt (refine Ctr.same (by k_asm) (by k_asm) (by k_asm) (by k_asm) (by k_asm) (by exact rfl) (by ktr_room) (by ktr_units) (shape_ctr (by k_mem) (by assumption) (by assumption) (by assumption)) ?_); (intro _ _ _ _ _); (try dsimp only); (try k_fold)))) | ((fail_if_success (fail_if_success (with_reducible show wpAny _ _ (subscriptTail _ _ _ _) _ _ _))); first | (with_reducible (k_here; (fail_if_success (fail_if_success (with_reducible show wpAny _ _ (subscriptTail _ _ (Value.ref _) (Value.int _ _)) _ _ _))); first | ((fail_if_success (fail_if_success (with_reducible show wpAny _ _ (subscriptTail _ _ _ (Value.int 0 _)) _ _ _))); (with_unfolding_all refine row0 (by k_asm) (by k_mem) ?_ (by with_unfolding_all rfl))) | ((fail_if_success (fail_if_success (with_reducible show wpAny _ _ (subscriptTail _ _ _ (Value.int 1 _)) _ _ _))); (with_unfolding_all refine row1 (by k_asm) (by k_mem) ?_ (by with_unfolding_all rfl))) | ((fail_if_success (fail_if_success (with_reducible show wpAny _ _ (subscriptTail _ _ _ (Value.int 2 _)) _ _ _))); (with_unfolding_all refine row2 (by k_asm) (by k_mem) ?_ (by with_unfolding_all rfl))) | ((fail_if_success (fail_if_success (with_reducible show wpAny _ _ (subscriptTail _ _ _ (Value.int 3 _)) _ _ _))); (with_unfolding_all refine row3 (by k_asm) (by k_mem) ?_ (by with_unfolding_all rfl))) | ((fail_if_success (fail_if_success (with_reducible show wpAny _ _ (subscriptTail _ _ _ (Value.int 4 _)) _ _ _))); (with_unfolding_all refine row4 (by k_asm) (by k_mem) ?_ (by with_unfolding_all rfl))) | ((fail_if_success (fail_if_success (with_reducible show wpAny _ _ (subscriptTail _ _ _ (Value.int (Nat.cast _) _)) _ _ _))); (with_unfolding_all refine row_i _ (by k_asm) (by k_mem) (by assumption) (by omega) ?_ (by with_unfolding_all rfl))))) | (with_reducible (k_here; (fail_if_success (fail_if_success (with_reducible show wpAny _ _ (subscriptTail _ _ (Value.ref _) (Value.ref _)) _ _ _))); (with_unfolding_all refine row_tail (by k_asm) (by k_asm) (by k_mem) (by assumption) ?_ (by with_unfolding_all rfl) (by (intro _; with_unfolding_all rfl))); intro _ _ _ _ _))) | ((fail_if_success (fail_if_success (with_reducible show wpAny _ _ (binaryOp _ _ _) _ _ _))); first | ((fail_if_success (fail_if_success (with_reducible show wpAny _ _ (binaryOp .Add (Value.ref _) (Value.ref _)) _ _ _))); with_reducible (k_here; k_dflt (refine addL (by k_asm) (by k_asm) (by k_mem) (by k_mem) (by simp only [List.length_nil, List.length_cons, List.length_append]; omega) ?_); intro _ _ _ _ _))) | ((fail_if_success (fail_if_success (with_reducible show wpAny _ _ (compareOp _ _ _) _ _ _))); first | ((fail_if_success (fail_if_success (with_reducible show wpAny _ _ (compareOp .NotIn _ _) _ _ _))); with_reducible (k_here; k_dflt (refine notIn_one (by k_asm) (by (refine Dm.mono ?_ (by assumption); intro _ _; k_mem)) (by k_mem) (by ktr_units) ?_)))) | walk1 | (dsimp only; walk1) | (leave1; walk_say "STEP leave1"; try dsimp only) | fail "no step"))
            · (k_dflt (refine raise_end (by k_asm) (by k_asm) (by k_asm) (by assumption) (by rfl) ?_); intro h9 R9 U9; exact hexc (hop.trans (op_splat.trans (decide_eq_false (by omega)))) _ _ _ _ FG' U9 (R9.sub (by intro q9 hq9; k_mem)))
            · (rename_i kF9 kN9 _ _; exact hret (hop.trans (op_splat.trans (decide_eq_true (by omega)))) _ [] _ _ kF9 (News.sub kN9 (by intro q9 hq9; k_mem)) (fun _ _ _ h => nomatch h) ⟨rfl, rfl⟩)
      by_cases h4 : op = Str.ofString "kwcall"
      · have hI := tl5 (Str.ofString "dsxmm") h4 (shp_eq (h4 ▸ hs) (by k_is)) hl rfl hp
        clear h4 hp
        cases hI with | mk a2 a3 =>
        have hk3 := m_kwcall (sorts_pick hok)
        have hk2 := (sorts_kwcall (sorts_pick hok)).symm.trans hok
        have hb2 := hpl _ (List.mem_cons_of_mem _ (List.mem_cons_of_mem _ List.mem_cons_self))
        have hb3 := hpl _ (List.mem_cons_of_mem _ (List.mem_cons_of_mem _ (List.mem_cons_of_mem _ List.mem_cons_self)))
        cases a2 with
        | «at» cv => cases cv <;> cases hk2
        | lst => cases hk2
        | tup m2 c2 => cases a3 with
          | «at» cv => cases cv <;> cases hk3
          | lst => cases hk3
          | tup m3 c3 =>
            have hl2 := carried_len c2
            have hl3 := carried_len c3
            replace hb2 := plain_tup hb2
            replace hb3 := plain_tup hb3
            (repeat' (first | (k_unfold; (try dsimp only)) | (k_end; wrow_close) | ((fail_if_success (fail_if_success (with_reducible show wpAny _ _ (call _ _ _) _ _ _))); first | (with_reducible (k_here; (fail_if_success (fail_if_success (with_reducible show wpAny _ _ (call (Value.ref _) [_, _]) _ _ _))); k_dflt (refine CtrE.same (by k_asm) (by k_asm) (by k_asm) (by k_asm) (by k_asm) (by exact rfl) (by ktr_room) (by ktr_units) (by assumption) (sorts_ctr (by k_mem) (by assumption) (by assumption) (by assumption) (by assumption) (by (refine DmAll.mono ?_ (by assumption); intro _ _; k_mem)) (by assumption) (by assumption) (by omega)) ?_ ?_); (intro _ _ _ _ _ _); (try dsimp only); (try k_fold); rotate_left; (intro _ _ _ _ _ _ _ _); (try dsimp only); rotate_right)) | (with_reducible (k_here; (fail_if_success (fail_if_success (with_reducible show wpAny _ _ (call (Value.ref _) [_, _]) _ _ _))); k_dflt (refine Ctr.new1 (by k_asm) (by k_asm) (by k_asm) (by k_asm) (by k_asm) (by exact rfl) (by ktr_room) (by ktr_units) (followers_ctr (by k_mem) (by assumption) (by omega) (by k_mem) (by assumption) (by assumption) (by assumption) (by assumption)) ?_); (intro _ _ _ _ _ _ _ _); (try dsimp only); (try k_fold))) | (with_reducible (k_here; (fail_if_success (fail_if_success (with_reducible show wpAny _ _ (call (Value.ref _) [_]) _ _ _))); k_dflt (refine Ctr.new (by k_asm) (by k_asm) (by k_asm) (by k_asm) (by k_asm) (by exact rfl) (by ktr_room) (by ktr_units) (uses_ctr (by k_mem) (by assumption) (by assumption) (by assumption) (by assumption) (by assumption) (by omega)) ?_); (intro _ _ _ _ _ _ _); (try dsimp only); (try k_fold))) | (with_reducible (k_here; (fail_if_success (fail_if_success (with_reducible show wpAny _ _ (call (Value.type "str") [Value.ref _]) _ _ _))); k_dflt (refine str_dm (by k_asm) (by k_asm) (by (refine Dm.mono ?_ (by assumption); intro _ _; k_mem)) (by assumption) (by assumption) (by ktr_units) ?_); intro _ _ _ _ _ _ _; (try dsimp only))) | ((fail_if_success (fail_if_success (with_reducible show wpAny _ _ (call (Value.builtin "len") _ _) _ _ _))); with_reducible (k_here; k_dflt (refine len_tup (by k_asm) (by k_dflt k_mem) (by assumption) (by first | assumption | omega) ?_); intro _ _; (try dsimp only))) | (with_reducible (k_here; (fail_if_success (fail_if_success (with_reducible show wpAny _ _ (call (Value.ref _) [_]) _ _ _))); k_dflt (refine Ctr.same (by k_asm) (by k_asm) (by k_asm) (by k_asm) (by k_asm) (by exact rfl) (by ktr_room) (by ktr_units) (sets_ctr2 (by k_mem) (by assumption) (by assumption) (by assumption) (by assumption) (by assumption)) ?_); (intro _ _ _ _ _); (try dsimp only); (try k_fold))) | (with_reducible (k_here; (fail_if_success (fail_if_success (with_reducible show wpAny _ _ (call (Value.ref 52) [Value.str _ _]) _ _ _))); k_dflt (refine fault_made (by k_asm) (by k_asm) (by k_asm) (by k_asm) (by k_asm) (by exact rfl) (by ktr_room) (by ktr_units) ?_); (intro _ _ _ _ _ _ _ _); (try dsimp only); (try k_fold))) | ((fail_if_success (fail_if_success (with_reducible show wpAny _ _ (call (Value.type "zip") _ _) _ _ _))); with_reducible (k_here; k_dflt (refine call_zipK (by k_asm) (by k_asm) (by k_mem) (by assumption) ?_); intro _ _ _ _ _)) | (with_reducible (k_here; (fail_if_success (fail_if_success (with_reducible show wpAny _ _ (call (Value.ref _) [_]) _ _ _))); k_dflt (refine Ctr.same (by k_asm) (by k_asm) (by k_asm) (by k_asm) (by k_asm) (by exact rfl) (by ktr_room) (by ktr_units) (shape_ctr (by k_mem) (by assumption) (by assumption) (by assumption)) ?_); (intro _ _ _ _ _); (try dsimp only); (try k_fold)))) | ((fail_if_success (fail_if_success (with_reducible show wpAny _ _ (subscriptTail _ _ _ _) _ _ _))); first | (with_reducible (k_here; (fail_if_success (fail_if_success (with_reducible show wpAny _ _ (subscriptTail _ _ (Value.ref _) (Value.int _ _)) _ _ _))); first | ((fail_if_success (fail_if_success (with_reducible show wpAny _ _ (subscriptTail _ _ _ (Value.int 0 _)) _ _ _))); (with_unfolding_all refine row0 (by k_asm) (by k_mem) ?_ (by with_unfolding_all rfl))) | ((fail_if_success (fail_if_success (with_reducible show wpAny _ _ (subscriptTail _ _ _ (Value.int 1 _)) _ _ _))); (with_unfolding_all refine row1 (by k_asm) (by k_mem) ?_ (by with_unfolding_all rfl))) | ((fail_if_success (fail_if_success (with_reducible show wpAny _ _ (subscriptTail _ _ _ (Value.int 2 _)) _ _ _))); (with_unfolding_all refine row2 (by k_asm) (by k_mem) ?_ (by with_unfolding_all rfl))) | ((fail_if_success (fail_if_success (with_reducible show wpAny _ _ (subscriptTail _ _ _ (Value.int 3 _)) _ _ _))); (with_unfolding_all refine row3 (by k_asm) (by k_mem) ?_ (by with_unfolding_all rfl))) | ((fail_if_success (fail_if_success (with_reducible show wpAny _ _ (subscriptTail _ _ _ (Value.int 4 _)) _ _ _))); (with_unfolding_all refine row4 (by k_asm) (by k_mem) ?_ (by with_unfolding_all rfl))) | ((fail_if_success (fail_if_success (with_reducible show wpAny _ _ (subscriptTail _ _ _ (Value.int (Nat.cast _) _)) _ _ _))); (with_unfolding_all refine row_i _ (by k_asm) (by k_mem) (by assumption) (by omega) ?_ (by with_unfolding_all rfl))))) | (with_reducible (k_here; (fail_if_success (fail_if_success (with_reducible show wpAny _ _ (subscriptTail _ _ (Value.ref _) (Value.ref _)) _ _ _))); (with_unfolding_all refine row_tail (by k_asm) (by k_asm) (by k_mem) (by assumption) ?_ (by with_unfolding_all rfl) (by (intro _; with_unfolding_all rfl))); intro _ _ _ _ _))) | ((fail_if_success (fail_if_success (with_reducible show wpAny _ _ (binaryOp _ _ _) _ _ _))); first | ((fail_if_success (fail_if_success (with_reducible show wpAny _ _ (binaryOp .Add (Value.ref _) (Value.ref _)) _ _ _))); with_reducible (k_here; k_dflt (refine addL (by k_asm) (by k_asm) (by k_mem) (by k_mem) (by simp only [List.length_nil, List.length_cons, List.length_append]; omega) ?_); intro _ _ _ _ _))) | ((fail_if_success (fail_if_success (with_reducible show wpAny _ _ (compareOp _ _ _) _ _ _))); first | ((fail_if_success (fail_if_success (with_reducible show wpAny _ _ (compareOp .NotIn _ _) _ _ _))); with_reducible (k_here; k_dflt (refine notIn_one (by k_asm) (by (refine Dm.mono ?_ (by assumption); intro _ _; k_mem)) (by k_mem) (by ktr_units) ?_)))) | walk1 | (dsimp only; walk1) | (leave1; walk_say "STEP leave1"; try dsimp only) | fail "no step"))
            · (k_dflt (refine raise_end (by k_asm) (by k_asm) (by k_asm) (by assumption) (by rfl) ?_); intro h9 R9 U9; exact hexc (hop.trans (op_kwcall.trans (decide_eq_false (by omega)))) _ _ _ _ FG' U9 (R9.sub (by intro q9 hq9; k_mem)))
            · (rename_i kF9 kN9 _ _; exact hret (hop.trans (op_kwcall.trans (decide_eq_true (by omega)))) _ [] _ _ kF9 (News.sub kN9 (by intro q9 hq9; k_mem)) (fun _ _ _ h => nomatch h) ⟨rfl, rfl⟩)
      (repeat' (first | (k_unfold; (try dsimp only)) | (k_end; wrow_close) | ((fail_if_success (fail_if_success (with_reducible show wpAny _ _ (call _ _ _) _ _ _))); first | (with_reducible (k_here; (fail_if_success (fail_if_success (with_reducible show wpAny _ _ (call (Value.ref _) [_, _]) _ _ _))); k_dflt (refine CtrE.same (by k_asm) (by k_asm) (by k_asm) (by k_asm) (by k_asm) (by exact rfl) (by ktr_room) (by ktr_units) (by assumption) (sorts_ctr (by k_mem) (by assumption) (by assumption) (by assumption) (by assumption) (by (refine DmAll.mono ?_ (by assumption); intro _ _; k_mem)) (by assumption) (by assumption) (by omega)) ?_ ?_); (intro _ _ _ _ _ _); (try dsimp only); (try k_fold); rotate_left; (intro _ _ _ _ _ _ _ _); (try dsimp only); rotate_right)) | (with_reducible (k_here; (fail_if_success (fail_if_success (with_reducible show wpAny _ _ (call (Value.ref _) [_, _]) _ _ _))); k_dflt (refine Ctr.new1 (by k_asm) (by k_asm) (by k_asm) (by k_asm) (by k_asm) (by exact rfl) (by ktr_room) (by ktr_units) (followers_ctr (by k_mem) (by assumption) (by omega) (by k_mem) (by assumption) (by assumption) (by assumption) (by assumption)) ?_); (intro _ _ _ _ _ _ _ _); (try dsimp only); (try k_fold))) | (with_reducible (k_here; (fail_if_success (fail_if_success (with_reducible show wpAny _ _ (call (Value.ref _) [_]) _ _ _))); k_dflt (refine Ctr.new (by k_asm) (by k_asm) (by k_asm) (by k_asm) (by k_asm) (by exact rfl) (by ktr_room) (by ktr_units) (uses_ctr (by k_mem) (by assumption) (by assumption) (by assumption) (by assumption) (by assumption) (by omega)) ?_); (intro _ _ _ _ _ _ _); (try dsimp only); (try k_fold))) | (with_reducible (k_here; (fail_if_success (fail_if_success (with_reducible show wpAny _ _ (call (Value.type "str") [Value.ref _]) _ _ _))); k_dflt (refine str_dm (by k_asm) (by k_asm) (by (refine Dm.mono ?_ (by assumption); intro _ _; k_mem)) (by assumption) (by assumption) (by ktr_units) ?_); intro _ _ _ _ _ _ _; (try dsimp only))) | ((fail_if_success (fail_if_success (with_reducible show wpAny _ _ (call (Value.builtin "len") _ _) _ _ _))); with_reducible (k_here; k_dflt (refine len_tup (by k_asm) (by k_dflt k_mem) (by assumption) (by first | assumption | omega) ?_); intro _ _; (try dsimp only))) | (with_reducible (k_here; (fail_if_success (fail_if_success (with_reducible show wpAny _ _ (call (Value.ref _) [_]) _ _ _))); k_dflt (refine Ctr.same (by k_asm) (by k_asm) (by k_asm) (by k_asm) (by k_asm) (by exact rfl) (by ktr_room) (by ktr_units) (sets_ctr2 (by k_mem) (by assumption) (by assumption) (by assumption) (by assumption) (by assumption)) ?_); (intro _ _ _ _ _); (try dsimp only); (try k_fold))) | (with_reducible (k_here; (fail_if_success (fail_if_success (with_reducible show wpAny _ _ (call (Value.ref 52) [Value.str _ _]) _ _ _))); k_dflt (refine fault_made (by k_asm) (by k_asm) (by k_asm) (by k_asm) (by k_asm) (by exact rfl) (by ktr_room) (by ktr_units) ?_); (intro _ _ _ _ _ _ _ _); (try dsimp only); (try k_fold))) | ((fail_if_success (fail_if_success (with_reducible show wpAny _ _ (call (Value.type "zip") _ _) _ _ _))); with_reducible (k_here; k_dflt (refine call_zipK (by k_asm) (by k_asm) (by k_mem) (by assumption) ?_); intro _ _ _ _ _)) | (with_reducible (k_here; (fail_if_success (fail_if_success (with_reducible show wpAny _ _ (call (Value.ref _) [_]) _ _ _))); k_dflt (refine Ctr.same (by k_asm) (by k_asm) (by k_asm) (by k_asm) (by k_asm) (by exact rfl) (by ktr_room) (by ktr_units) (shape_ctr (by k_mem) (by assumption) (by assumption) (by assumption)) ?_); (intro _ _ _ _ _); (try dsimp only); (try k_fold)))) | ((fail_if_success (fail_if_success (with_reducible show wpAny _ _ (subscriptTail _ _ _ _) _ _ _))); first | (with_reducible (k_here; (fail_if_success (fail_if_success (with_reducible show wpAny _ _ (subscriptTail _ _ (Value.ref _) (Value.int _ _)) _ _ _))); first | ((fail_if_success (fail_if_success (with_reducible show wpAny _ _ (subscriptTail _ _ _ (Value.int 0 _)) _ _ _))); (with_unfolding_all refine row0 (by k_asm) (by k_mem) ?_ (by with_unfolding_all rfl))) | ((fail_if_success (fail_if_success (with_reducible show wpAny _ _ (subscriptTail _ _ _ (Value.int 1 _)) _ _ _))); (with_unfolding_all refine row1 (by k_asm) (by k_mem) ?_ (by with_unfolding_all rfl))) | ((fail_if_success (fail_if_success (with_reducible show wpAny _ _ (subscriptTail _ _ _ (Value.int 2 _)) _ _ _))); (with_unfolding_all refine row2 (by k_asm) (by k_mem) ?_ (by with_unfolding_all rfl))) | ((fail_if_success (fail_if_success (with_reducible show wpAny _ _ (subscriptTail _ _ _ (Value.int 3 _)) _ _ _))); (with_unfolding_all refine row3 (by k_asm) (by k_mem) ?_ (by with_unfolding_all rfl))) | ((fail_if_success (fail_if_success (with_reducible show wpAny _ _ (subscriptTail _ _ _ (Value.int 4 _)) _ _ _))); (with_unfolding_all refine row4 (by k_asm) (by k_mem) ?_ (by with_unfolding_all rfl))) | ((fail_if_success (fail_if_success (with_reducible show wpAny _ _ (subscriptTail _ _ _ (Value.int (Nat.cast _) _)) _ _ _))); (with_unfolding_all refine row_i _ (by k_asm) (by k_mem) (by assumption) (by omega) ?_ (by with_unfolding_all rfl))))) | (with_reducible (k_here; (fail_if_success (fail_if_success (with_reducible show wpAny _ _ (subscriptTail _ _ (Value.ref _) (Value.ref _)) _ _ _))); (with_unfolding_all refine row_tail (by k_asm) (by k_asm) (by k_mem) (by assumption) ?_ (by with_unfolding_all rfl) (by (intro _; with_unfolding_all rfl))); intro _ _ _ _ _))) | ((fail_if_success (fail_if_success (with_reducible show wpAny _ _ (binaryOp _ _ _) _ _ _))); first | ((fail_if_success (fail_if_success (with_reducible show wpAny _ _ (binaryOp .Add (Value.ref _) (Value.ref _)) _ _ _))); with_reducible (k_here; k_dflt (refine addL (by k_asm) (by k_asm) (by k_mem) (by k_mem) (by simp only [List.length_nil, List.length_cons, List.length_append]; omega) ?_); intro _ _ _ _ _))) | ((fail_if_success (fail_if_success (with_reducible show wpAny _ _ (compareOp _ _ _) _ _ _))); first | ((fail_if_success (fail_if_success (with_reducible show wpAny _ _ (compareOp .NotIn _ _) _ _ _))); with_reducible (k_here; k_dflt (refine notIn_one (by k_asm) (by (refine Dm.mono ?_ (by assumption); intro _ _; k_mem)) (by k_mem) (by ktr_units) ?_)))) | walk1 | (dsimp only; walk1) | (leave1; walk_say "STEP leave1"; try dsimp only) | fail "no step"))
      (rename_i kF9 kN9 _ _; exact hret (hop.trans (op_other h1 h2 h3 h4)) _ [] _ _ kF9 (News.sub kN9 (by intro q9 hq9; k_mem)) (fun _ _ _ h => nomatch h) ⟨rfl, rfl⟩)
end
end Mine
end
section
open PySem PySem.W PySem.Spec PySem.Calls PyProof.Rows PyProof.V
namespace Mine
local macro_rules | `(tactic| walk_at "idle 0") => `(tactic| fail)
local macro_rules | `(tactic| walk_at "idle 1") => `(tactic| fail)
local macro_rules | `(tactic| walk_at "idle 2") => `(tactic| fail)
local macro_rules | `(tactic| walk_at "idle 3") => `(tactic| fail)
local macro_rules | `(tactic| walk_at "idle 4") => `(tactic| fail)
local macro_rules | `(tactic| walk_at "idle 5") => `(tactic| fail)
local macro_rules | `(tactic| walk_at "idle 6") => `(tactic| fail)
set_option pp.deepTerms false
set_option pp.proofs false
set_option maxRecDepth 100000
set_option maxHeartbeats 8000000
/-- a row of the code: its value in the ledger and all that the walks ask of it -/
structure RowAt (w : World) (news : List (Addr × Obj)) (rv : List Value) (at_ : Nat) (op x : Str) (ds : List PyData) : Prop where
  ex : ∃ (r : Addr) (t xt : Tok) (p0 : Value) (ps : List Value) (n c0 : Nat), rv[at_]? = some (.ref r) ∧ (r, tupO (.str op t :: p0 :: ps) n) ∈ news ∧ Shp w op x xt ∧ x.cps.size = (p0 :: ps).length ∧ (p0 :: ps).length < 100 ∧ x.cps[0]? = some c0 ∧ DmAll news (p0 :: ps) ds
  asc : x.cps.all (· < 128) = true
  small : ∀ d ∈ ds, smallD d = true
  leave : ¬ op = Str.ofString "leave"
  enter : ¬ op = Str.ofString "enter"
  full : fullD x.cps.toList ds = true
  uses : (usesD x.cps.toList ds).length < 100
  nb : ∀ d ∈ usesD x.cps.toList ds ++ setsD x ds, notBool d = true
  ng : ∀ d ∈ goalsD op x ds at_, notBool d = true
  pl : ∀ d ∈ ds, plainD d = true
  two : (goalsD op x ds at_).length ≤ 2
theorem goals_dm {news : List (Addr × Obj)} {op x : Str} {ps : List Value} {ds : List PyData} {at_ : Nat} {u : Tok} (hp : DmAll news ps ds) :
    DmAll news ((if isEnd op then [] else [.int ((at_ : Int) + 1) u]) ++ pickZ (fun c _ => c == 103) x.cps.toList ps) (goalsD op x ds at_) := by
  unfold goalsD
  refine DmAll.append ?_ (pick_dm (q := fun c _ => c == 103) (q' := fun c _ => c == 103) (fun _ _ => rfl) _ hp)
  split
  · exact .nil
  · exact .cons (.at (.int _ _)) .nil
theorem dm_int {news : List (Addr × Obj)} {v : Value} {g : Int} (h : Dm news v (.int g)) : ∃ t, v = .int g t := by
  cases h with | «at» c => cases c; exact ⟨_, rfl⟩
/-- the numbers 0 .. 3 that no key is yet -/
def missing (kvs : List (Int × Value)) : Nat := (([0, 1, 2, 3] : List Int).filter fun i => (valueAt kvs i).isNone).length
theorem valueAt_app (kvs : List (Int × Value)) (k k' : Int) (v : Value) (h : valueAt kvs k = none) : valueAt (kvs ++ [(k, v)]) k' = if k = k' then some v else valueAt kvs k' := by
  unfold valueAt at h ⊢
  rw [List.find?_append]
  by_cases e : k = k'
  · subst e
    rw [if_pos rfl]
    cases hf : kvs.find? fun kv => decide (kv.1 = k) with
    | some z => rw [hf] at h; cases h
    | none => simp
  · rw [if_neg e]
    cases hf : kvs.find? fun kv => decide (kv.1 = k') with
    | some z => simp
    | none => simp [e]
theorem filter_less {p q : Int → Bool} {a : Int} : ∀ (l : List Int), l.Nodup → a ∈ l → p a = true → q a = false → (∀ x ∈ l, x ≠ a → q x = p x) → (l.filter q).length + 1 = (l.filter p).length
  | [], _, h, _, _, _ => nomatch h
  | y :: l, hn, hm, hp, hq, he => by
    rw [List.nodup_cons] at hn
    by_cases e : y = a
    · subst e
      have h1 : l.filter q = l.filter p := List.filter_congr fun x hx => he x (.tail _ hx) fun e => hn.1 (e ▸ hx)
      rw [List.filter_cons_of_pos (p := p) hp, List.filter_cons_of_neg (p := q) (by rw [hq]; decide), h1, List.length_cons]
    · have ih := filter_less l hn.2 ((List.mem_cons.mp hm).resolve_left (Ne.symm e)) hp hq fun x hx => he x (.tail _ hx)
      have h2 := he y (.head _) e
      cases h3 : p y with
      | true => rw [List.filter_cons_of_pos (p := p) h3, List.filter_cons_of_pos (p := q) (h2.trans h3), List.length_cons, List.length_cons, ih]
      | false => rw [List.filter_cons_of_neg (p := p) (by rw [h3]; decide), List.filter_cons_of_neg (p := q) (by rw [h2, h3]; decide), ih]
theorem missing_put {kvs : List (Int × Value)} {a : Nat} {v : Value} (ha : a < 4) (h : valueAt kvs (a : Int) = none) : missing (stored kvs (a : Int) v) + 1 = missing kvs ∧ (stored kvs (a : Int) v).length = kvs.length + 1 := by
  rw [stored_absent h]
  refine ⟨?_, by simp⟩
  have e : ∀ k', valueAt (kvs ++ [((a : Int), v)]) k' = if (a : Int) = k' then some v else valueAt kvs k' := fun k' => valueAt_app kvs _ k' v h
  have hm : (a : Int) ∈ ([0, 1, 2, 3] : List Int) := by
    have h4 : a = 0 ∨ a = 1 ∨ a = 2 ∨ a = 3 := by omega
    rcases h4 with rfl | rfl | rfl | rfl <;> decide
  exact filter_less (a := (a : Int)) [0, 1, 2, 3] (by decide) hm (by rw [h]; rfl) (by rw [e, if_pos rfl]; rfl) fun x _ hx => by rw [e, if_neg (Ne.symm hx)]
section
variable {w : World} {A : Around} {E : Value → Shared → Prop} {s : Shared} {h₀ : Heap} {L : Addr} {m : Str → Option Value} {news news' : List (Addr × Obj)}
theorem popA {D : Addr} {its : Array Value} {n : Nat} {p : List Value} {y : Value} {Q : Value → Shared → Prop} (F : Fr h₀ L s.heap m) (N : News h₀ L s.heap news) (U : Upd D (PySem.W.listOf its n) (PySem.W.listOf p.toArray (n + 1)) news news') (e : kl_last its.toList = some (p, y))
    (hz : its.toList.length ≤ sizeLine) (h : ∀ h', Fr h₀ L h' m → News h₀ L h' news' → Q y { s with heap := h' }) : wpAny (model prog w) A (call (.builtin "list.pop") [.ref D]) Q E s := kl_pop F N e U hz h
end
/-- the waiting pairs -/
inductive Waits (rest : List (Addr × Obj)) : List Value → List Nat → Prop where
  | nil : Waits rest [] []
  | snoc {p as t a tk tk' n} : Waits rest p as → (t, tupO [.int ((a : Nat) : Int) tk, .int 0 tk'] n) ∈ rest → a < 4 → Waits rest (p ++ [.ref t]) (as ++ [a])
theorem Waits.mono {n n' : List (Addr × Obj)} (h : ∀ q ∈ n, q ∈ n') : ∀ {v d}, Waits n v d → Waits n' v d
  | _, _, .nil => .nil
  | _, _, .snoc a b c => .snoc (a.mono h) (h _ b) c
def pairD (a : Nat) : PyData := .tuple [.int (a : Int), .int 0]
theorem Waits.dm {n : List (Addr × Obj)} : ∀ {v d}, Waits n v d → DmAll n v (d.map pairD)
  | _, _, .nil => .nil
  | _, _, .snoc a b c => by rw [List.map_append]; exact a.dm.append (.cons (.tup b (.cons (.int _ _) (.cons (.int _ _) .nil))) .nil)
theorem Waits.small {n : List (Addr × Obj)} : ∀ {v d}, Waits n v d → ∀ q ∈ d.map pairD, smallD q = true
  | _, _, .nil, q, h => by cases h
  | _, _, .snoc (a := a) x _ c, q, h => by
    rw [List.map_append, List.mem_append] at h
    rcases h with h | h
    · exact x.small q h
    · obtain rfl : q = pairD a := by simpa using h
      have h4 : a = 0 ∨ a = 1 ∨ a = 2 ∨ a = 3 := by omega
      rcases h4 with rfl | rfl | rfl | rfl <;> decide +kernel
theorem Waits.len {n : List (Addr × Obj)} : ∀ {v d}, Waits n v d → v.length = d.length
  | _, _, .nil => rfl
  | _, _, .snoc a _ _ => by simp [a.len]
def StopWhile (p : Prop) : Prop := p
theorem stop_while {p : Prop} (h : StopWhile p) : p := h
local macro_rules | `(tactic| walk_at "exec While") => `(tactic| (k_here; refine stop_while ?_))
section
variable {w : World} {p : Program} {loose : List Str} {mean : ExcName → Option Value} {mg mb : Str → Option Value}
theorem behind_ctr {news : List (Addr × Obj)} {r : Addr} {op : Str} {t u : Tok} {ps : List Value} {n : Nat} {i : Int} (hr : (r, tupO (.str op t :: ps) n) ∈ news) (hlv : ¬ op = Str.ofString "leave") :
    Ctr w p loose mean mg mb 2 141 news [.ref r, .int i u] (fun v tl => v = .int i u ∧ tl = []) := by
  (intro dp un gd cn cs a ccd cl outer A₀ base h₀ L m s Q E B F X N T hk hd hu hret
   refine wpAny_call ?_
   k_dflt (refine' code_def (binds := [(Str.ofString "row", .ref r), (Str.ofString "depth", .int i u)]) ?k1 ?k2 ?k3 ?k4 ?k5 ?kA ?kF ?kK ?k6 ?k7 ?k8 ?k9 ?kB ?_ ?c2 ?c3 ?c4 ?c5; (case kA => exact rfl); (case kF => exact rfl); (case kK => assumption); (case k1 => k_asm); (case k2 => k_asm); (case k3 => k_asm); (case k4 => k_asm); (case k5 => k_asm); (case k6 => k_is); (case k7 => k_is); (case k8 => ktr_room); (case k9 => exact BindsTo.of_eq rfl); (case c5 => decide); (case kB => exact locs rfl); (case c2 => exact rfl); (case c3 => exact rfl); (case c4 => exact rfl); k_whole)
   intro g' L' h' FG' F' N' B' X' T'
   (try dsimp only)
   (try k_fold))
  (repeat' (first | (k_unfold; (try dsimp only)) | (k_end; wrow_close) | ((fail_if_success (fail_if_success (with_reducible show wpAny _ _ (call _ _ _) _ _ _))); first | ((fail_if_success (fail_if_success (with_reducible show wpAny _ _ (call (Value.type "zip") _ _) _ _ _))); with_reducible (k_here; k_dflt (refine call_zipK (by k_asm) (by k_asm) (by k_mem) (by assumption) ?_); intro _ _ _ _ _)) | (with_reducible (k_here; (fail_if_success (fail_if_success (with_reducible show wpAny _ _ (call (Value.ref _) [_]) _ _ _))); k_dflt (refine Ctr.same (by k_asm) (by k_asm) (by k_asm) (by k_asm) (by k_asm) (by exact rfl) (by ktr_room) (by ktr_units) (shape_ctr (by k_mem) (by assumption) (by assumption) (by assumption)) ?_); (intro _ _ _ _ _); (try dsimp only); (try k_fold)))) | ((fail_if_success (fail_if_success (with_reducible show wpAny _ _ (subscriptTail _ _ _ _) _ _ _))); first | (with_reducible (k_here; (fail_if_success (fail_if_success (with_reducible show wpAny _ _ (subscriptTail _ _ (Value.ref _) (Value.int _ _)) _ _ _))); first | ((fail_if_success (fail_if_success (with_reducible show wpAny _ _ (subscriptTail _ _ _ (Value.int 0 _)) _ _ _))); (with_unfolding_all refine row0 (by k_asm) (by k_mem) ?_ (by with_unfolding_all rfl))) | ((fail_if_success (fail_if_success (with_reducible show wpAny _ _ (subscriptTail _ _ _ (Value.int 1 _)) _ _ _))); (with_unfolding_all refine row1 (by k_asm) (by k_mem) ?_ (by with_unfolding_all rfl))) | ((fail_if_success (fail_if_success (with_reducible show wpAny _ _ (subscriptTail _ _ _ (Value.int 2 _)) _ _ _))); (with_unfolding_all refine row2 (by k_asm) (by k_mem) ?_ (by with_unfolding_all rfl))) | ((fail_if_success (fail_if_success (with_reducible show wpAny _ _ (subscriptTail _ _ _ (Value.int 3 _)) _ _ _))); (with_unfolding_all refine row3 (by k_asm) (by k_mem) ?_ (by with_unfolding_all rfl))) | ((fail_if_success (fail_if_success (with_reducible show wpAny _ _ (subscriptTail _ _ _ (Value.int 4 _)) _ _ _))); (with_unfolding_all refine row4 (by k_asm) (by k_mem) ?_ (by with_unfolding_all rfl))) | ((fail_if_success (fail_if_success (with_reducible show wpAny _ _ (subscriptTail _ _ _ (Value.int (Nat.cast _) _)) _ _ _))); (with_unfolding_all refine row_i _ (by k_asm) (by k_mem) (by assumption) (by omega) ?_ (by with_unfolding_all rfl))))) | (with_reducible (k_here; (fail_if_success (fail_if_success (with_reducible show wpAny _ _ (subscriptTail _ _ (Value.ref _) (Value.ref _)) _ _ _))); (with_unfolding_all refine row_tail (by k_asm) (by k_asm) (by k_mem) (by assumption) ?_ (by with_unfolding_all rfl) (by (intro _; with_unfolding_all rfl))); intro _ _ _ _ _))) | walk1 | (dsimp only; walk1) | (leave1; walk_say "STEP leave1"; try dsimp only) | fail "no step"))
  exact hret _ [] _ _ (by assumption) (by assumption) (fun _ _ _ h => nomatch h) ⟨rfl, rfl⟩

end
/-- between the turns of depths_of's loop -/
def DJ (w : World) (W Fd Cb : Addr) (news : List (Addr × Obj)) (m0 : Str → Option Value) (n : Nat) (m : Str → Option Value) (l : List (Addr × Obj)) : Prop :=
  ∃ (kvs : List (Int × Value)) (o co : Obj) (vs : List Value) (as : List Nat) (k : Nat) (u : Option Value) (rest : List (Addr × Obj)) (va vd vr : Option Value),
    l = (W, lstO vs k) :: (Fd, o) :: (Cb, co) :: rest ∧ (∀ q ∈ rest, q.1 ≠ W) ∧ (∀ q ∈ rest, q.1 ≠ Fd) ∧ (∀ q ∈ rest, q.1 ≠ Cb) ∧ (∀ q ∈ news, q ∈ rest) ∧ co.data = .cell u ∧ o.IsDictOf (intKind prog w) kvs ∧
    (∀ k v, valueAt kvs k = some v → ∃ t, v = .int 0 t) ∧ kvs.length + missing kvs = 4 ∧ Waits rest vs as ∧ 3 * missing kvs + vs.length ≤ 13 ∧ 3 * missing kvs + vs.length = n ∧
    m = fun y => if y = Str.ofString "row" then vr else if y = Str.ofString "depth" then vd else if y = Str.ofString "at" then va else m0 y
section
variable {w : World} {A : Around} {E : Value → Shared → Prop} {s : Shared} {h₀ : Heap} {L : Addr} {env : Env} {Q : Flow → Shared → Prop}
theorem depthLoop {test : Expr} {body : List Stmt} {pos : Pos} {m0 : Str → Option Value} {W Fd Cb D1 : Addr} {oF co : Obj} {t1 t2 : Tok} {l news : List (Addr × Obj)} {k n1 : Nat} {u : Option Value} (F : Fr h₀ L s.heap m0) (N : News h₀ L s.heap l)
    (hl : ∀ q ∈ (W, lstO [.ref D1] k) :: (Fd, oF) :: (Cb, co) :: (D1, tupO [.int 0 t1, .int 0 t2] n1) :: news, q ∈ l) (hW : ∀ q ∈ news, q.1 ≠ W) (hF : ∀ q ∈ news, q.1 ≠ Fd) (hC : ∀ q ∈ news, q.1 ≠ Cb) (h1 : D1 ≠ W ∧ D1 ≠ Fd ∧ D1 ≠ Cb) (hco : co.data = .cell u) (hoF : oF.IsDictOf (intKind prog w) [])
    (turn : ∀ (kvs : List (Int × Value)) (o co : Obj) (vs : List Value) (as : List Nat) (k : Nat) (u : Option Value) (rest : List (Addr × Obj)) (va vd vr : Option Value) (h₁ : Heap) (tk₁ : Nat),
      Fr h₀ L h₁ (fun y => if y = Str.ofString "row" then vr else if y = Str.ofString "depth" then vd else if y = Str.ofString "at" then va else m0 y) → News h₀ L h₁ ((W, lstO vs k) :: (Fd, o) :: (Cb, co) :: rest) →
      (∀ q ∈ rest, q.1 ≠ W) → (∀ q ∈ rest, q.1 ≠ Fd) → (∀ q ∈ rest, q.1 ≠ Cb) → (∀ q ∈ news, q ∈ rest) → co.data = .cell u → o.IsDictOf (intKind prog w) kvs → (∀ k v, valueAt kvs k = some v → ∃ t, v = .int 0 t) → kvs.length + missing kvs = 4 → Waits rest vs as → 3 * missing kvs + vs.length ≤ 13 →
      wpAny (model prog w) A (isTrue test env (eval test env)) (fun b s₂ =>
        if b = true then wpAny (model prog w) A (execs body env) (WhileStep2 h₀ L s (DJ w W Fd Cb news m0) Q (3 * missing kvs + vs.length)) E s₂ else Q .next s₂) E { s with heap := h₁, toks := tk₁ })
    (hE : PassesOwn (model prog w) A env E := by passes_own) :
    wpAny (model prog w) A (exec (.While test body [] pos) env) Q E s := by
  refine While_inv2 (DJ w W Fd Cb news m0) (n₀ := 13) F (fun q hq => N q (hl q hq)) ⟨[], oF, co, [.ref D1], [0], k, u, (D1, tupO [.int 0 t1, .int 0 t2] n1) :: news, m0 (Str.ofString "at"), m0 (Str.ofString "depth"), m0 (Str.ofString "row"), rfl, ?_, ?_, ?_, ?_, hco, hoF, ?_, rfl, ?_, ?_, rfl, ?_⟩ ?_ hE
  · intro q hq; rcases List.mem_cons.mp hq with rfl | hq; exact h1.1; exact hW q hq
  · intro q hq; rcases List.mem_cons.mp hq with rfl | hq; exact h1.2.1; exact hF q hq
  · intro q hq; rcases List.mem_cons.mp hq with rfl | hq; exact h1.2.2; exact hC q hq
  · exact fun q hq => .tail _ hq
  · intro k v hv; cases hv
  · exact Waits.snoc (p := []) (as := []) .nil (.head _) (by decide)
  · show 3 * missing [] + 1 ≤ 13; decide
  · funext y
    by_cases e1 : y = Str.ofString "row"
    · subst e1; rw [if_pos rfl]
    by_cases e2 : y = Str.ofString "depth"
    · subst e2; rw [if_neg e1, if_pos rfl]
    by_cases e3 : y = Str.ofString "at"
    · subst e3; rw [if_neg e1, if_neg e2, if_pos rfl]
    rw [if_neg e1, if_neg e2, if_neg e3]
  · rintro n m₁ news₁ h₁ tk₁ F₁ N₁ ⟨kvs, o, co, vs, as, k, u, rest, va, vd, vr, rfl, a1, a2, a3, a4, a5, a6, a7, a8, a9, a10, rfl, rfl⟩
    exact turn kvs o co vs as k u rest va vd vr h₁ tk₁ F₁ N₁ a1 a2 a3 a4 a5 a6 a7 a8 a9 a10
theorem ne_nil_b {D e : Addr} {vs : List Value} {ds : List PyData} {n k : Nat} {b : Bool} {news : List (Addr × Obj)} {Q : Value → Shared → Prop} (N : News h₀ L s.heap news) (hD : (D, lstO vs n) ∈ news) (he : (e, lstO [] k) ∈ news) (hv : DmAll news vs ds) (hs : ∀ d ∈ ds, smallD d = true)
    (hu : A.units + 64 < cLine) (hb : (!ds.isEmpty) = b) (h : Q (.bool b) s) : wpAny (model prog w) A (compareOp .NotEq (.ref D) (.ref e)) Q E s :=
  ne_nil N hD he hv hs hu (hb ▸ h)
end
theorem ctr_mono {w : World} {p : Program} {loose : List Str} {mean : ExcName → Option Value} {mg mb : Str → Option Value} {k : Nat} {f : Addr} {news : List (Addr × Obj)} {vs : List Value} {P P' : Value → List (Addr × Obj) → Prop} (h : Ctr w p loose mean mg mb k f news vs P) (hp : ∀ v tl, P v tl → P' v tl) : Ctr w p loose mean mg mb k f news vs P' :=
  fun dp un gd cn cs a ccd cl outer A₀ base h₀ L m s Q E B F X N T hk hd hu hret => h dp un gd cn cs a ccd cl outer A₀ base h₀ L m s Q E B F X N T hk hd hu fun r tl h' tk' a b c d => hret r tl h' tk' a b c (hp _ _ d)
theorem reg_nat {d : PyData} (h : regD d = true) : ∃ g : Nat, d = .int (g : Int) ∧ g < 4 := by
  cases d with
  | int n =>
    simp only [regD, Bool.and_eq_true, decide_eq_true_eq] at h
    exact ⟨n.toNat, by rw [Int.toNat_of_nonneg h.1], by omega⟩
  | _ => cases h
theorem Waits.append {n : List (Addr × Obj)} {p : List Value} {as : List Nat} (h : Waits n p as) : ∀ {ys gs}, Waits n ys gs → Waits n (p ++ ys) (as ++ gs)
  | _, _, .nil => by simpa using h
  | _, _, .snoc a b c => by rw [← List.append_assoc, ← List.append_assoc]; exact .snoc (h.append a) b c
/-- ints of the list that the block runs over -/
inductive Gs : List Value → List Nat → Prop where
  | nil : Gs [] []
  | cons {t g vs gs} : g < 4 → Gs vs gs → Gs (.int ((g : Nat) : Int) t :: vs) (g :: gs)
theorem Gs.len : ∀ {vs gs}, Gs vs gs → vs.length = gs.length
  | _, _, .nil => rfl
  | _, _, .cons _ b => by simp [b.len]
theorem gs_of {n : List (Addr × Obj)} : ∀ {vs : List Value} {ds : List PyData}, DmAll n vs ds → ds.all regD = true → ∃ gs, Gs vs gs
  | _, _, .nil, _ => ⟨[], .nil⟩
  | _, _, .cons a b, h => by
    simp only [List.all_cons, Bool.and_eq_true] at h
    obtain ⟨g, rfl, hg⟩ := reg_nat h.1
    obtain ⟨t, rfl⟩ := dm_int a
    obtain ⟨gs, hgs⟩ := gs_of b h.2
    exact ⟨g :: gs, .cons hg hgs⟩
section
variable {w : World} {A : Around} {s : Shared} {h₀ : Heap} {L : Addr} {m : Str → Option Value} {env : Env}
/-- one pair of the block -/
def PairMade (h₀ : Heap) (L : Addr) (m : Str → Option Value) (s₁ : Shared) (g : Nat) (l : List (Addr × Obj)) (y : Value) (s₂ : Shared) : Prop :=
  ∃ T t u n h' tk, y = .ref T ∧ s₂ = { s₁ with heap := h', toks := tk } ∧ Fr h₀ L h' m ∧ News h₀ L h' ((T, tupO [.int ((g : Nat) : Int) t, .int 0 u] n) :: l) ∧ (∀ q ∈ l, q.1 < T)
theorem compPairs {elt : Expr} {x : Str} {scope : Scope} {cl : List (Str × Addr)} {ax : Addr} {gl : List Value} {news : List (Addr × Obj)} {Fin : List Value → List (Addr × Obj) → Prop}
    (turn : ∀ (g : Nat) t I oI C oC D m₂ ys h tk (E' : Value → Shared → Prop) nw, g < 4 → LCg.NsObj oC m₂ → m₂ x = some (.int ((g : Nat) : Int) t) → Fr h₀ L h m → News h₀ L h ((I, oI) :: (C, oC) :: (D, LCg.lst ys) :: nw) → (∀ q ∈ news, q ∈ nw) →
      wpAny (model prog w) A (eval elt (compEnvC scope cl C env)) (PairMade h₀ L m { s with heap := h, toks := tk } g ((I, oI) :: (C, oC) :: (D, LCg.lst ys) :: nw)) E' { s with heap := h, toks := tk })
    (hS : ∀ nw, (∀ q ∈ news, q ∈ nw) → LCg.SrcAt h₀ ax gl.toArray nw)
    (fin : ∀ ys nw gs, Gs gl gs → Waits nw ys gs → (∀ q ∈ news, q ∈ nw) → (∀ q ∈ nw, q ∈ news ∨ ∀ p ∈ news, p.1 < q.1) → Fin ys nw) :
    ∀ (k i : Nat) (vs : List Value) (gs : List Nat) (ys : List Value) (gs₀ : List Nat) (nw : List (Addr × Obj)), k = vs.length → gl.drop i = vs → Gs vs gs → Waits nw ys gs₀ → (∀ g', Gs gl g' → g' = gs₀ ++ gs) → (∃ g', Gs gl g') → (∀ q ∈ news, q ∈ nw) → (∀ q ∈ nw, q ∈ news ∨ ∀ p ∈ news, p.1 < q.1) →
    LCg.CompRest prog w A h₀ L m env elt x scope cl s (LCg.SrcAt h₀ ax gl.toArray) (fun i v => gl.toArray[i]? = some v) Fin k i ys nw
  | 0, i, vs, gs, ys, gs₀, nw, hk, hd, hg, hw, hgg, hge, hs, hq => by
    obtain rfl : vs = [] := List.length_eq_zero_iff.mp hk.symm
    cases hg
    obtain ⟨g', hg'⟩ := hge
    obtain rfl := hgg g' hg'
    rw [List.append_nil] at hg'
    exact fin ys nw gs₀ hg' hw hs hq
  | k + 1, i, vs, gs, ys, gs₀, nw, hk, hd, hg, hw, hgg, hge, hs, hq => by
    refine LCg.CompRest.succ ?_
    intro v I oI C oC D m₂ h tk E' hv hC hx F N off ne
    cases hg with
    | nil => cases hk
    | cons hg4 hg =>
      rename_i t g vs gs
      have hv' : gl[i]? = some v := by simpa using hv
      have hd0 : (gl.drop i)[0]? = some v := by rw [List.getElem?_drop]; simpa using hv'
      rw [hd] at hd0
      obtain rfl : Value.int ((g : Nat) : Int) t = v := by simpa using hd0
      refine wpAny_mono (turn g t I oI C oC D m₂ ys h tk E' nw hg4 hC hx F N hs) (fun y s₂ hp => ?_) fun _ _ e => e
      obtain ⟨T, t', u, n, h', tk', rfl, rfl, F', N', lt⟩ := hp
      have hTI := lt (I, oI) (by simp)
      have hTC := lt (C, oC) (by simp)
      have hTD := lt (D, LCg.lst ys) (by simp)
      have hsub : ∀ q ∈ nw, q ∈ (T, tupO [.int ((g : Nat) : Int) t', .int 0 u] n) :: nw := fun q h => .tail _ h
      refine ⟨h', tk', (T, tupO [.int ((g : Nat) : Int) t', .int 0 u] n) :: nw, rfl, F', fun q hq => N' q ?_, ⟨⟨Ne.symm (Nat.ne_of_lt hTI), Ne.symm (Nat.ne_of_lt hTC), Ne.symm (Nat.ne_of_lt hTD)⟩, off⟩, hS _ fun q h => hsub q (hs q h), ?_⟩
      · simp only [List.mem_cons] at hq ⊢
        rcases hq with h | h | h | h | h <;> simp [h]
      · refine compPairs turn hS fin k (i + 1) vs gs (ys ++ [.ref T]) (gs₀ ++ [g]) _ (by simpa using hk) ?_ hg (.snoc (hw.mono hsub) (.head _) hg4) (fun g' h => by rw [hgg g' h]; simp) hge (fun q h => hsub q (hs q h)) ?_
        · rw [← List.drop_drop, hd]; rfl
        · intro q hq'
          rcases List.mem_cons.mp hq' with rfl | hq'
          · exact .inr fun p hp => lt p (by simp [hs p hp])
          · exact hq q hq'
end
theorem Gs.uniq : ∀ {vs gs gs'}, Gs vs gs → Gs vs gs' → gs' = gs
  | _, _, _, .nil, .nil => rfl
  | _, _, _, .cons (g := g) a b, h => by
    generalize hv : (Value.int ((g : Nat) : Int) _ :: _) = l at h
    cases h with
    | nil => cases hv
    | cons a' b' =>
      simp only [List.cons.injEq, Value.int.injEq, Int.natCast_inj] at hv
      obtain ⟨⟨rfl, _⟩, rfl⟩ := hv
      rw [b.uniq b']
theorem Waits.to {n n' : List (Addr × Obj)} (h : ∀ t a tk tk' k, (t, tupO [.int ((a : Nat) : Int) tk, .int 0 tk'] k) ∈ n → (t, tupO [.int ((a : Nat) : Int) tk, .int 0 tk'] k) ∈ n') : ∀ {v d}, Waits n v d → Waits n' v d
  | _, _, .nil => .nil
  | _, _, .snoc a b c => .snoc (a.to h) (h _ _ _ _ _ b) c
theorem news_eq {h₀ h : Heap} {L a : Addr} {o o' : Obj} {news : List (Addr × Obj)} (N : News h₀ L h news) (ha : (a, o) ∈ news) (hb : (a, o') ∈ news) : o = o' := Option.some.inj ((N _ ha).1.symm.trans (N _ hb).1)
section
variable {w : World} {A : Around} {E : Value → Shared → Prop} {s : Shared} {h₀ : Heap} {L : Addr} {m : Str → Option Value}
theorem extend_head {W D : Addr} {vs ys : List Value} {k n2 : Nat} {tl : List (Addr × Obj)} {Q : Value → Shared → Prop} (F : Fr h₀ L s.heap m) (N : News h₀ L s.heap ((W, lstO vs k) :: tl)) (hD : (D, lstO ys n2) ∈ tl) (hne : ∀ q ∈ tl, q.1 ≠ W) (hz : vs.length + ys.length ≤ 1000)
    (h : ∀ h' k', Fr h₀ L h' m → News h₀ L h' ((W, lstO (vs ++ ys) k') :: tl) → Q .none { s with heap := h' }) : wpAny (model prog w) A (call (.builtin "list.extend") [.ref W, .ref D]) Q E s := by
  cases ys with
  | nil =>
    refine kxn_extend (its := vs.toArray) (its2 := #[]) F N (.tail _ hD) rfl (Upd.head hne) ?_ ?_ ?_ fun h' F' N' => h h' k F' (by rw [List.append_nil]; exact N')
    · exact not_too_long (by simp only [List.size_toArray, List.length_nil, List.size_toArray] at hz ⊢; omega)
    · rw [sizeLine_eq]; show vs.length ≤ _; omega
    · rw [sizeLine_eq]; simp only [List.size_toArray]; simp only [List.length_nil] at hz; show vs.length + 0 ≤ _; omega
  | cons y ys =>
    refine kl_extend (its := vs.toArray) (its2 := (y :: ys).toArray) (l := vs ++ (y :: ys)) F N (.tail _ hD) rfl (by simp) (Upd.head hne) ?_ ?_ ?_ fun h' F' N' => h h' (k + 1) F' N'
    · exact not_too_long (by simp only [List.size_toArray]; omega)
    · rw [sizeLine_eq]; show vs.length ≤ _; omega
    · rw [sizeLine_eq]; simp only [List.size_toArray]; omega
end
theorem off1_mem {D : Addr} : ∀ {l : List (Addr × Obj)}, LCg.Off1 D l → ∀ q ∈ l, q.1 ≠ D
  | [], _, _, h => nomatch h
  | _ :: _, x, q, h => by
    rcases List.mem_cons.mp h with rfl | h
    · exact x.1
    · exact off1_mem x.2 q h
def cutRest (W Fd Cb : Addr) (nw : List (Addr × Obj)) : List (Addr × Obj) := nw.filter fun q => !(q.1 == W) && (!(q.1 == Fd) && !(q.1 == Cb))
theorem cut_mem {W Fd Cb : Addr} {nw : List (Addr × Obj)} {q : Addr × Obj} (h : q ∈ nw) (h1 : q.1 ≠ W) (h2 : q.1 ≠ Fd) (h3 : q.1 ≠ Cb) : q ∈ cutRest W Fd Cb nw :=
  List.mem_filter.mpr ⟨h, by simp [h1, h2, h3]⟩
theorem cut_ne {W Fd Cb : Addr} {nw : List (Addr × Obj)} {q : Addr × Obj} (h : q ∈ cutRest W Fd Cb nw) : q.1 ≠ W ∧ q.1 ≠ Fd ∧ q.1 ≠ Cb := by
  have := (List.mem_filter.mp h).2
  simpa using this
theorem recut {h₀ h : Heap} {L W Fd Cb D : Addr} {o oF oC oW : Obj} {nw : List (Addr × Obj)} (N : News h₀ L h ((D, o) :: nw)) (mW : (W, oW) ∈ nw) (mF : (Fd, oF) ∈ nw) (mC : (Cb, oC) ∈ nw) : News h₀ L h ((W, oW) :: (D, o) :: (Fd, oF) :: (Cb, oC) :: cutRest W Fd Cb nw) := fun q hq => by
  rcases List.mem_cons.mp hq with rfl | hq
  · exact N _ (.tail _ mW)
  rcases List.mem_cons.mp hq with rfl | hq
  · exact N _ (.head _)
  rcases List.mem_cons.mp hq with rfl | hq
  · exact N _ (.tail _ mF)
  rcases List.mem_cons.mp hq with rfl | hq
  · exact N _ (.tail _ mC)
  exact N _ (.tail _ (List.mem_filter.mp hq).1)
theorem recut_ne {W Fd Cb D : Addr} {o oF oC : Obj} {nw : List (Addr × Obj)} (h1 : D ≠ W) (h2 : Fd ≠ W) (h3 : Cb ≠ W) : ∀ q ∈ (D, o) :: (Fd, oF) :: (Cb, oC) :: cutRest W Fd Cb nw, q.1 ≠ W := fun q hq => by
  rcases List.mem_cons.mp hq with rfl | hq
  · exact h1
  rcases List.mem_cons.mp hq with rfl | hq
  · exact h2
  rcases List.mem_cons.mp hq with rfl | hq
  · exact h3
  exact (cut_ne hq).1
theorem tups_off {w : World} {h₀ h : Heap} {L W Fd Cb : Addr} {o co : Obj} {u : Option Value} {vs : List Value} {k : Nat} {kvs : List (Int × Value)} {nw : List (Addr × Obj)} (N : News h₀ L h nw) (mW : (W, lstO vs k) ∈ nw) (mF : (Fd, o) ∈ nw) (mC : (Cb, co) ∈ nw) (hd : o.IsDictOf (intKind prog w) kvs) (hc : co.data = .cell u) :
    ∀ (t : Addr) (a : Nat) (tk tk' : Tok) (k : Nat), (t, tupO [.int ((a : Nat) : Int) tk, .int 0 tk'] k) ∈ nw → (t, tupO [.int ((a : Nat) : Int) tk, .int 0 tk'] k) ∈ cutRest W Fd Cb nw := fun t a tk tk' k hm => by
  refine cut_mem hm (fun e => ?_) (fun e => ?_) fun e => ?_
  · have e' : t = W := e
    subst e'
    have := congrArg Obj.cls (news_eq N mW hm)
    simp at this
  · have e' : t = Fd := e
    subst e'
    obtain ⟨es, ep, _, h2, _⟩ := hd
    have := congrArg Obj.data (news_eq N mF hm)
    rw [h2] at this
    simp at this
  · have e' : t = Cb := e
    subst e'
    have := congrArg Obj.data (news_eq N mC hm)
    rw [hc] at this
    simp at this
theorem map3 {m0 : Str → Option Value} {vr vd va vd' va' : Option Value} : (fun y => if y = Str.ofString "depth" then vd' else if y = Str.ofString "at" then va' else if y = Str.ofString "row" then vr else if y = Str.ofString "depth" then vd else if y = Str.ofString "at" then va else m0 y) =
    fun y => if y = Str.ofString "row" then vr else if y = Str.ofString "depth" then vd' else if y = Str.ofString "at" then va' else m0 y := by
  funext y
  by_cases h1 : y = Str.ofString "row"
  · subst h1; rfl
  by_cases h2 : y = Str.ofString "depth"
  · subst h2; rfl
  by_cases h3 : y = Str.ofString "at"
  · subst h3; rfl
  simp [h1, h2, h3]
theorem map4 {m0 : Str → Option Value} {vr vr' vd va vd' va' : Option Value} : (fun y => if y = Str.ofString "row" then vr' else if y = Str.ofString "depth" then vd' else if y = Str.ofString "at" then va' else if y = Str.ofString "row" then vr else if y = Str.ofString "depth" then vd else if y = Str.ofString "at" then va else m0 y) =
    fun y => if y = Str.ofString "row" then vr' else if y = Str.ofString "depth" then vd' else if y = Str.ofString "at" then va' else m0 y := by
  funext y
  by_cases h1 : y = Str.ofString "row"
  · subst h1; rfl
  by_cases h2 : y = Str.ofString "depth"
  · subst h2; rfl
  by_cases h3 : y = Str.ofString "at"
  · subst h3; rfl
  simp [h1, h2, h3]
theorem allLt_ne {d : Nat} {l : List (Addr × Obj)} (h : AllLt d l) : ∀ q ∈ l, q.1 ≠ d := fun _ hq => Nat.ne_of_lt (allLt_mem h hq)
local macro_rules | `(tactic| walk_at "CompSrc") => `(tactic| (k_here; refine stop_while ?_))
local macro_rules | `(tactic| k_all) => `(tactic| with_reducible assumption)
section
variable {w : World} {p : Program} {loose : List Str} {mean : ExcName → Option Value} {mg mb : Str → Option Value}
theorem depths_ctr {news : List (Addr × Obj)} {c dx R S Cp : Addr} {f : Str} {tf ta0 ts t1 t2 t3 t4 t5 t6 t7 : Tok} {ar : Int} {rv : List Value} {nR : Nat} 
    (hc : (c, instObj 85 dx) ∈ news) (hdx : (dx, dictOf (codeEs w f tf ar ta0 ts R S Cp t1 t2 t3 t4 t5 t6 t7) 7) ∈ news) (hR : (R, tupO rv nR) ∈ news) (hr4 : rv.length = 4)
    (hrows : ∀ i, i < 4 → ∃ op x ds, RowAt w news rv i op x ds ∧ (goalsD op x ds i).all regD = true) :
    Ctr w p loose mean mg mb 14 146 news [.ref c] (fun v tl => True) := by
  (intro dp un gd cn cs a ccd cl outer A₀ base h₀ L m s Q E B F X N T hk hd hu hret
   refine wpAny_call ?_
   k_dflt (refine' code_defC (binds := [(Str.ofString "code", .ref c)]) ?k1 ?k2 ?k3 ?k4 ?k5 ?kA ?kF ?kK ?k6 ?k7 ?k8 ?k9 ?kB ?kD ?_ ?c2 ?c3 ?c4; (case kA => exact rfl); (case kF => exact rfl); (case kK => assumption); (case k1 => k_asm); (case k2 => k_asm); (case k3 => k_asm); (case k4 => k_asm); (case k5 => k_asm); (case k6 => k_is); (case k7 => k_is); (case k8 => ktr_room); (case k9 => exact BindsTo.of_eq rfl); (case kB => exact rfl); (case kD => decide +kernel); (case c2 => exact rfl); (case c3 => exact rfl); (case c4 => exact rfl); k_whole)
   intro g' L' h' tk' cells' FG' F' N' Y' B' X' T' l1
   k_cells Y'
   (try simp only [List.cons_append, List.nil_append] at N')
   (try dsimp only)
   (try k_fold))
  (repeat' (first | (k_unfold; (try dsimp only)) | (k_end; wrow_close) | ((fail_if_success (fail_if_success (with_reducible show wpAny _ _ (call _ _ _) _ _ _))); first | (with_reducible (k_here; (fail_if_success (fail_if_success (with_reducible show wpAny _ _ (call (Value.ref _) [_, _]) _ _ _))); k_dflt (refine Ctr.new1 (by k_asm) (by k_asm) (by k_asm) (by k_asm) (by k_asm) (by exact rfl) (by ktr_room) (by ktr_units) (followers_ctr (by k_mem) (by assumption) (by omega) (by k_mem) (by assumption) (by assumption) (by assumption) (by assumption)) ?_); (intro _ _ _ _ _ _ _ _); (try dsimp only); (try k_fold))) | (with_reducible (k_here; (fail_if_success (fail_if_success (with_reducible show wpAny _ _ (call (Value.ref _) [_, _]) _ _ _))); k_dflt (refine Ctr.same (by k_asm) (by k_asm) (by k_asm) (by k_asm) (by k_asm) (by exact rfl) (by ktr_room) (by ktr_units) (behind_ctr (by k_mem) (by assumption)) ?_); (intro _ _ _ _ _); (try dsimp only); (try k_fold))) | (with_reducible (k_here; (fail_if_success (fail_if_success (with_reducible show wpAny _ _ (call (Value.builtin _) [Value.ref _, Value.ref _]) _ _ _))); k_dflt (refine extend_head (by k_asm) (by assumption) (by k_mem) (by assumption) (by assumption) ?_); (intro _ _ _ _; (try dsimp only)))) | (with_reducible (k_here; (fail_if_success (fail_if_success (with_reducible show wpAny _ _ (call (Value.builtin _) [Value.ref _]) _ _ _))); k_dflt (refine popA (by k_asm) (by k_asm) (by k_upd) (by exact kpa_last _ _) (by (rw [sizeLine_eq]; exact Nat.le_trans (by assumption) (by decide))) ?_); (intro _ _ _; (try dsimp only)))) | ((fail_if_success (fail_if_success (with_reducible show wpAny _ _ (call (Value.type "zip") _ _) _ _ _))); with_reducible (k_here; k_dflt (refine call_zipK (by k_asm) (by k_asm) (by k_mem) (by assumption) ?_); intro _ _ _ _ _)) | (with_reducible (k_here; (fail_if_success (fail_if_success (with_reducible show wpAny _ _ (call (Value.ref _) [_]) _ _ _))); k_dflt (refine Ctr.same (by k_asm) (by k_asm) (by k_asm) (by k_asm) (by k_asm) (by exact rfl) (by ktr_room) (by ktr_units) (shape_ctr (by k_mem) (by assumption) (by assumption) (by assumption)) ?_); (intro _ _ _ _ _); (try dsimp only); (try k_fold)))) | ((fail_if_success (fail_if_success (with_reducible show wpAny _ _ (subscriptTail _ _ _ _) _ _ _))); first | (with_reducible (k_here; (fail_if_success (fail_if_success (with_reducible show wpAny _ _ (subscriptTail _ _ (Value.ref _) (Value.int _ _)) _ _ _))); k_dflt (refine kda_item (knd := intKind _ _) (by k_asm) (by k_mem) (by assumption) (intKind_is _ _ _ _) (by assumption) ?_ (by with_unfolding_all rfl) (by (intro _; with_unfolding_all rfl))))) | (with_reducible (k_here; (fail_if_success (fail_if_success (with_reducible show wpAny _ _ (subscriptTail _ _ (Value.ref _) (Value.int _ _)) _ _ _))); first | ((fail_if_success (fail_if_success (with_reducible show wpAny _ _ (subscriptTail _ _ _ (Value.int 0 _)) _ _ _))); (with_unfolding_all refine row0 (by k_asm) (by k_mem) ?_ (by with_unfolding_all rfl))) | ((fail_if_success (fail_if_success (with_reducible show wpAny _ _ (subscriptTail _ _ _ (Value.int 1 _)) _ _ _))); (with_unfolding_all refine row1 (by k_asm) (by k_mem) ?_ (by with_unfolding_all rfl))) | ((fail_if_success (fail_if_success (with_reducible show wpAny _ _ (subscriptTail _ _ _ (Value.int 2 _)) _ _ _))); (with_unfolding_all refine row2 (by k_asm) (by k_mem) ?_ (by with_unfolding_all rfl))) | ((fail_if_success (fail_if_success (with_reducible show wpAny _ _ (subscriptTail _ _ _ (Value.int 3 _)) _ _ _))); (with_unfolding_all refine row3 (by k_asm) (by k_mem) ?_ (by with_unfolding_all rfl))) | ((fail_if_success (fail_if_success (with_reducible show wpAny _ _ (subscriptTail _ _ _ (Value.int 4 _)) _ _ _))); (with_unfolding_all refine row4 (by k_asm) (by k_mem) ?_ (by with_unfolding_all rfl))) | ((fail_if_success (fail_if_success (with_reducible show wpAny _ _ (subscriptTail _ _ _ (Value.int (Nat.cast _) _)) _ _ _))); (with_unfolding_all refine row_i _ (by k_asm) (by k_mem) (by assumption) (by omega) ?_ (by with_unfolding_all rfl))))) | (with_reducible (k_here; (fail_if_success (fail_if_success (with_reducible show wpAny _ _ (subscriptTail _ _ (Value.ref _) (Value.ref _)) _ _ _))); (with_unfolding_all refine row_tail (by k_asm) (by k_asm) (by k_mem) (by assumption) ?_ (by with_unfolding_all rfl) (by (intro _; with_unfolding_all rfl))); intro _ _ _ _ _))) | ((fail_if_success (fail_if_success (with_reducible show wpAny _ _ (compareOp _ _ _) _ _ _))); first | ((fail_if_success (fail_if_success (with_reducible show wpAny _ _ (compareOp .In (Value.int _ _) (Value.ref _)) _ _ _))); with_reducible (k_here; k_dflt (refine kda_in (knd := intKind _ _) (by k_asm) (by k_mem) (by assumption) (by assumption) (intKind_is _ _ _ _) _ (by assumption) ?_))) | ((fail_if_success (fail_if_success (with_reducible show wpAny _ _ (compareOp .NotEq (Value.ref _) (Value.ref _)) _ _ _))); with_reducible (k_here; k_dflt (refine ne_nil_b (by k_asm) (by k_dflt k_mem) (by k_dflt k_mem) (by (refine Waits.dm (Waits.mono ?_ (by assumption)); intro _ _; k_mem)) (by exact Waits.small (by assumption)) (by ktr_units) (by assumption) ?_)))) | ((fail_if_success (fail_if_success (with_reducible show wpAny _ _ (setItem _ _ _) _ _ _))); first | ((fail_if_success (fail_if_success (with_reducible show wpAny _ _ (setItem (Value.ref _) _ _) _ _ _))); with_reducible (k_here; k_dflt (refine kda_set (knd := intKind _ _) (by k_asm) (by k_asm) (by k_updF) (by assumption) (intKind_is _ _ _ _) (by (rw [sizeLine_eq]; omega)) ?_); (intro _ _ _ N9 _; (try dsimp only at N9))))) | ((fail_if_success (fail_if_success (with_reducible show wpAny _ _ (eval _ _) _ _ _))); first | ((fail_if_success (fail_if_success (with_reducible show wpAny _ _ (eval (.ListComp _ _ _ _) _) _ _ _))); with_reducible (k_here; k_dflt (refine LCg.ListComp_U (F₀ := by k_asm) (by with_unfolding_all rfl) (by decide) (by rfl) (by decide) (by rfl) ?_)))) | walk1 | (dsimp only; walk1) | (leave1; walk_say "STEP leave1"; try dsimp only) | fail "no step"))
  rename_i co hco Fd _ oF lo _ _ hiF _ lFd D1 _ lD1 W _ lW D2 _ lD2 _ _ _ F1 N1
  show wpAny _ _ _ _ _ _
  have hCF : @LT.lt Nat _ (L' + 1) Fd := lFd.1
  have hFW : @LT.lt Nat _ Fd W := by omega
  have hCW : @LT.lt Nat _ (L' + 1) W := by omega
  refine depthLoop F1 N1 (by intro q9 hq9; rcases List.mem_cons.mp hq9 with rfl | hq9; (k_dflt k_mem); rcases List.mem_cons.mp hq9 with rfl | hq9; (k_dflt k_mem); rcases List.mem_cons.mp hq9 with rfl | hq9; (k_dflt k_mem); rcases List.mem_cons.mp hq9 with rfl | hq9; (k_dflt k_mem); k_dflt k_mem) (allLt_ne lW.2.2.2) (allLt_ne lFd.2) (fun q hq => Nat.ne_of_lt (Nat.lt_succ_of_lt (l1 q hq))) ⟨neN (by omega), neN (by omega), neN (by omega)⟩ hco hiF ?_
  intro kvs o co vs as k u rest va vd vr h₁ tk₁ F₂ N₂ hW hFd hCb hsub hco hkv hz hlen hwt h9
  have hwt' := hwt
  clear lW lD1 lD2 lFd N1 F1
  cases hwt with
  | nil =>
    have hE : (!(([] : List Nat).map pairD).isEmpty) = false := rfl
    (repeat' (first | (k_unfold; (try dsimp only)) | (k_end; wrow_close) | ((fail_if_success (fail_if_success (with_reducible show wpAny _ _ (call _ _ _) _ _ _))); first | (with_reducible (k_here; (fail_if_success (fail_if_success (with_reducible show wpAny _ _ (call (Value.ref _) [_, _]) _ _ _))); k_dflt (refine Ctr.new1 (by k_asm) (by k_asm) (by k_asm) (by k_asm) (by k_asm) (by exact rfl) (by ktr_room) (by ktr_units) (followers_ctr (by k_mem) (by assumption) (by omega) (by k_mem) (by assumption) (by assumption) (by assumption) (by assumption)) ?_); (intro _ _ _ _ _ _ _ _); (try dsimp only); (try k_fold))) | (with_reducible (k_here; (fail_if_success (fail_if_success (with_reducible show wpAny _ _ (call (Value.ref _) [_, _]) _ _ _))); k_dflt (refine Ctr.same (by k_asm) (by k_asm) (by k_asm) (by k_asm) (by k_asm) (by exact rfl) (by ktr_room) (by ktr_units) (behind_ctr (by k_mem) (by assumption)) ?_); (intro _ _ _ _ _); (try dsimp only); (try k_fold))) | (with_reducible (k_here; (fail_if_success (fail_if_success (with_reducible show wpAny _ _ (call (Value.builtin _) [Value.ref _, Value.ref _]) _ _ _))); k_dflt (refine extend_head (by k_asm) (by assumption) (by k_mem) (by assumption) (by assumption) ?_); (intro _ _ _ _; (try dsimp only)))) | (with_reducible (k_here; (fail_if_success (fail_if_success (with_reducible show wpAny _ _ (call (Value.builtin _) [Value.ref _]) _ _ _))); k_dflt (refine popA (by k_asm) (by k_asm) (by k_upd) (by exact kpa_last _ _) (by (rw [sizeLine_eq]; exact Nat.le_trans (by assumption) (by decide))) ?_); (intro _ _ _; (try dsimp only)))) | ((fail_if_success (fail_if_success (with_reducible show wpAny _ _ (call (Value.type "zip") _ _) _ _ _))); with_reducible (k_here; k_dflt (refine call_zipK (by k_asm) (by k_asm) (by k_mem) (by assumption) ?_); intro _ _ _ _ _)) | (with_reducible (k_here; (fail_if_success (fail_if_success (with_reducible show wpAny _ _ (call (Value.ref _) [_]) _ _ _))); k_dflt (refine Ctr.same (by k_asm) (by k_asm) (by k_asm) (by k_asm) (by k_asm) (by exact rfl) (by ktr_room) (by ktr_units) (shape_ctr (by k_mem) (by assumption) (by assumption) (by assumption)) ?_); (intro _ _ _ _ _); (try dsimp only); (try k_fold)))) | ((fail_if_success (fail_if_success (with_reducible show wpAny _ _ (subscriptTail _ _ _ _) _ _ _))); first | (with_reducible (k_here; (fail_if_success (fail_if_success (with_reducible show wpAny _ _ (subscriptTail _ _ (Value.ref _) (Value.int _ _)) _ _ _))); k_dflt (refine kda_item (knd := intKind _ _) (by k_asm) (by k_mem) (by assumption) (intKind_is _ _ _ _) (by assumption) ?_ (by with_unfolding_all rfl) (by (intro _; with_unfolding_all rfl))))) | (with_reducible (k_here; (fail_if_success (fail_if_success (with_reducible show wpAny _ _ (subscriptTail _ _ (Value.ref _) (Value.int _ _)) _ _ _))); first | ((fail_if_success (fail_if_success (with_reducible show wpAny _ _ (subscriptTail _ _ _ (Value.int 0 _)) _ _ _))); (with_unfolding_all refine row0 (by k_asm) (by k_mem) ?_ (by with_unfolding_all rfl))) | ((fail_if_success (fail_if_success (with_reducible show wpAny _ _ (subscriptTail _ _ _ (Value.int 1 _)) _ _ _))); (with_unfolding_all refine row1 (by k_asm) (by k_mem) ?_ (by with_unfolding_all rfl))) | ((fail_if_success (fail_if_success (with_reducible show wpAny _ _ (subscriptTail _ _ _ (Value.int 2 _)) _ _ _))); (with_unfolding_all refine row2 (by k_asm) (by k_mem) ?_ (by with_unfolding_all rfl))) | ((fail_if_success (fail_if_success (with_reducible show wpAny _ _ (subscriptTail _ _ _ (Value.int 3 _)) _ _ _))); (with_unfolding_all refine row3 (by k_asm) (by k_mem) ?_ (by with_unfolding_all rfl))) | ((fail_if_success (fail_if_success (with_reducible show wpAny _ _ (subscriptTail _ _ _ (Value.int 4 _)) _ _ _))); (with_unfolding_all refine row4 (by k_asm) (by k_mem) ?_ (by with_unfolding_all rfl))) | ((fail_if_success (fail_if_success (with_reducible show wpAny _ _ (subscriptTail _ _ _ (Value.int (Nat.cast _) _)) _ _ _))); (with_unfolding_all refine row_i _ (by k_asm) (by k_mem) (by assumption) (by omega) ?_ (by with_unfolding_all rfl))))) | (with_reducible (k_here; (fail_if_success (fail_if_success (with_reducible show wpAny _ _ (subscriptTail _ _ (Value.ref _) (Value.ref _)) _ _ _))); (with_unfolding_all refine row_tail (by k_asm) (by k_asm) (by k_mem) (by assumption) ?_ (by with_unfolding_all rfl) (by (intro _; with_unfolding_all rfl))); intro _ _ _ _ _))) | ((fail_if_success (fail_if_success (with_reducible show wpAny _ _ (compareOp _ _ _) _ _ _))); first | ((fail_if_success (fail_if_success (with_reducible show wpAny _ _ (compareOp .In (Value.int _ _) (Value.ref _)) _ _ _))); with_reducible (k_here; k_dflt (refine kda_in (knd := intKind _ _) (by k_asm) (by k_mem) (by assumption) (by assumption) (intKind_is _ _ _ _) _ (by assumption) ?_))) | ((fail_if_success (fail_if_success (with_reducible show wpAny _ _ (compareOp .NotEq (Value.ref _) (Value.ref _)) _ _ _))); with_reducible (k_here; k_dflt (refine ne_nil_b (by k_asm) (by k_dflt k_mem) (by k_dflt k_mem) (by (refine Waits.dm (Waits.mono ?_ (by assumption)); intro _ _; k_mem)) (by exact Waits.small (by assumption)) (by ktr_units) (by assumption) ?_)))) | ((fail_if_success (fail_if_success (with_reducible show wpAny _ _ (setItem _ _ _) _ _ _))); first | ((fail_if_success (fail_if_success (with_reducible show wpAny _ _ (setItem (Value.ref _) _ _) _ _ _))); with_reducible (k_here; k_dflt (refine kda_set (knd := intKind _ _) (by k_asm) (by k_asm) (by k_updF) (by assumption) (intKind_is _ _ _ _) (by (rw [sizeLine_eq]; omega)) ?_); (intro _ _ _ N9 _; (try dsimp only at N9))))) | ((fail_if_success (fail_if_success (with_reducible show wpAny _ _ (eval _ _) _ _ _))); first | ((fail_if_success (fail_if_success (with_reducible show wpAny _ _ (eval (.ListComp _ _ _ _) _) _ _ _))); with_reducible (k_here; k_dflt (refine LCg.ListComp_U (F₀ := by k_asm) (by with_unfolding_all rfl) (by decide) (by rfl) (by decide) (by rfl) ?_)))) | walk1 | (dsimp only; walk1) | (leave1; walk_say "STEP leave1"; try dsimp only) | fail "no step"))
    rename_i kF9 kN9 _ _
    exact hret _ [] _ _ kF9 (News.sub kN9 (by intro q9 hq9; have hq8 := hsub q9 hq9; k_mem)) (fun _ _ _ h => nomatch h) trivial
  | snoc hwt ht ha =>
    rename_i vs as t a tk tk' n
    have hE : (!((as ++ [a]).map pairD).isEmpty) = true := by simp
    have hz13 : (vs ++ [Value.ref t]).length ≤ 13 := by omega
    have hln : (vs ++ [Value.ref t]).length = vs.length + 1 := by simp
    cases hva : valueAt kvs (a : Int) with
    | some v =>
      obtain ⟨tv, rfl⟩ := hz _ _ hva
      have hb : (valueAt kvs (a : Int)).isSome = true := by rw [hva]; rfl
      (repeat' (first | (k_unfold; (try dsimp only)) | (k_end; wrow_close) | ((fail_if_success (fail_if_success (with_reducible show wpAny _ _ (call _ _ _) _ _ _))); first | (with_reducible (k_here; (fail_if_success (fail_if_success (with_reducible show wpAny _ _ (call (Value.ref _) [_, _]) _ _ _))); k_dflt (refine Ctr.new1 (by k_asm) (by k_asm) (by k_asm) (by k_asm) (by k_asm) (by exact rfl) (by ktr_room) (by ktr_units) (followers_ctr (by k_mem) (by assumption) (by omega) (by k_mem) (by assumption) (by assumption) (by assumption) (by assumption)) ?_); (intro _ _ _ _ _ _ _ _); (try dsimp only); (try k_fold))) | (with_reducible (k_here; (fail_if_success (fail_if_success (with_reducible show wpAny _ _ (call (Value.ref _) [_, _]) _ _ _))); k_dflt (refine Ctr.same (by k_asm) (by k_asm) (by k_asm) (by k_asm) (by k_asm) (by exact rfl) (by ktr_room) (by ktr_units) (behind_ctr (by k_mem) (by assumption)) ?_); (intro _ _ _ _ _); (try dsimp only); (try k_fold))) | (with_reducible (k_here; (fail_if_success (fail_if_success (with_reducible show wpAny _ _ (call (Value.builtin _) [Value.ref _, Value.ref _]) _ _ _))); k_dflt (refine extend_head (by k_asm) (by assumption) (by k_mem) (by assumption) (by assumption) ?_); (intro _ _ _ _; (try dsimp only)))) | (with_reducible (k_here; (fail_if_success (fail_if_success (with_reducible show wpAny _ _ (call (Value.builtin _) [Value.ref _]) _ _ _))); k_dflt (refine popA (by k_asm) (by k_asm) (by k_upd) (by exact kpa_last _ _) (by (rw [sizeLine_eq]; exact Nat.le_trans (by assumption) (by decide))) ?_); (intro _ _ _; (try dsimp only)))) | ((fail_if_success (fail_if_success (with_reducible show wpAny _ _ (call (Value.type "zip") _ _) _ _ _))); with_reducible (k_here; k_dflt (refine call_zipK (by k_asm) (by k_asm) (by k_mem) (by assumption) ?_); intro _ _ _ _ _)) | (with_reducible (k_here; (fail_if_success (fail_if_success (with_reducible show wpAny _ _ (call (Value.ref _) [_]) _ _ _))); k_dflt (refine Ctr.same (by k_asm) (by k_asm) (by k_asm) (by k_asm) (by k_asm) (by exact rfl) (by ktr_room) (by ktr_units) (shape_ctr (by k_mem) (by assumption) (by assumption) (by assumption)) ?_); (intro _ _ _ _ _); (try dsimp only); (try k_fold)))) | ((fail_if_success (fail_if_success (with_reducible show wpAny _ _ (subscriptTail _ _ _ _) _ _ _))); first | (with_reducible (k_here; (fail_if_success (fail_if_success (with_reducible show wpAny _ _ (subscriptTail _ _ (Value.ref _) (Value.int _ _)) _ _ _))); k_dflt (refine kda_item (knd := intKind _ _) (by k_asm) (by k_mem) (by assumption) (intKind_is _ _ _ _) (by assumption) ?_ (by with_unfolding_all rfl) (by (intro _; with_unfolding_all rfl))))) | (with_reducible (k_here; (fail_if_success (fail_if_success (with_reducible show wpAny _ _ (subscriptTail _ _ (Value.ref _) (Value.int _ _)) _ _ _))); first | ((fail_if_success (fail_if_success (with_reducible show wpAny _ _ (subscriptTail _ _ _ (Value.int 0 _)) _ _ _))); (with_unfolding_all refine row0 (by k_asm) (by k_mem) ?_ (by with_unfolding_all rfl))) | ((fail_if_success (fail_if_success (with_reducible show wpAny _ _ (subscriptTail _ _ _ (Value.int 1 _)) _ _ _))); (with_unfolding_all refine row1 (by k_asm) (by k_mem) ?_ (by with_unfolding_all rfl))) | ((fail_if_success (fail_if_success (with_reducible show wpAny _ _ (subscriptTail _ _ _ (Value.int 2 _)) _ _ _))); (with_unfolding_all refine row2 (by k_asm) (by k_mem) ?_ (by with_unfolding_all rfl))) | ((fail_if_success (fail_if_success (with_reducible show wpAny _ _ (subscriptTail _ _ _ (Value.int 3 _)) _ _ _))); (with_unfolding_all refine row3 (by k_asm) (by k_mem) ?_ (by with_unfolding_all rfl))) | ((fail_if_success (fail_if_success (with_reducible show wpAny _ _ (subscriptTail _ _ _ (Value.int 4 _)) _ _ _))); (with_unfolding_all refine row4 (by k_asm) (by k_mem) ?_ (by with_unfolding_all rfl))) | ((fail_if_success (fail_if_success (with_reducible show wpAny _ _ (subscriptTail _ _ _ (Value.int (Nat.cast _) _)) _ _ _))); (with_unfolding_all refine row_i _ (by k_asm) (by k_mem) (by assumption) (by omega) ?_ (by with_unfolding_all rfl))))) | (with_reducible (k_here; (fail_if_success (fail_if_success (with_reducible show wpAny _ _ (subscriptTail _ _ (Value.ref _) (Value.ref _)) _ _ _))); (with_unfolding_all refine row_tail (by k_asm) (by k_asm) (by k_mem) (by assumption) ?_ (by with_unfolding_all rfl) (by (intro _; with_unfolding_all rfl))); intro _ _ _ _ _))) | ((fail_if_success (fail_if_success (with_reducible show wpAny _ _ (compareOp _ _ _) _ _ _))); first | ((fail_if_success (fail_if_success (with_reducible show wpAny _ _ (compareOp .In (Value.int _ _) (Value.ref _)) _ _ _))); with_reducible (k_here; k_dflt (refine kda_in (knd := intKind _ _) (by k_asm) (by k_mem) (by assumption) (by assumption) (intKind_is _ _ _ _) _ (by assumption) ?_))) | ((fail_if_success (fail_if_success (with_reducible show wpAny _ _ (compareOp .NotEq (Value.ref _) (Value.ref _)) _ _ _))); with_reducible (k_here; k_dflt (refine ne_nil_b (by k_asm) (by k_dflt k_mem) (by k_dflt k_mem) (by (refine Waits.dm (Waits.mono ?_ (by assumption)); intro _ _; k_mem)) (by exact Waits.small (by assumption)) (by ktr_units) (by assumption) ?_)))) | ((fail_if_success (fail_if_success (with_reducible show wpAny _ _ (setItem _ _ _) _ _ _))); first | ((fail_if_success (fail_if_success (with_reducible show wpAny _ _ (setItem (Value.ref _) _ _) _ _ _))); with_reducible (k_here; k_dflt (refine kda_set (knd := intKind _ _) (by k_asm) (by k_asm) (by k_updF) (by assumption) (intKind_is _ _ _ _) (by (rw [sizeLine_eq]; omega)) ?_); (intro _ _ _ N9 _; (try dsimp only at N9))))) | ((fail_if_success (fail_if_success (with_reducible show wpAny _ _ (eval _ _) _ _ _))); first | ((fail_if_success (fail_if_success (with_reducible show wpAny _ _ (eval (.ListComp _ _ _ _) _) _ _ _))); with_reducible (k_here; k_dflt (refine LCg.ListComp_U (F₀ := by k_asm) (by with_unfolding_all rfl) (by decide) (by rfl) (by decide) (by rfl) ?_)))) | walk1 | (dsimp only; walk1) | (leave1; walk_say "STEP leave1"; try dsimp only) | fail "no step"))
      (rename Fr _ _ _ _ => F9); (rename News _ _ _ _ => N9)
      exact ⟨_, _, _, _, 3 * missing kvs + vs.length, rfl, F9, News.sub N9 (by intro q9 hq9; rcases List.mem_cons.mp hq9 with rfl | hq9; (k_dflt k_mem); rcases List.mem_cons.mp hq9 with rfl | hq9; (k_dflt k_mem); rcases List.mem_cons.mp hq9 with rfl | hq9; (k_dflt k_mem); k_dflt k_mem), by omega, ⟨kvs, o, co, vs, as, k + 1, u, rest, _, _, _, rfl, hW, hFd, hCb, hsub, hco, hkv, hz, hlen, hwt, by omega, rfl, map3⟩⟩
    | none =>
      have hb : (valueAt kvs (a : Int)).isSome = false := by rw [hva]; rfl
      obtain ⟨op, x, ds, ⟨⟨r, tr, xt, p0, ps, nr, c0, hat, hr, hs, hl, hn, h0, hp⟩, asc, _, lv, en, _, _, _, _, _, two⟩, hG⟩ := hrows a ha
      have ha100 : a < 100 := by omega
      have hr' := hsub _ hr
      have hR' := hsub _ hR
      have hc' := hsub _ hc
      have hdx' := hsub _ hdx
      have hp' : DmAll rest _ _ := hp.mono hsub
      (repeat' (first | (k_unfold; (try dsimp only)) | (k_end; wrow_close) | ((fail_if_success (fail_if_success (with_reducible show wpAny _ _ (call _ _ _) _ _ _))); first | (with_reducible (k_here; (fail_if_success (fail_if_success (with_reducible show wpAny _ _ (call (Value.ref _) [_, _]) _ _ _))); k_dflt (refine Ctr.new1 (by k_asm) (by k_asm) (by k_asm) (by k_asm) (by k_asm) (by exact rfl) (by ktr_room) (by ktr_units) (followers_ctr (by k_mem) (by assumption) (by omega) (by k_mem) (by assumption) (by assumption) (by assumption) (by assumption)) ?_); (intro _ _ _ _ _ _ _ _); (try dsimp only); (try k_fold))) | (with_reducible (k_here; (fail_if_success (fail_if_success (with_reducible show wpAny _ _ (call (Value.ref _) [_, _]) _ _ _))); k_dflt (refine Ctr.same (by k_asm) (by k_asm) (by k_asm) (by k_asm) (by k_asm) (by exact rfl) (by ktr_room) (by ktr_units) (behind_ctr (by k_mem) (by assumption)) ?_); (intro _ _ _ _ _); (try dsimp only); (try k_fold))) | (with_reducible (k_here; (fail_if_success (fail_if_success (with_reducible show wpAny _ _ (call (Value.builtin _) [Value.ref _, Value.ref _]) _ _ _))); k_dflt (refine extend_head (by k_asm) (by assumption) (by k_mem) (by assumption) (by assumption) ?_); (intro _ _ _ _; (try dsimp only)))) | (with_reducible (k_here; (fail_if_success (fail_if_success (with_reducible show wpAny _ _ (call (Value.builtin _) [Value.ref _]) _ _ _))); k_dflt (refine popA (by k_asm) (by k_asm) (by k_upd) (by exact kpa_last _ _) (by (rw [sizeLine_eq]; exact Nat.le_trans (by assumption) (by decide))) ?_); (intro _ _ _; (try dsimp only)))) | ((fail_if_success (fail_if_success (with_reducible show wpAny _ _ (call (Value.type "zip") _ _) _ _ _))); with_reducible (k_here; k_dflt (refine call_zipK (by k_asm) (by k_asm) (by k_mem) (by assumption) ?_); intro _ _ _ _ _)) | (with_reducible (k_here; (fail_if_success (fail_if_success (with_reducible show wpAny _ _ (call (Value.ref _) [_]) _ _ _))); k_dflt (refine Ctr.same (by k_asm) (by k_asm) (by k_asm) (by k_asm) (by k_asm) (by exact rfl) (by ktr_room) (by ktr_units) (shape_ctr (by k_mem) (by assumption) (by assumption) (by assumption)) ?_); (intro _ _ _ _ _); (try dsimp only); (try k_fold)))) | ((fail_if_success (fail_if_success (with_reducible show wpAny _ _ (subscriptTail _ _ _ _) _ _ _))); first | (with_reducible (k_here; (fail_if_success (fail_if_success (with_reducible show wpAny _ _ (subscriptTail _ _ (Value.ref _) (Value.int _ _)) _ _ _))); k_dflt (refine kda_item (knd := intKind _ _) (by k_asm) (by k_mem) (by assumption) (intKind_is _ _ _ _) (by assumption) ?_ (by with_unfolding_all rfl) (by (intro _; with_unfolding_all rfl))))) | (with_reducible (k_here; (fail_if_success (fail_if_success (with_reducible show wpAny _ _ (subscriptTail _ _ (Value.ref _) (Value.int _ _)) _ _ _))); first | ((fail_if_success (fail_if_success (with_reducible show wpAny _ _ (subscriptTail _ _ _ (Value.int 0 _)) _ _ _))); (with_unfolding_all refine row0 (by k_asm) (by k_mem) ?_ (by with_unfolding_all rfl))) | ((fail_if_success (fail_if_success (with_reducible show wpAny _ _ (subscriptTail _ _ _ (Value.int 1 _)) _ _ _))); (with_unfolding_all refine row1 (by k_asm) (by k_mem) ?_ (by with_unfolding_all rfl))) | ((fail_if_success (fail_if_success (with_reducible show wpAny _ _ (subscriptTail _ _ _ (Value.int 2 _)) _ _ _))); (with_unfolding_all refine row2 (by k_asm) (by k_mem) ?_ (by with_unfolding_all rfl))) | ((fail_if_success (fail_if_success (with_reducible show wpAny _ _ (subscriptTail _ _ _ (Value.int 3 _)) _ _ _))); (with_unfolding_all refine row3 (by k_asm) (by k_mem) ?_ (by with_unfolding_all rfl))) | ((fail_if_success (fail_if_success (with_reducible show wpAny _ _ (subscriptTail _ _ _ (Value.int 4 _)) _ _ _))); (with_unfolding_all refine row4 (by k_asm) (by k_mem) ?_ (by with_unfolding_all rfl))) | ((fail_if_success (fail_if_success (with_reducible show wpAny _ _ (subscriptTail _ _ _ (Value.int (Nat.cast _) _)) _ _ _))); (with_unfolding_all refine row_i _ (by k_asm) (by k_mem) (by assumption) (by omega) ?_ (by with_unfolding_all rfl))))) | (with_reducible (k_here; (fail_if_success (fail_if_success (with_reducible show wpAny _ _ (subscriptTail _ _ (Value.ref _) (Value.ref _)) _ _ _))); (with_unfolding_all refine row_tail (by k_asm) (by k_asm) (by k_mem) (by assumption) ?_ (by with_unfolding_all rfl) (by (intro _; with_unfolding_all rfl))); intro _ _ _ _ _))) | ((fail_if_success (fail_if_success (with_reducible show wpAny _ _ (compareOp _ _ _) _ _ _))); first | ((fail_if_success (fail_if_success (with_reducible show wpAny _ _ (compareOp .In (Value.int _ _) (Value.ref _)) _ _ _))); with_reducible (k_here; k_dflt (refine kda_in (knd := intKind _ _) (by k_asm) (by k_mem) (by assumption) (by assumption) (intKind_is _ _ _ _) _ (by assumption) ?_))) | ((fail_if_success (fail_if_success (with_reducible show wpAny _ _ (compareOp .NotEq (Value.ref _) (Value.ref _)) _ _ _))); with_reducible (k_here; k_dflt (refine ne_nil_b (by k_asm) (by k_dflt k_mem) (by k_dflt k_mem) (by (refine Waits.dm (Waits.mono ?_ (by assumption)); intro _ _; k_mem)) (by exact Waits.small (by assumption)) (by ktr_units) (by assumption) ?_)))) | ((fail_if_success (fail_if_success (with_reducible show wpAny _ _ (setItem _ _ _) _ _ _))); first | ((fail_if_success (fail_if_success (with_reducible show wpAny _ _ (setItem (Value.ref _) _ _) _ _ _))); with_reducible (k_here; k_dflt (refine kda_set (knd := intKind _ _) (by k_asm) (by k_asm) (by k_updF) (by assumption) (intKind_is _ _ _ _) (by (rw [sizeLine_eq]; omega)) ?_); (intro _ _ _ N9 _; (try dsimp only at N9))))) | ((fail_if_success (fail_if_success (with_reducible show wpAny _ _ (eval _ _) _ _ _))); first | ((fail_if_success (fail_if_success (with_reducible show wpAny _ _ (eval (.ListComp _ _ _ _) _) _ _ _))); with_reducible (k_here; k_dflt (refine LCg.ListComp_U (F₀ := by k_asm) (by with_unfolding_all rfl) (by decide) (by rfl) (by decide) (by rfl) ?_)))) | walk1 | (dsimp only; walk1) | (leave1; walk_say "STEP leave1"; try dsimp only) | fail "no step"))
      rename_i o9 d9 _ _ _ _ _ co9 _ _ hco9 _ _ F9 a9 k9 u9 N9 l9
      show LCg.CompSrc _ _ _ _ _ _ _ _ _ _ _ _ _ _
      have hgd := goals_dm (op := op) (x := x) (at_ := a) (u := u9) hp'
      obtain ⟨gs, hgs⟩ := gs_of hgd hG
      have hgl2 := Nat.le_trans (Nat.le_of_eq hgd.len) two
      clear hgd
      generalize hgl : ((if isEnd op = true then [] else [Value.int ((a : Int) + 1) u9]) ++ pickZ (fun c x => c == 103) x.cps.toList (p0 :: ps)) = gl at N9 l9 hgs hgl2
      refine LCg.CompSrc.ledger (its := gl.toArray) (by rfl) F9 N9 (.head _) (by rw [sizeLine_eq]; simp only [List.size_toArray]; omega) ?_
      intro g'
      refine compPairs ?_ ?_ ?_ gl.toArray.size 0 gl gs [] [] _ (by simp) rfl hgs .nil (fun g' h => hgs.uniq h) ⟨gs, hgs⟩ (fun _ h => h) (fun _ h => .inl h)
      · intro g t I oI C oC D m₂ ys h tk E' nw hg4 hC hx F3 N3 hs3
        have hcm : (L' + 1, co9) ∈ nw := hs3 _ (by k_mem)
        have lt3 := fun q hq => Heap.lt_size (N3 q hq).1
        (repeat' (first | (k_unfold; (try dsimp only)) | (k_end; wrow_close) | ((fail_if_success (fail_if_success (with_reducible show wpAny _ _ (call _ _ _) _ _ _))); first | (with_reducible (k_here; (fail_if_success (fail_if_success (with_reducible show wpAny _ _ (call (Value.ref _) [_, _]) _ _ _))); k_dflt (refine Ctr.new1 (by k_asm) (by k_asm) (by k_asm) (by k_asm) (by k_asm) (by exact rfl) (by ktr_room) (by ktr_units) (followers_ctr (by k_mem) (by assumption) (by omega) (by k_mem) (by assumption) (by assumption) (by assumption) (by assumption)) ?_); (intro _ _ _ _ _ _ _ _); (try dsimp only); (try k_fold))) | (with_reducible (k_here; (fail_if_success (fail_if_success (with_reducible show wpAny _ _ (call (Value.ref _) [_, _]) _ _ _))); k_dflt (refine Ctr.same (by k_asm) (by k_asm) (by k_asm) (by k_asm) (by k_asm) (by exact rfl) (by ktr_room) (by ktr_units) (behind_ctr (by k_mem) (by assumption)) ?_); (intro _ _ _ _ _); (try dsimp only); (try k_fold))) | (with_reducible (k_here; (fail_if_success (fail_if_success (with_reducible show wpAny _ _ (call (Value.builtin _) [Value.ref _, Value.ref _]) _ _ _))); k_dflt (refine extend_head (by k_asm) (by assumption) (by k_mem) (by assumption) (by assumption) ?_); (intro _ _ _ _; (try dsimp only)))) | (with_reducible (k_here; (fail_if_success (fail_if_success (with_reducible show wpAny _ _ (call (Value.builtin _) [Value.ref _]) _ _ _))); k_dflt (refine popA (by k_asm) (by k_asm) (by k_upd) (by exact kpa_last _ _) (by (rw [sizeLine_eq]; exact Nat.le_trans (by assumption) (by decide))) ?_); (intro _ _ _; (try dsimp only)))) | ((fail_if_success (fail_if_success (with_reducible show wpAny _ _ (call (Value.type "zip") _ _) _ _ _))); with_reducible (k_here; k_dflt (refine call_zipK (by k_asm) (by k_asm) (by k_mem) (by assumption) ?_); intro _ _ _ _ _)) | (with_reducible (k_here; (fail_if_success (fail_if_success (with_reducible show wpAny _ _ (call (Value.ref _) [_]) _ _ _))); k_dflt (refine Ctr.same (by k_asm) (by k_asm) (by k_asm) (by k_asm) (by k_asm) (by exact rfl) (by ktr_room) (by ktr_units) (shape_ctr (by k_mem) (by assumption) (by assumption) (by assumption)) ?_); (intro _ _ _ _ _); (try dsimp only); (try k_fold)))) | ((fail_if_success (fail_if_success (with_reducible show wpAny _ _ (subscriptTail _ _ _ _) _ _ _))); first | (with_reducible (k_here; (fail_if_success (fail_if_success (with_reducible show wpAny _ _ (subscriptTail _ _ (Value.ref _) (Value.int _ _)) _ _ _))); k_dflt (refine kda_item (knd := intKind _ _) (by k_asm) (by k_mem) (by assumption) (intKind_is _ _ _ _) (by assumption) ?_ (by with_unfolding_all rfl) (by (intro _; with_unfolding_all rfl))))) | (with_reducible (k_here; (fail_if_success (fail_if_success (with_reducible show wpAny _ _ (subscriptTail _ _ (Value.ref _) (Value.int _ _)) _ _ _))); first | ((fail_if_success (fail_if_success (with_reducible show wpAny _ _ (subscriptTail _ _ _ (Value.int 0 _)) _ _ _))); (with_unfolding_all refine row0 (by k_asm) (by k_mem) ?_ (by with_unfolding_all rfl))) | ((fail_if_success (fail_if_success (with_reducible show wpAny _ _ (subscriptTail _ _ _ (Value.int 1 _)) _ _ _))); (with_unfolding_all refine row1 (by k_asm) (by k_mem) ?_ (by with_unfolding_all rfl))) | ((fail_if_success (fail_if_success (with_reducible show wpAny _ _ (subscriptTail _ _ _ (Value.int 2 _)) _ _ _))); (with_unfolding_all refine row2 (by k_asm) (by k_mem) ?_ (by with_unfolding_all rfl))) | ((fail_if_success (fail_if_success (with_reducible show wpAny _ _ (subscriptTail _ _ _ (Value.int 3 _)) _ _ _))); (with_unfolding_all refine row3 (by k_asm) (by k_mem) ?_ (by with_unfolding_all rfl))) | ((fail_if_success (fail_if_success (with_reducible show wpAny _ _ (subscriptTail _ _ _ (Value.int 4 _)) _ _ _))); (with_unfolding_all refine row4 (by k_asm) (by k_mem) ?_ (by with_unfolding_all rfl))) | ((fail_if_success (fail_if_success (with_reducible show wpAny _ _ (subscriptTail _ _ _ (Value.int (Nat.cast _) _)) _ _ _))); (with_unfolding_all refine row_i _ (by k_asm) (by k_mem) (by assumption) (by omega) ?_ (by with_unfolding_all rfl))))) | (with_reducible (k_here; (fail_if_success (fail_if_success (with_reducible show wpAny _ _ (subscriptTail _ _ (Value.ref _) (Value.ref _)) _ _ _))); (with_unfolding_all refine row_tail (by k_asm) (by k_asm) (by k_mem) (by assumption) ?_ (by with_unfolding_all rfl) (by (intro _; with_unfolding_all rfl))); intro _ _ _ _ _))) | ((fail_if_success (fail_if_success (with_reducible show wpAny _ _ (compareOp _ _ _) _ _ _))); first | ((fail_if_success (fail_if_success (with_reducible show wpAny _ _ (compareOp .In (Value.int _ _) (Value.ref _)) _ _ _))); with_reducible (k_here; k_dflt (refine kda_in (knd := intKind _ _) (by k_asm) (by k_mem) (by assumption) (by assumption) (intKind_is _ _ _ _) _ (by assumption) ?_))) | ((fail_if_success (fail_if_success (with_reducible show wpAny _ _ (compareOp .NotEq (Value.ref _) (Value.ref _)) _ _ _))); with_reducible (k_here; k_dflt (refine ne_nil_b (by k_asm) (by k_dflt k_mem) (by k_dflt k_mem) (by (refine Waits.dm (Waits.mono ?_ (by assumption)); intro _ _; k_mem)) (by exact Waits.small (by assumption)) (by ktr_units) (by assumption) ?_)))) | ((fail_if_success (fail_if_success (with_reducible show wpAny _ _ (setItem _ _ _) _ _ _))); first | ((fail_if_success (fail_if_success (with_reducible show wpAny _ _ (setItem (Value.ref _) _ _) _ _ _))); with_reducible (k_here; k_dflt (refine kda_set (knd := intKind _ _) (by k_asm) (by k_asm) (by k_updF) (by assumption) (intKind_is _ _ _ _) (by (rw [sizeLine_eq]; omega)) ?_); (intro _ _ _ N9 _; (try dsimp only at N9))))) | ((fail_if_success (fail_if_success (with_reducible show wpAny _ _ (eval _ _) _ _ _))); first | ((fail_if_success (fail_if_success (with_reducible show wpAny _ _ (eval (.ListComp _ _ _ _) _) _ _ _))); with_reducible (k_here; k_dflt (refine LCg.ListComp_U (F₀ := by k_asm) (by with_unfolding_all rfl) (by decide) (by rfl) (by decide) (by rfl) ?_)))) | walk1 | (dsimp only; walk1) | (leave1; walk_say "STEP leave1"; try dsimp only) | fail "no step"))
        (rename Fr _ _ _ _ => F8); (rename News _ _ _ _ => N8)
        exact ⟨_, _, _, _, _, _, rfl, rfl, F8, N8, lt3⟩
      · intro nw h
        exact .inr ⟨_, h _ (.head _), rfl, _, rfl⟩
      · intro ys nw gs' hgs' hw hs3 hq3 D h tk F3 N3 off1
        obtain rfl := hgs.uniq hgs'
        have hDne := off1_mem off1
        have mW : (W, lstO vs (k + 1)) ∈ nw := hs3 _ (by k_dflt k_mem)
        have mF : (Fd, o9) ∈ nw := hs3 _ (by k_mem)
        have mC : (L' + 1, co9) ∈ nw := hs3 _ (by k_mem)
        have N5 : News _ _ _ nw := fun q hq => N3 q (.tail _ hq)
        have hT := tups_off N5 mW mF mC d9 hco9
        have N4 := recut N3 mW mF mC
        have hneW := recut_ne (o := LCg.lst ys) (oF := o9) (oC := co9) (hDne _ mW).symm (neN (Nat.ne_of_lt hFW)) (neN (Nat.ne_of_lt hCW)) (nw := nw) (Fd := Fd) (Cb := L' + 1)
        have hyl : ys.length ≤ 2 := by rw [hw.len, ← hgs.len]; exact hgl2
        have hvl : vs.length + ys.length ≤ 1000 := by omega
        clear N3 N5 N9 F9
        (repeat' (first | (k_unfold; (try dsimp only)) | (k_end; wrow_close) | ((fail_if_success (fail_if_success (with_reducible show wpAny _ _ (call _ _ _) _ _ _))); first | (with_reducible (k_here; (fail_if_success (fail_if_success (with_reducible show wpAny _ _ (call (Value.ref _) [_, _]) _ _ _))); k_dflt (refine Ctr.new1 (by k_asm) (by k_asm) (by k_asm) (by k_asm) (by k_asm) (by exact rfl) (by ktr_room) (by ktr_units) (followers_ctr (by k_mem) (by assumption) (by omega) (by k_mem) (by assumption) (by assumption) (by assumption) (by assumption)) ?_); (intro _ _ _ _ _ _ _ _); (try dsimp only); (try k_fold))) | (with_reducible (k_here; (fail_if_success (fail_if_success (with_reducible show wpAny _ _ (call (Value.ref _) [_, _]) _ _ _))); k_dflt (refine Ctr.same (by k_asm) (by k_asm) (by k_asm) (by k_asm) (by k_asm) (by exact rfl) (by ktr_room) (by ktr_units) (behind_ctr (by k_mem) (by assumption)) ?_); (intro _ _ _ _ _); (try dsimp only); (try k_fold))) | (with_reducible (k_here; (fail_if_success (fail_if_success (with_reducible show wpAny _ _ (call (Value.builtin _) [Value.ref _, Value.ref _]) _ _ _))); k_dflt (refine extend_head (by k_asm) (by assumption) (by k_mem) (by assumption) (by assumption) ?_); (intro _ _ _ _; (try dsimp only)))) | (with_reducible (k_here; (fail_if_success (fail_if_success (with_reducible show wpAny _ _ (call (Value.builtin _) [Value.ref _]) _ _ _))); k_dflt (refine popA (by k_asm) (by k_asm) (by k_upd) (by exact kpa_last _ _) (by (rw [sizeLine_eq]; exact Nat.le_trans (by assumption) (by decide))) ?_); (intro _ _ _; (try dsimp only)))) | ((fail_if_success (fail_if_success (with_reducible show wpAny _ _ (call (Value.type "zip") _ _) _ _ _))); with_reducible (k_here; k_dflt (refine call_zipK (by k_asm) (by k_asm) (by k_mem) (by assumption) ?_); intro _ _ _ _ _)) | (with_reducible (k_here; (fail_if_success (fail_if_success (with_reducible show wpAny _ _ (call (Value.ref _) [_]) _ _ _))); k_dflt (refine Ctr.same (by k_asm) (by k_asm) (by k_asm) (by k_asm) (by k_asm) (by exact rfl) (by ktr_room) (by ktr_units) (shape_ctr (by k_mem) (by assumption) (by assumption) (by assumption)) ?_); (intro _ _ _ _ _); (try dsimp only); (try k_fold)))) | ((fail_if_success (fail_if_success (with_reducible show wpAny _ _ (subscriptTail _ _ _ _) _ _ _))); first | (with_reducible (k_here; (fail_if_success (fail_if_success (with_reducible show wpAny _ _ (subscriptTail _ _ (Value.ref _) (Value.int _ _)) _ _ _))); k_dflt (refine kda_item (knd := intKind _ _) (by k_asm) (by k_mem) (by assumption) (intKind_is _ _ _ _) (by assumption) ?_ (by with_unfolding_all rfl) (by (intro _; with_unfolding_all rfl))))) | (with_reducible (k_here; (fail_if_success (fail_if_success (with_reducible show wpAny _ _ (subscriptTail _ _ (Value.ref _) (Value.int _ _)) _ _ _))); first | ((fail_if_success (fail_if_success (with_reducible show wpAny _ _ (subscriptTail _ _ _ (Value.int 0 _)) _ _ _))); (with_unfolding_all refine row0 (by k_asm) (by k_mem) ?_ (by with_unfolding_all rfl))) | ((fail_if_success (fail_if_success (with_reducible show wpAny _ _ (subscriptTail _ _ _ (Value.int 1 _)) _ _ _))); (with_unfolding_all refine row1 (by k_asm) (by k_mem) ?_ (by with_unfolding_all rfl))) | ((fail_if_success (fail_if_success (with_reducible show wpAny _ _ (subscriptTail _ _ _ (Value.int 2 _)) _ _ _))); (with_unfolding_all refine row2 (by k_asm) (by k_mem) ?_ (by with_unfolding_all rfl))) | ((fail_if_success (fail_if_success (with_reducible show wpAny _ _ (subscriptTail _ _ _ (Value.int 3 _)) _ _ _))); (with_unfolding_all refine row3 (by k_asm) (by k_mem) ?_ (by with_unfolding_all rfl))) | ((fail_if_success (fail_if_success (with_reducible show wpAny _ _ (subscriptTail _ _ _ (Value.int 4 _)) _ _ _))); (with_unfolding_all refine row4 (by k_asm) (by k_mem) ?_ (by with_unfolding_all rfl))) | ((fail_if_success (fail_if_success (with_reducible show wpAny _ _ (subscriptTail _ _ _ (Value.int (Nat.cast _) _)) _ _ _))); (with_unfolding_all refine row_i _ (by k_asm) (by k_mem) (by assumption) (by omega) ?_ (by with_unfolding_all rfl))))) | (with_reducible (k_here; (fail_if_success (fail_if_success (with_reducible show wpAny _ _ (subscriptTail _ _ (Value.ref _) (Value.ref _)) _ _ _))); (with_unfolding_all refine row_tail (by k_asm) (by k_asm) (by k_mem) (by assumption) ?_ (by with_unfolding_all rfl) (by (intro _; with_unfolding_all rfl))); intro _ _ _ _ _))) | ((fail_if_success (fail_if_success (with_reducible show wpAny _ _ (compareOp _ _ _) _ _ _))); first | ((fail_if_success (fail_if_success (with_reducible show wpAny _ _ (compareOp .In (Value.int _ _) (Value.ref _)) _ _ _))); with_reducible (k_here; k_dflt (refine kda_in (knd := intKind _ _) (by k_asm) (by k_mem) (by assumption) (by assumption) (intKind_is _ _ _ _) _ (by assumption) ?_))) | ((fail_if_success (fail_if_success (with_reducible show wpAny _ _ (compareOp .NotEq (Value.ref _) (Value.ref _)) _ _ _))); with_reducible (k_here; k_dflt (refine ne_nil_b (by k_asm) (by k_dflt k_mem) (by k_dflt k_mem) (by (refine Waits.dm (Waits.mono ?_ (by assumption)); intro _ _; k_mem)) (by exact Waits.small (by assumption)) (by ktr_units) (by assumption) ?_)))) | ((fail_if_success (fail_if_success (with_reducible show wpAny _ _ (setItem _ _ _) _ _ _))); first | ((fail_if_success (fail_if_success (with_reducible show wpAny _ _ (setItem (Value.ref _) _ _) _ _ _))); with_reducible (k_here; k_dflt (refine kda_set (knd := intKind _ _) (by k_asm) (by k_asm) (by k_updF) (by assumption) (intKind_is _ _ _ _) (by (rw [sizeLine_eq]; omega)) ?_); (intro _ _ _ N9 _; (try dsimp only at N9))))) | ((fail_if_success (fail_if_success (with_reducible show wpAny _ _ (eval _ _) _ _ _))); first | ((fail_if_success (fail_if_success (with_reducible show wpAny _ _ (eval (.ListComp _ _ _ _) _) _ _ _))); with_reducible (k_here; k_dflt (refine LCg.ListComp_U (F₀ := by k_asm) (by with_unfolding_all rfl) (by decide) (by rfl) (by decide) (by rfl) ?_)))) | walk1 | (dsimp only; walk1) | (leave1; walk_say "STEP leave1"; try dsimp only) | fail "no step"))
        (rename Fr _ _ _ _ => F9); (rename News _ _ _ _ => N9)
        have hmp := missing_put (v := .int 0 tk') ha hva
        refine ⟨_, _, _, _, 3 * missing (stored kvs (a : Int) (.int 0 tk')) + (vs ++ ys).length, rfl, F9, News.sub N9 (by intro q9 hq9; rcases List.mem_cons.mp hq9 with rfl | hq9; (k_dflt k_mem); rcases List.mem_cons.mp hq9 with rfl | hq9; (k_dflt k_mem); rcases List.mem_cons.mp hq9 with rfl | hq9; (k_dflt k_mem); k_dflt k_mem), by rw [List.length_append]; omega, ⟨stored kvs (a : Int) (.int 0 tk'), o9, co9, vs ++ ys, as ++ gs', _, some (.int 0 tk'), cutRest W Fd (L' + 1) nw, _, _, _, rfl, ?_, ?_, ?_, ?_, hco9, d9, ?_, by omega, Waits.append (hwt.to fun t a tk tk' k hm => hT _ _ _ _ _ (hs3 _ (by k_mem))) (hw.to hT), by rw [List.length_append]; omega, rfl, map4⟩⟩
        · exact fun q hq => (cut_ne hq).1
        · exact fun q hq => (cut_ne hq).2.1
        · exact fun q hq => (cut_ne hq).2.2
        · exact fun q hq => cut_mem (hs3 _ (by have := hsub q hq; k_mem)) (hW _ (hsub q hq)) (hFd _ (hsub q hq)) (hCb _ (hsub q hq))
        · intro k' v' hv'
          rw [stored_absent hva, valueAt_app _ _ _ _ hva] at hv'
          by_cases e : (a : Int) = k'
          · rw [if_pos e] at hv'; exact ⟨_, (Option.some.inj hv').symm⟩
          · rw [if_neg e] at hv'; exact hz _ _ hv'
end
end Mine
end
section
open PySem PySem.W PySem.Spec PySem.Calls PyProof.Rows PyProof.V
namespace Mine
set_option pp.deepTerms false
set_option pp.proofs false
set_option maxRecDepth 100000
set_option maxHeartbeats 8000000
theorem RowAt.mono {w : World} {n n' : List (Addr × Obj)} {rv : List Value} {i : Nat} {op x : Str} {ds : List PyData} (h : ∀ q ∈ n, q ∈ n') (r : RowAt w n rv i op x ds) : RowAt w n' rv i op x ds :=
  { r with ex := let ⟨r, t, xt, p0, ps, n, c0, a, b, c, d, e, f, g⟩ := r.ex; ⟨r, t, xt, p0, ps, n, c0, a, h _ b, c, d, e, f, g.mono h⟩ }
local macro_rules | `(tactic| walk_at "exec Raise some none") => `(tactic| (k_here; k_dflt (refine Raise_fault rfl ?_)))

section
variable {w : World} {p : Program} {loose : List Str} {mean : ExcName → Option Value} {mg mb : Str → Option Value}
theorem row_ctrI {news : List (Addr × Obj)} {c dx R S Cp : Addr} {f : Str} {tf ta0 ts tS t1 t2 t3 t4 t5 t6 t7 : Tok} {ar : Int} {rv cv : List Value} {nR nS nC at_ : Nat} {op x : Str} {ta : Tok} {ds : List PyData} {i : Int}
    (hi : i = (at_ : Int)) (hat4 : at_ < 4) (hc : (c, instObj 85 dx) ∈ news) (hdx : (dx, dictOf (codeEs w f tf ar ta0 ts R S Cp t1 t2 t3 t4 t5 t6 t7) 7) ∈ news) (hR : (R, tupO rv nR) ∈ news) (hr4 : rv.length = 4) (hS : (S, tupO [.str (Str.ofString "T.1") tS] nS) ∈ news) (hC : (Cp, tupO cv nC) ∈ news) (hc4 : cv.length = 4)
    (hr : RowAt w news rv at_ op x ds) : CtrE w p loose mean mg mb 16 134 news [.ref c, .int i ta] (rowD op x ds at_) (fun v tl => v = .none ∧ tl = []) := by
  subst hi
  obtain ⟨⟨r, t, xt, p0, ps, n, c0, hat, hm, hs, hl, hn, h0, hp⟩, asc, sm, lv, en, full, uses, nb, ng, pl, two⟩ := hr
  exact row_ctr hc hdx hR hr4 hS hC hc4 hat hm hs hl hn asc h0 hp sm lv full uses nb ng pl hat4
/-- the rows of a code, as data -/
abbrev Rd := Nat → Str × Str × List PyData
def rowAll (rd : Rd) (i : Nat) : Bool := rowD (rd i).1 (rd i).2.1 (rd i).2.2 i
/-- what checked_code asks of a code of four rows -/
def codeD (ar : Int) (rd : Rd) : Bool := (decide (1 ≤ ar) && decide (ar ≤ 4)) && (rowAll rd 0 && (rowAll rd 1 && (rowAll rd 2 && rowAll rd 3)))
theorem code_no {ar : Int} {rd : Rd} (h : ¬ 1 ≤ ar ∨ ¬ ar ≤ 4) : codeD ar rd = false := by
  unfold codeD
  rcases h with h | h <;> simp [h]
theorem four {i : Nat} (h : i < 4) : i = 0 ∨ i = 1 ∨ i = 2 ∨ i = 3 := by omega
theorem code_row {ar : Int} {rd : Rd} {i : Nat} (hi : i < 4) (h : rowD (rd i).1 (rd i).2.1 (rd i).2.2 i = false) : codeD ar rd = false := by
  replace h : rowAll rd i = false := h
  unfold codeD
  rcases four hi with rfl | rfl | rfl | rfl <;> simp [h]
theorem code_yes {ar : Int} {rd : Rd} (a1 : 1 ≤ ar) (a2 : ar ≤ 4) (g : ∀ i, i < 4 → rowAll rd i = true) : codeD ar rd = true := by
  unfold codeD; simp [a1, a2, g 0, g 1, g 2, g 3]
theorem row_goals {op x : Str} {ds : List PyData} {i : Nat} (h : rowD op x ds i = true) : (goalsD op x ds i).all regD = true := by
  unfold rowD at h
  simp only [Bool.and_eq_true] at h
  exact h.2.2.1
theorem rows_all {news n' : List (Addr × Obj)} {rv : List Value} {rd : Rd} (h : ∀ q ∈ news, q ∈ n') (hr : ∀ i, i < 4 → RowAt w news rv i (rd i).1 (rd i).2.1 (rd i).2.2) (g : ∀ i, i < 4 → rowAll rd i = true) : ∀ i, i < 4 → ∃ op x ds, RowAt w n' rv i op x ds ∧ (goalsD op x ds i).all regD = true :=
  fun i hi => ⟨_, _, _, (hr i hi).mono h, row_goals (g i hi)⟩
section
variable {A : Around} {E : Value → Shared → Prop} {s : Shared} {h₀ : Heap} {L : Addr} {news : List (Addr × Obj)}
theorem len_four {t : Addr} {vs : List Value} {n : Nat} {Q : Value → Shared → Prop} (N : News h₀ L s.heap news) (ht : (t, tupO vs n) ∈ news) (hk : vs.length = 4) (h : ∀ u tk, Q (.int 4 u) { s with toks := tk }) :
    wpAny (model prog w) A (call (.builtin "len") [.ref t]) Q E s := len_tup N ht hk (by decide) h
theorem eq_nil_tup {R D : Addr} {rv : List Value} {n k : Nat} {Q : Value → Shared → Prop} (N : News h₀ L s.heap news) (hR : (R, tupO rv n) ∈ news) (hD : (D, tupO [] k) ∈ news) (hk : rv.length = 4) (hu : A.units + 64 < cLine) (h : Q (.bool false) s) :
    wpAny (model prog w) A (compareOp .Eq (.ref R) (.ref D)) Q E s := by
  refine SeqAt.eq_tupleAt (e := fun _ => true) (News.isTup N hR) (News.isTup N hD) (by omega) (fun j h1 h2 => absurd h2 (Nat.not_lt_zero j)) ?_
  rw [show (rv.toArray.size == ([] : List Value).toArray.size) = false by simp only [List.size_toArray, hk]; rfl, Bool.and_false]
  exact h
end
section
variable {A : Around} {E : Value → Shared → Prop} {s : Shared} {h₀ : Heap} {env : Env} {m₀ : Str → Option Value} {news : List (Addr × Obj)} {x : Str} {body : List Stmt} {Q : Flow → Shared → Prop}
theorem rangeLoop {r : Addr} {a b : Int} {n : Nat} {t u v : Tok} (P : Nat → Prop) (hh : A.handled = none) (F : Fr h₀ env.locals s.heap m₀) (N : News h₀ env.locals s.heap news) (hr : IsRange s.heap r a b 1 t u v) (hsm : Builtin.Range.small a b 1 = true) (hn : Builtin.Range.rangeSize a b 1 = ((n : Nat) : Int)) (h0 : P 0)
    (turn : ∀ (i : Nat) t h tk I oI, i < n → P i → Fr h₀ env.locals h (fun y => if y = x then some (.int (a + (i : Int)) t) else m₀ y) → News h₀ env.locals h ((I, oI) :: news) → (∀ p ∈ news, p.1 < I) →
      wpAny (model prog w) A (execs body env) (TurnOK h₀ env.locals (fun y => if y = x then some (.int (a + (i : Int)) t) else m₀ y) ((I, oI) :: news) { s with heap := h, toks := tk } (P (i + 1)) fun v s' => Q (.ret v) s') E { s with heap := h, toks := tk })
    (done : ∀ (u : Option Value) h tk, Fr h₀ env.locals h (fun y => if y = x then u else m₀ y) → News h₀ env.locals h news → P n → Q .next { s with heap := h, toks := tk }) :
    wpAny (model prog w) A (pyIter (.ref r)) (fun it s₂ => LoopAtV prog w A h₀ env x body Q E it s₂) E s := by
  refine wpAny_pyIter_range hr hsm ?_
  refine atLoop P (LCg.range_walks (prog := prog) (w := w) (I := s.heap.objs.size) hh a n) List.mem_cons_self (fun b hb => .inl (List.mem_singleton.mp hb)) (fun hm => ?_) (next_is_new F) (fun p hp => Heap.lt_size (N p hp).1) (fun i h st => ⟨_, st⟩) (by show IsRangeIter _ _ _ _ _; rw [hn]; simpa using Heap.get?_push_size _ rfl) (F.push _) (fun p hp => ⟨Heap.get?_push_of_some _ (N p hp).1, (N p hp).2⟩) h0 ?_ ?_
  · exact absurd F.ns.lt ((List.mem_singleton.mp hm) ▸ Nat.lt_irrefl _)
  · rintro i v h tk oI hin ⟨t, rfl⟩ hp F₁ N₁ l₁
    exact turn i t h tk _ oI hin hp F₁ N₁ l₁
  · intro u h tk F₁ N₁ hp
    exact done u h tk F₁ N₁ hp
end
def StopFor (p : Prop) : Prop := p
theorem stop_for {p : Prop} (h : StopFor p) : p := h
local macro_rules | `(tactic| walk_at "exec For Name Call cons nil") => `(tactic| (k_here; refine stop_for ?_))
local macro_rules | `(tactic| walk_at "pyIter ref") => `(tactic| (k_here; refine stop_for ?_))
theorem checked_ctr {news : List (Addr × Obj)} {c dx R S Cp : Addr} {f : Str} {tf ta0 ts tS t1 t2 t3 t4 t5 t6 t7 : Tok} {ar : Int} {rv cv : List Value} {nR nS nC : Nat} {rd : Rd}
    (hc : (c, instObj 85 dx) ∈ news) (hdx : (dx, dictOf (codeEs w f tf ar ta0 ts R S Cp t1 t2 t3 t4 t5 t6 t7) 7) ∈ news) (hR : (R, tupO rv nR) ∈ news) (hr4 : rv.length = 4) (hS : (S, tupO [.str (Str.ofString "T.1") tS] nS) ∈ news) (hC : (Cp, tupO cv nC) ∈ news) (hc4 : cv.length = 4)
    (hrows : ∀ i, i < 4 → RowAt w news rv i (rd i).1 (rd i).2.1 (rd i).2.2) :
    CtrE w p loose mean mg mb 18 153 news [.ref c] (codeD ar rd) (fun v tl => v = .ref c ∧ tl = []) := by
  (intro dp un gd cn cs a ccd cl outer A₀ base h₀ L m s Q E B F X N T hk hd hu hgd hret hexc
   refine wpAny_call ?_
   k_dflt (refine' code_def (binds := [(Str.ofString "code", .ref c)]) ?k1 ?k2 ?k3 ?k4 ?k5 ?kA ?kF ?kK ?k6 ?k7 ?k8 ?k9 ?kB ?_ ?c2 ?c3 ?c4 ?c5; (case kA => exact rfl); (case kF => exact rfl); (case kK => assumption); (case k1 => k_asm); (case k2 => k_asm); (case k3 => k_asm); (case k4 => k_asm); (case k5 => k_asm); (case k6 => k_is); (case k7 => k_is); (case k8 => ktr_room); (case k9 => exact BindsTo.of_eq rfl); (case c5 => decide); (case kB => exact locs rfl); (case c2 => exact rfl); (case c3 => exact rfl); (case c4 => exact rfl); k_whole)
   intro g' L' h' FG' F' N' B' X' T'
   (try dsimp only)
   (try k_fold))
  (repeat' (first | (k_unfold; (try dsimp only)) | (k_end; wrow_close) | ((fail_if_success (fail_if_success (with_reducible show wpAny _ _ (call _ _ _) _ _ _))); first | (with_reducible (k_here; (fail_if_success (fail_if_success (with_reducible show wpAny _ _ (call (Value.ref _) [_]) _ _ _))); k_dflt (refine Ctr.any (by k_asm) (by k_asm) (by k_asm) (by k_asm) (by k_asm) (by exact rfl) (by ktr_room) (by ktr_units) (depths_ctr (by k_mem) (by k_mem) (by k_mem) (by assumption) (by (refine rows_all ?_ (by assumption) (by assumption); intro _ _; k_mem))) ?_); (intro _ _ _ _ _); (try dsimp only); (try k_fold))) | (with_reducible (k_here; (fail_if_success (fail_if_success (with_reducible show wpAny _ _ (call (Value.ref _) [_, _]) _ _ _))); k_dflt (refine CtrE.same (by k_asm) (by k_asm) (by k_asm) (by k_asm) (by k_asm) (by exact rfl) (by ktr_room) (by ktr_units) (by assumption) (row_ctrI (by assumption) (by assumption) (by k_mem) (by k_mem) (by k_mem) (by assumption) (by k_mem) (by k_mem) (by assumption) (by (refine RowAt.mono ?_ (by assumption); intro _ _; k_mem))) ?_ ?_); (intro _ _ _ _ _ _); (try dsimp only); (try k_fold); rotate_left; (intro _ _ _ _ _ _ _ _); (try dsimp only); rotate_right)) | ((fail_if_success (fail_if_success (with_reducible show wpAny _ _ (call (Value.builtin "len") _ _) _ _ _))); with_reducible (k_here; k_dflt (refine len_four (by k_asm) (by k_dflt k_mem) (by assumption) ?_); intro _ _; (try dsimp only))) | (with_reducible (k_here; (fail_if_success (fail_if_success (with_reducible show wpAny _ _ (call (Value.ref 52) [Value.str _ _]) _ _ _))); k_dflt (refine fault_made (by k_asm) (by k_asm) (by k_asm) (by k_asm) (by k_asm) (by exact rfl) (by ktr_room) (by ktr_units) ?_); (intro _ _ _ _ _ _ _ _); (try dsimp only); (try k_fold)))) | ((fail_if_success (fail_if_success (with_reducible show wpAny _ _ (compareOp _ _ _) _ _ _))); first | ((fail_if_success (fail_if_success (with_reducible show wpAny _ _ (compareOp .Eq (Value.ref _) (Value.ref _)) _ _ _))); with_reducible (k_here; k_dflt (refine eq_nil_tup (by k_asm) (by k_mem) (by k_mem) (by assumption) (by ktr_units) ?_)))) | walk1 | (dsimp only; walk1) | (leave1; walk_say "STEP leave1"; try dsimp only) | fail "no step"))
  rotate_left
  · (k_dflt (refine raise_end (by k_asm) (by k_asm) (by k_asm) (by assumption) (by rfl) ?_); intro h9 R9 U9; exact hexc (code_no (by omega)) _ _ _ _ FG' U9 (R9.sub (by intro q9 hq9; k_mem)))
  · (k_dflt (refine raise_end (by k_asm) (by k_asm) (by k_asm) (by assumption) (by rfl) ?_); intro h9 R9 U9; exact hexc (code_no (by omega)) _ _ _ _ FG' U9 (R9.sub (by intro q9 hq9; k_mem)))
  have ha1 : 1 ≤ ar := by assumption
  have ha2 : ar ≤ 4 := by assumption
  show wpAny _ _ _ _ _ _
  (rename Fr _ _ _ _ => lF')
  (with_unfolding_all refine' For_invVF lF' ?_ ?_ ?_)
  · exact rfl
  · exact rfl
  (repeat' (first | (k_unfold; (try dsimp only)) | (k_end; wrow_close) | ((fail_if_success (fail_if_success (with_reducible show wpAny _ _ (call _ _ _) _ _ _))); first | (with_reducible (k_here; (fail_if_success (fail_if_success (with_reducible show wpAny _ _ (call (Value.ref _) [_]) _ _ _))); k_dflt (refine Ctr.any (by k_asm) (by k_asm) (by k_asm) (by k_asm) (by k_asm) (by exact rfl) (by ktr_room) (by ktr_units) (depths_ctr (by k_mem) (by k_mem) (by k_mem) (by assumption) (by (refine rows_all ?_ (by assumption) (by assumption); intro _ _; k_mem))) ?_); (intro _ _ _ _ _); (try dsimp only); (try k_fold))) | (with_reducible (k_here; (fail_if_success (fail_if_success (with_reducible show wpAny _ _ (call (Value.ref _) [_, _]) _ _ _))); k_dflt (refine CtrE.same (by k_asm) (by k_asm) (by k_asm) (by k_asm) (by k_asm) (by exact rfl) (by ktr_room) (by ktr_units) (by assumption) (row_ctrI (by assumption) (by assumption) (by k_mem) (by k_mem) (by k_mem) (by assumption) (by k_mem) (by k_mem) (by assumption) (by (refine RowAt.mono ?_ (by assumption); intro _ _; k_mem))) ?_ ?_); (intro _ _ _ _ _ _); (try dsimp only); (try k_fold); rotate_left; (intro _ _ _ _ _ _ _ _); (try dsimp only); rotate_right)) | ((fail_if_success (fail_if_success (with_reducible show wpAny _ _ (call (Value.builtin "len") _ _) _ _ _))); with_reducible (k_here; k_dflt (refine len_four (by k_asm) (by k_dflt k_mem) (by assumption) ?_); intro _ _; (try dsimp only))) | (with_reducible (k_here; (fail_if_success (fail_if_success (with_reducible show wpAny _ _ (call (Value.ref 52) [Value.str _ _]) _ _ _))); k_dflt (refine fault_made (by k_asm) (by k_asm) (by k_asm) (by k_asm) (by k_asm) (by exact rfl) (by ktr_room) (by ktr_units) ?_); (intro _ _ _ _ _ _ _ _); (try dsimp only); (try k_fold)))) | ((fail_if_success (fail_if_success (with_reducible show wpAny _ _ (compareOp _ _ _) _ _ _))); first | ((fail_if_success (fail_if_success (with_reducible show wpAny _ _ (compareOp .Eq (Value.ref _) (Value.ref _)) _ _ _))); with_reducible (k_here; k_dflt (refine eq_nil_tup (by k_asm) (by k_mem) (by k_mem) (by assumption) (by ktr_units) ?_)))) | walk1 | (dsimp only; walk1) | (leave1; walk_say "STEP leave1"; try dsimp only) | fail "no step"))
  show wpAny _ _ _ _ _ _
  (rename IsRange _ _ _ _ _ _ _ _ => hr9)
  (rename Fr _ _ _ _ => F9)
  (rename News _ _ _ _ => N9)
  refine rangeLoop (n := 4) (fun i => ∀ j, j < i → rowAll rd j = true) rfl F9 N9 hr9 (by decide) rfl (fun j hj => absurd hj (Nat.not_lt_zero j)) ?_ ?_
  · intro i t h tk I oI hi hP F2 N2 lt2
    have hir : (0 : Int) + (i : Int) = ((i : Nat) : Int) := Int.zero_add _
    have hri := hrows i hi
    (repeat' (first | (k_unfold; (try dsimp only)) | (k_end; wrow_close) | ((fail_if_success (fail_if_success (with_reducible show wpAny _ _ (call _ _ _) _ _ _))); first | (with_reducible (k_here; (fail_if_success (fail_if_success (with_reducible show wpAny _ _ (call (Value.ref _) [_]) _ _ _))); k_dflt (refine Ctr.any (by k_asm) (by k_asm) (by k_asm) (by k_asm) (by k_asm) (by exact rfl) (by ktr_room) (by ktr_units) (depths_ctr (by k_mem) (by k_mem) (by k_mem) (by assumption) (by (refine rows_all ?_ (by assumption) (by assumption); intro _ _; k_mem))) ?_); (intro _ _ _ _ _); (try dsimp only); (try k_fold))) | (with_reducible (k_here; (fail_if_success (fail_if_success (with_reducible show wpAny _ _ (call (Value.ref _) [_, _]) _ _ _))); k_dflt (refine CtrE.same (by k_asm) (by k_asm) (by k_asm) (by k_asm) (by k_asm) (by exact rfl) (by ktr_room) (by ktr_units) (by assumption) (row_ctrI (by assumption) (by assumption) (by k_mem) (by k_mem) (by k_mem) (by assumption) (by k_mem) (by k_mem) (by assumption) (by (refine RowAt.mono ?_ (by assumption); intro _ _; k_mem))) ?_ ?_); (intro _ _ _ _ _ _); (try dsimp only); (try k_fold); rotate_left; (intro _ _ _ _ _ _ _ _); (try dsimp only); rotate_right)) | ((fail_if_success (fail_if_success (with_reducible show wpAny _ _ (call (Value.builtin "len") _ _) _ _ _))); with_reducible (k_here; k_dflt (refine len_four (by k_asm) (by k_dflt k_mem) (by assumption) ?_); intro _ _; (try dsimp only))) | (with_reducible (k_here; (fail_if_success (fail_if_success (with_reducible show wpAny _ _ (call (Value.ref 52) [Value.str _ _]) _ _ _))); k_dflt (refine fault_made (by k_asm) (by k_asm) (by k_asm) (by k_asm) (by k_asm) (by exact rfl) (by ktr_room) (by ktr_units) ?_); (intro _ _ _ _ _ _ _ _); (try dsimp only); (try k_fold)))) | ((fail_if_success (fail_if_success (with_reducible show wpAny _ _ (compareOp _ _ _) _ _ _))); first | ((fail_if_success (fail_if_success (with_reducible show wpAny _ _ (compareOp .Eq (Value.ref _) (Value.ref _)) _ _ _))); with_reducible (k_here; k_dflt (refine eq_nil_tup (by k_asm) (by k_mem) (by k_mem) (by assumption) (by ktr_units) ?_)))) | walk1 | (dsimp only; walk1) | (leave1; walk_say "STEP leave1"; try dsimp only) | fail "no step"))
    · (rename Fr _ _ _ _ => F9)
      (rename News _ _ _ _ => N9)
      exact ⟨_, _, rfl, F9, N9, fun j hj => if e : j = i then e ▸ (by assumption) else hP j (by omega)⟩
    · (rename_i R9 U9; exact hexc (code_row hi (by assumption)) _ _ _ _ FG' U9 (RaisedX.sub R9 (by intro q9 hq9; k_mem)))
  · intro u h tk F2 N2 hP
    (repeat' (first | (k_unfold; (try dsimp only)) | (k_end; wrow_close) | ((fail_if_success (fail_if_success (with_reducible show wpAny _ _ (call _ _ _) _ _ _))); first | (with_reducible (k_here; (fail_if_success (fail_if_success (with_reducible show wpAny _ _ (call (Value.ref _) [_]) _ _ _))); k_dflt (refine Ctr.any (by k_asm) (by k_asm) (by k_asm) (by k_asm) (by k_asm) (by exact rfl) (by ktr_room) (by ktr_units) (depths_ctr (by k_mem) (by k_mem) (by k_mem) (by assumption) (by (refine rows_all ?_ (by assumption) (by assumption); intro _ _; k_mem))) ?_); (intro _ _ _ _ _); (try dsimp only); (try k_fold))) | (with_reducible (k_here; (fail_if_success (fail_if_success (with_reducible show wpAny _ _ (call (Value.ref _) [_, _]) _ _ _))); k_dflt (refine CtrE.same (by k_asm) (by k_asm) (by k_asm) (by k_asm) (by k_asm) (by exact rfl) (by ktr_room) (by ktr_units) (by assumption) (row_ctrI (by assumption) (by assumption) (by k_mem) (by k_mem) (by k_mem) (by assumption) (by k_mem) (by k_mem) (by assumption) (by (refine RowAt.mono ?_ (by assumption); intro _ _; k_mem))) ?_ ?_); (intro _ _ _ _ _ _); (try dsimp only); (try k_fold); rotate_left; (intro _ _ _ _ _ _ _ _); (try dsimp only); rotate_right)) | ((fail_if_success (fail_if_success (with_reducible show wpAny _ _ (call (Value.builtin "len") _ _) _ _ _))); with_reducible (k_here; k_dflt (refine len_four (by k_asm) (by k_dflt k_mem) (by assumption) ?_); intro _ _; (try dsimp only))) | (with_reducible (k_here; (fail_if_success (fail_if_success (with_reducible show wpAny _ _ (call (Value.ref 52) [Value.str _ _]) _ _ _))); k_dflt (refine fault_made (by k_asm) (by k_asm) (by k_asm) (by k_asm) (by k_asm) (by exact rfl) (by ktr_room) (by ktr_units) ?_); (intro _ _ _ _ _ _ _ _); (try dsimp only); (try k_fold)))) | ((fail_if_success (fail_if_success (with_reducible show wpAny _ _ (compareOp _ _ _) _ _ _))); first | ((fail_if_success (fail_if_success (with_reducible show wpAny _ _ (compareOp .Eq (Value.ref _) (Value.ref _)) _ _ _))); with_reducible (k_here; k_dflt (refine eq_nil_tup (by k_asm) (by k_mem) (by k_mem) (by assumption) (by ktr_units) ?_)))) | walk1 | (dsimp only; walk1) | (leave1; walk_say "STEP leave1"; try dsimp only) | fail "no step"))
    (rename_i kF9 kN9 _ _; exact hret (code_yes ha1 ha2 hP) _ [] _ _ kF9 (News.sub kN9 (by intro q9 hq9; k_mem)) (fun _ _ _ h => nomatch h) ⟨rfl, rfl⟩)
end
end Mine
end
section
open PySem PySem.W PySem.Spec PySem.Calls PyProof.Rows PyProof.V
namespace Mine
local macro_rules | `(tactic| walk_at "idle 0") => `(tactic| fail)
local macro_rules | `(tactic| walk_at "idle 1") => `(tactic| fail)
local macro_rules | `(tactic| walk_at "idle 2") => `(tactic| fail)
local macro_rules | `(tactic| walk_at "idle 3") => `(tactic| fail)
set_option pp.deepTerms false
set_option pp.proofs false
set_option maxRecDepth 100000
set_option maxHeartbeats 8000000
section
variable {w : World} {A : Around} {E : Value → Shared → Prop} {s : Shared} {h₀ : Heap} {L : Addr} {m : Str → Option Value} {env : Env}
/-- what a block with a test needs that runs over a tuple of the ledger -/
def TupSrc (w : World) (A : Around) (h₀ : Heap) (L : Addr) (m : Str → Option Value) (env : Env) (ct elt : Expr) (x : Str) (scope : Scope) (cl : List (Str × Addr)) (Q : Value → Shared → Prop) (xv : Value) (s₁ : Shared) : Prop :=
  ∃ (ax : Addr) (vs : List Value) (n : Nat) (news : List (Addr × Obj)), xv = .ref ax ∧ A.handled = none ∧ Fr h₀ L s₁.heap m ∧ News h₀ L s₁.heap news ∧ (ax, tupO vs n) ∈ news ∧ vs.length ≤ 1000 ∧
    ∀ g, LCt.CompRestT prog w A h₀ L m env ct elt x scope cl { s₁ with heap := g } (fun nw => (ax, tupO vs n) ∈ nw) (fun i v => vs.toArray[i]? = some v) (LCg.FinE h₀ L m { s₁ with heap := g } Q) vs.toArray.size 0 [] news
theorem tupBlock {ct elt iter : Expr} {x : Str} {px : Pos} {scope : Scope} {cl : List (Str × Addr)} {pos : Pos} {Q : Value → Shared → Prop} (_F : Fr h₀ L s.heap m)
    (hclos : closureFor scope env = pure cl) (hcell : ∀ y ∈ scope.names, y.2 ≠ .cell) (hkind : scope.kind = .function)
    (hnames : ∀ y ∈ scope.names, y.2 = .local → scope.names.lookup y.1 = some .local) (hx : scope.names.lookup x = some .local)
    (h : wpAny (model prog w) A (eval iter env) (TupSrc w A h₀ L m env ct elt x scope cl Q) E s)
    (hs : ∀ x, foldedSetIterable iter env x = pure x := by intro _; rfl) :
    wpAny (model prog w) A (eval (.ListComp elt [⟨.Name x px, iter, [ct], 0⟩] scope pos) env) Q E s := by
  rw [eval_ListComp]
  refine wpAny_comprehension_free (use := none) rfl hs hclos hkind hnames (wpAny_mono h (fun xv s₁ h₁ => ?_) fun _ _ e => e)
  obtain ⟨ax, vs, n, news, rfl, hh, F, N, hm, hz, R⟩ := h₁
  have hl := News.isTup N hm
  have hlt : ax < s₁.heap.objs.size := Heap.lt_size (N _ hm).1
  refine wpAny_pyIter_tuple hl ?_
  refine LCt.block_T (S := fun nw => (ax, tupO vs n) ∈ nw) (Walks.tuple hh s₁.heap.objs.size ax (Nat.ne_of_lt hlt) vs.toArray) (by rw [sizeLine_eq, List.size_toArray]; omega) (fun i h st => by obtain ⟨o, e, _⟩ := st.1; exact ⟨o, e⟩) ?_ hcell hkind hx ⟨⟨_, Heap.get?_push_size _ rfl, rfl, rfl⟩, hl.push _⟩ ?_
    (F.push _) (fun p hp => ⟨Heap.get?_push_of_some _ (N p hp).1, (N p hp).2⟩) (Nat.ne_of_lt F.ns.lt) (next_is_new F) (fun p hp => Nat.ne_of_lt (Heap.lt_size (N p hp).1)) hm (R _) ?_
  · intro i h h' o nw st e e' k N' S'
    refine ⟨?_, News.isTup N' S'⟩
    obtain ⟨o', q, r⟩ := st.1
    rw [e] at q; cases q
    exact ⟨o, e', r⟩
  · intro b hb
    show b < (s₁.heap.push _).objs.size
    rw [Heap.size_push]
    rcases List.mem_cons.mp hb with rfl | hb
    · exact Nat.lt_succ_self _
    · rw [List.mem_singleton.mp hb]; exact Nat.lt_succ_of_lt hlt
  · intro D C h tk m' ys news' F' N' o1 hn hC₀ hD₀ hCL hDL hCD offC fin
    refine ⟨m', hn, fun h'' hs'' => fin D h'' tk (F'.change hs'' hCL hC₀) (fun p hp => ?_) o1⟩
    refine ⟨hs''.extBut _ _ ?_ (N' p hp).1, (N' p hp).2⟩
    rcases List.mem_cons.mp hp with rfl | hp
    · exact Ne.symm hCD
    · exact offC p hp
/-- the block [x for x in vs if q x] -/
theorem compPick {ct : Expr} {x : Str} {pe : Pos} {scope : Scope} {cl : List (Str × Addr)} {ax : Addr} {vs : List Value} {n : Nat} {news : List (Addr × Obj)} {Fin : List Value → List (Addr × Obj) → Prop} (q : Value → Bool) (hm : (ax, tupO vs n) ∈ news)
    (turn : ∀ v I oI C oC D m₂ ys h tk (E' : Value → Shared → Prop), v ∈ vs → LCg.NsObj oC m₂ → m₂ x = some v → Fr h₀ L h m → News h₀ L h ((I, oI) :: (C, oC) :: (D, LCg.lst ys) :: news) →
      wpAny (model prog w) A (isTrue ct (compEnvC scope cl C env) (eval ct (compEnvC scope cl C env))) (fun ok s₂ => ok = q v ∧ ∃ h' tk', s₂ = { s with heap := h', toks := tk' } ∧ Fr h₀ L h' m ∧ News h₀ L h' ((I, oI) :: (C, oC) :: (D, LCg.lst ys) :: news)) E' { s with heap := h, toks := tk })
    (name : ∀ v I oI C oC D m₂ ys h tk (E' : Value → Shared → Prop) (Q' : Value → Shared → Prop), LCg.NsObj oC m₂ → m₂ x = some v → Fr h₀ L h m → News h₀ L h ((I, oI) :: (C, oC) :: (D, LCg.lst ys) :: news) → Q' v { s with heap := h, toks := tk } →
      wpAny (model prog w) A (eval (.Name x pe) (compEnvC scope cl C env)) Q' E' { s with heap := h, toks := tk })
    (fin : Fin (vs.filter q) news) :
    ∀ (k i : Nat) (us : List Value) (ys : List Value), k = us.length → vs.drop i = us → ys ++ us.filter q = vs.filter q →
    LCt.CompRestT prog w A h₀ L m env ct (.Name x pe) x scope cl s (fun nw => (ax, tupO vs n) ∈ nw) (fun i v => vs.toArray[i]? = some v) Fin k i ys news
  | 0, i, us, ys, hk, hd, hy => by
    obtain rfl : us = [] := List.length_eq_zero_iff.mp hk.symm
    have e : ys = vs.filter q := by simpa using hy
    rw [e]
    exact fin
  | k + 1, i, us, ys, hk, hd, hy => by
    refine LCt.CompRestT.succ ?_
    intro v I oI C oC D m₂ h tk E' hv hC hx F N off ne
    cases us with
    | nil => cases hk
    | cons u us =>
      have hv' : vs[i]? = some v := by simpa using hv
      have hd0 : (vs.drop i)[0]? = some v := by rw [List.getElem?_drop]; simpa using hv'
      rw [hd] at hd0
      obtain rfl : u = v := by simpa using hd0
      have hvm : u ∈ vs := List.mem_of_getElem? hv'
      have hd' : vs.drop (i + 1) = us := by rw [← List.drop_drop, hd]; rfl
      refine wpAny_mono (turn u I oI C oC D m₂ ys h tk E' hvm hC hx F N) (fun ok s₂ hp => ?_) fun _ _ e => e
      obtain ⟨rfl, h', tk', rfl, F', N'⟩ := hp
      cases hq : q u with
      | true =>
        rw [if_pos rfl]
        refine name u I oI C oC D m₂ ys h' tk' E' _ hC hx F' N' ⟨h', tk', news, rfl, F', N', off, hm, ?_⟩
        exact compPick q hm turn name fin k (i + 1) us _ (by simpa using hk) hd' (by rw [← hy, List.filter_cons, if_pos hq]; simp)
      | false =>
        rw [if_neg Bool.false_ne_true]
        refine ⟨h', tk', news, rfl, F', N', off, hm, ?_⟩
        exact compPick q hm turn name fin k (i + 1) us _ (by simpa using hk) hd' (by rw [← hy, List.filter_cons, if_neg (by rw [hq]; exact Bool.false_ne_true)])
end
theorem reg_hi {i : Int} (h : 0 ≤ i) : Value.bool (decide (i < 4)) = .bool (regD (.int i)) := by simp [regD, h]
theorem reg_lo {i : Int} (h : ¬ 0 ≤ i) : Value.bool (decide (0 ≤ i)) = .bool (regD (.int i)) := by simp [regD, h]
section
variable {w : World} {p : Program} {loose : List Str} {mean : ExcName → Option Value} {mg mb : Str → Option Value}
theorem number_ctr {news : List (Addr × Obj)} {v : Value} {d : PyData} (hv : Dm news v d) (hb : notBool d = true) :
    Ctr w p loose mean mg mb 2 181 news [v] (fun r tl => r = .bool (regD d) ∧ tl = []) := by
  (intro dp un gd cn cs a ccd cl outer A₀ base h₀ L m s Q E B F X N T hk hd hu hret
   refine wpAny_call ?_
   k_dflt (refine' code_def (binds := [(Str.ofString "part", v)]) ?k1 ?k2 ?k3 ?k4 ?k5 ?kA ?kF ?kK ?k6 ?k7 ?k8 ?k9 ?kB ?_ ?c2 ?c3 ?c4 ?c5; (case kA => exact rfl); (case kF => exact rfl); (case kK => assumption); (case k1 => k_asm); (case k2 => k_asm); (case k3 => k_asm); (case k4 => k_asm); (case k5 => k_asm); (case k6 => k_is); (case k7 => k_is); (case k8 => ktr_room); (case k9 => exact BindsTo.of_eq rfl); (case c5 => decide); (case kB => exact locs rfl); (case c2 => exact rfl); (case c3 => exact rfl); (case c4 => exact rfl); k_whole)
   intro g' L' h' FG' F' N' B' X' T'
   (try dsimp only)
   (try k_fold))
  cases hv with
  | «at» cv =>
    cases cv with
    | int =>
      (repeat' (first | (k_unfold; (try dsimp only)) | (k_end; wrow_close) | ((fail_if_success (fail_if_success (with_reducible show wpAny _ _ (call _ _ _) _ _ _))); first | ((fail_if_success (fail_if_success (with_reducible show wpAny _ _ (call (Value.builtin "isinstance") _ _) _ _ _))); with_reducible (k_here; k_dflt (refine isinst_int (by k_asm) (by (refine Dm.mono ?_ (by assumption); intro _ _; k_mem)) ?_); intro _)) | ((fail_if_success (fail_if_success (with_reducible show wpAny _ _ (call (Value.builtin "isinstance") _ _) _ _ _))); with_reducible (k_here; k_dflt (refine isinst_tuple (by k_asm) (by (refine Dm.mono ?_ (by assumption); intro _ _; k_mem)) ?_); intro _))) | walk1 | (dsimp only; walk1) | (leave1; walk_say "STEP leave1"; try dsimp only) | fail "no step"))
      · (rename_i kF9 kN9 _ _; exact hret _ [] _ _ kF9 (News.sub kN9 (by intro q9 hq9; k_mem)) (fun _ _ _ h => nomatch h) ⟨reg_hi (by assumption), rfl⟩)
      · (rename_i kF9 kN9 _ _; exact hret _ [] _ _ kF9 (News.sub kN9 (by intro q9 hq9; k_mem)) (fun _ _ _ h => nomatch h) ⟨reg_lo (by assumption), rfl⟩)
    | bool => cases hb
    | str =>
      (repeat' (first | (k_unfold; (try dsimp only)) | (k_end; wrow_close) | ((fail_if_success (fail_if_success (with_reducible show wpAny _ _ (call _ _ _) _ _ _))); first | ((fail_if_success (fail_if_success (with_reducible show wpAny _ _ (call (Value.builtin "isinstance") _ _) _ _ _))); with_reducible (k_here; k_dflt (refine isinst_int (by k_asm) (by (refine Dm.mono ?_ (by assumption); intro _ _; k_mem)) ?_); intro _)) | ((fail_if_success (fail_if_success (with_reducible show wpAny _ _ (call (Value.builtin "isinstance") _ _) _ _ _))); with_reducible (k_here; k_dflt (refine isinst_tuple (by k_asm) (by (refine Dm.mono ?_ (by assumption); intro _ _; k_mem)) ?_); intro _))) | walk1 | (dsimp only; walk1) | (leave1; walk_say "STEP leave1"; try dsimp only) | fail "no step"))
      (rename_i kF9 kN9 _ _; exact hret _ [] _ _ kF9 (News.sub kN9 (by intro q9 hq9; k_mem)) (fun _ _ _ h => nomatch h) ⟨rfl, rfl⟩)
    | none =>
      (repeat' (first | (k_unfold; (try dsimp only)) | (k_end; wrow_close) | ((fail_if_success (fail_if_success (with_reducible show wpAny _ _ (call _ _ _) _ _ _))); first | ((fail_if_success (fail_if_success (with_reducible show wpAny _ _ (call (Value.builtin "isinstance") _ _) _ _ _))); with_reducible (k_here; k_dflt (refine isinst_int (by k_asm) (by (refine Dm.mono ?_ (by assumption); intro _ _; k_mem)) ?_); intro _)) | ((fail_if_success (fail_if_success (with_reducible show wpAny _ _ (call (Value.builtin "isinstance") _ _) _ _ _))); with_reducible (k_here; k_dflt (refine isinst_tuple (by k_asm) (by (refine Dm.mono ?_ (by assumption); intro _ _; k_mem)) ?_); intro _))) | walk1 | (dsimp only; walk1) | (leave1; walk_say "STEP leave1"; try dsimp only) | fail "no step"))
      (rename_i kF9 kN9 _ _; exact hret _ [] _ _ kF9 (News.sub kN9 (by intro q9 hq9; k_mem)) (fun _ _ _ h => nomatch h) ⟨rfl, rfl⟩)
  | tup mm _ =>
    (repeat' (first | (k_unfold; (try dsimp only)) | (k_end; wrow_close) | ((fail_if_success (fail_if_success (with_reducible show wpAny _ _ (call _ _ _) _ _ _))); first | ((fail_if_success (fail_if_success (with_reducible show wpAny _ _ (call (Value.builtin "isinstance") _ _) _ _ _))); with_reducible (k_here; k_dflt (refine isinst_int (by k_asm) (by (refine Dm.mono ?_ (by assumption); intro _ _; k_mem)) ?_); intro _)) | ((fail_if_success (fail_if_success (with_reducible show wpAny _ _ (call (Value.builtin "isinstance") _ _) _ _ _))); with_reducible (k_here; k_dflt (refine isinst_tuple (by k_asm) (by (refine Dm.mono ?_ (by assumption); intro _ _; k_mem)) ?_); intro _))) | walk1 | (dsimp only; walk1) | (leave1; walk_say "STEP leave1"; try dsimp only) | fail "no step"))
    (rename_i kF9 kN9 _ _; exact hret _ [] _ _ kF9 (News.sub kN9 (by intro q9 hq9; k_mem)) (fun _ _ _ h => nomatch h) ⟨rfl, rfl⟩)
  | lst mm _ =>
    (repeat' (first | (k_unfold; (try dsimp only)) | (k_end; wrow_close) | ((fail_if_success (fail_if_success (with_reducible show wpAny _ _ (call _ _ _) _ _ _))); first | ((fail_if_success (fail_if_success (with_reducible show wpAny _ _ (call (Value.builtin "isinstance") _ _) _ _ _))); with_reducible (k_here; k_dflt (refine isinst_int (by k_asm) (by (refine Dm.mono ?_ (by assumption); intro _ _; k_mem)) ?_); intro _)) | ((fail_if_success (fail_if_success (with_reducible show wpAny _ _ (call (Value.builtin "isinstance") _ _) _ _ _))); with_reducible (k_here; k_dflt (refine isinst_tuple (by k_asm) (by (refine Dm.mono ?_ (by assumption); intro _ _; k_mem)) ?_); intro _))) | walk1 | (dsimp only; walk1) | (leave1; walk_say "STEP leave1"; try dsimp only) | fail "no step"))
    (rename_i kF9 kN9 _ _; exact hret _ [] _ _ kF9 (News.sub kN9 (by intro q9 hq9; k_mem)) (fun _ _ _ h => nomatch h) ⟨rfl, rfl⟩)
end
theorem plain_nb {d : PyData} (h : plainD d = true) : notBool d = true := by cases d <;> first | rfl | cases h
theorem tup_mem_len {ds l : List PyData} {op : Str} {i : Nat} (h : ∀ d ∈ ds, plainD d = true) (hi : (PyData.str op :: ds)[i]? = some (.tuple l)) : l.length < 100 := by
  have hm := List.mem_of_getElem? hi
  rcases List.mem_cons.mp hm with e | hm
  · cases e
  · exact plain_tup (h _ hm)
/-- a tuple of registers -/
def regsD : PyData → Bool | .tuple l => l.all regD | _ => false
def sameLen (a b : PyData) : Bool := match a, b with | .tuple l, .tuple l' => l.length == l'.length | _, _ => false
/-- what the law asks of the part behind a letter -/
def letterD (full : List PyData) (c i : Nat) : Bool :=
  if c = 114 ∨ c = 103 ∨ c = 104 then full[i + 1]?.any regD
  else if c = 118 then full[i + 1]?.any (isStr (Str.ofString "T.1"))
  else if c = 116 then full[i + 1]?.any regsD
  else if c = 109 then full[i + 1]?.any fun a => full[i]?.any (sameLen a)
  else if c = 110 then full[i + 1]?.any fun a => full[i + 2]?.any (sameLen a)
  else true
def okAt (full : List PyData) (ls : Str) (i : Nat) : Bool := letterD full (ls.cps.getD i 0) i
def rightD (full : List PyData) (ls : Str) : Bool := (List.range ls.cps.size).all (okAt full ls)
theorem okAt_of {full : List PyData} {ls : Str} {i c : Nat} (h : ls.cps[i]? = some c) : okAt full ls i = letterD full c i := by
  unfold okAt; rw [Array.getD_eq_getD_getElem?, h]; rfl
theorem right_no {full : List PyData} {ls : Str} {i c : Nat} (h : ls.cps[i]? = some c) (e : letterD full c i = false) : rightD full ls = false := by
  refine Bool.eq_false_iff.mpr fun x => ?_
  have := List.all_eq_true.mp x i (List.mem_range.mpr (Array.getElem?_eq_some_iff.mp h).1)
  rw [okAt_of h, e] at this
  cases this
theorem right_yes {full : List PyData} {ls : Str} (h : ∀ j, j < ls.cps.size → okAt full ls j = true) : rightD full ls = true :=
  List.all_eq_true.mpr fun j hj => h j (List.mem_range.mp hj)
theorem regs_no {d : PyData} (h : isT d = false) : regsD d = false := by cases d <;> first | rfl | cases h
theorem same_no1 {a b : PyData} (h : isT a = false) : sameLen a b = false := by cases a <;> first | rfl | cases h
theorem same_no2 {a b : PyData} (h : isT b = false) : sameLen a b = false := by cases a <;> cases b <;> first | rfl | cases h
/-- between the turns of _law_is_right's loop -/
def RJ (full : List PyData) (ls : Str) (news : List (Addr × Obj)) (m0 : Str → Option Value) (i : Nat) (m₁ : Str → Option Value) (n₁ : List (Addr × Obj)) : Prop :=
  n₁ = news ∧ (∃ va vl vp vn, m₁ = fun y => if y = Str.ofString "near" then vn else if y = Str.ofString "part" then vp else if y = Str.ofString "letter" then vl else if y = Str.ofString "at" then va else m0 y) ∧ ∀ j, j < i → okAt full ls j = true
section
variable {w : World} {A : Around} {E : Value → Shared → Prop} {s : Shared} {h₀ : Heap} {L : Addr} {news : List (Addr × Obj)}
theorem in_lit {x y : Str} {t u : Tok} {b : Bool} {Q : Value → Shared → Prop} (hb : (!(Builtin.Str.occurrences x y 0 x.length 1).isEmpty) = b) (h : Q (.bool b) s) : wpAny (model prog w) A (compareOp .In (.str y u) (.str x t)) Q E s := PyProof.Rows.in_str (hb ▸ h)
theorem eq_lit {x y : Str} {t u : Tok} {b : Bool} {Q : Value → Shared → Prop} (hb : (x == y) = b) (h : Q (.bool b) s) : wpAny (model prog w) A (compareOp .Eq (.str x t) (.str y u)) Q E s := PyProof.Rows.eq_str (hb ▸ h)
theorem ne_strS {x y : Str} {t u : Tok} {Q : Value → Shared → Prop} (h : Q (.bool (!(isStr y (.str x)))) s) : wpAny (model prog w) A (compareOp .NotEq (.str x t) (.str y u)) Q E s := by
  refine PyProof.Rows.ne_str ?_
  have e : (x != y) = !(isStr y (.str x)) := by rw [bne, BEq.comm]; rfl
  rw [e]; exact h
theorem ne_refS {a : Addr} {d : PyData} {y : Str} {u : Tok} {Q : Value → Shared → Prop} (N : News h₀ L s.heap news) (hd : Dm news (.ref a) d) (hs : smallD d = true) (hy : SeqAt.shaped (.str y) = true) (hu : A.units + 64 < cLine) (h : Q (.bool true) s) : wpAny (model prog w) A (compareOp .NotEq (.ref a) (.str y u)) Q E s := by
  obtain ⟨as, ra⟩ := hd.reads N
  simp only [smallD, Bool.and_eq_true, decide_eq_true_eq] at hs
  refine ne_dataH ra (.str y u) ?_ hy hu ?_
  · unfold SeqAt.shaped
    rw [hs.1.1.1.1, Bool.true_and]; refine decide_eq_true ?_; have := hs.1.1.1.2; omega
  · have e : PyData.eqv d (.str y) = false := by
      cases hd with
      | tup => rfl
      | lst => rfl
      | «at» c => cases c
    rw [e]; exact h
theorem ne_dmS {v : Value} {d : PyData} {y : Str} {u : Tok} {Q : Value → Shared → Prop} (N : News h₀ L s.heap news) (hd : Dm news v d) (hs : smallD d = true) (hy : SeqAt.shaped (.str y) = true) (hu : A.units + 64 < cLine) (h : Q (.bool (!(isStr y d))) s) : wpAny (model prog w) A (compareOp .NotEq v (.str y u)) Q E s := by
  cases hd with
  | «at» c =>
    cases c with
    | int => exact EqMixed.ne_int_str h
    | bool => exact EqMixed.ne_bool_str h
    | str => exact ne_strS h
    | none => exact EqNone.ne_none_str h
  | tup m c => exact ne_refS N (.tup m c) hs hy hu h
  | lst m c => exact ne_refS N (.lst m c) hs hy hu h
theorem row_at {value slice : Expr} {r : Addr} {v : Value} {vs : List Value} {n j : Nat} {u : Tok} {k : Int} {Q : Value → Shared → Prop} (N : News h₀ L s.heap news) (hm : (r, tupO vs n) ∈ news) (hk : k = ((j : Nat) : Int)) (hv : vs[j]? = some v) (hj : j < 1000) (h : Q v s)
    (hs : subscripted slice false (.ref r) (.int k u) = operate [.ref r, .int k u] (getItem (.ref r) (.int k u)) := by with_unfolding_all rfl) : wpAny (model prog w) A (subscriptTail value slice (.ref r) (.int k u)) Q E s := by
  subst hk
  exact row_i j N hm hv hj h hs
end
theorem map0 (m0 : Str → Option Value) : m0 = fun y => if y = Str.ofString "near" then m0 (Str.ofString "near") else if y = Str.ofString "part" then m0 (Str.ofString "part") else if y = Str.ofString "letter" then m0 (Str.ofString "letter") else if y = Str.ofString "at" then m0 (Str.ofString "at") else m0 y := by
  funext y
  by_cases h1 : y = Str.ofString "near"
  · subst h1; rw [if_pos rfl]
  by_cases h2 : y = Str.ofString "part"
  · subst h2; rw [if_neg h1, if_pos rfl]
  by_cases h3 : y = Str.ofString "letter"
  · subst h3; rw [if_neg h1, if_neg h2, if_pos rfl]
  by_cases h4 : y = Str.ofString "at"
  · subst h4; rw [if_neg h1, if_neg h2, if_neg h3, if_pos rfl]
  rw [if_neg h1, if_neg h2, if_neg h3, if_neg h4]
theorem signs_at {x a : Str} {i : Nat} (h : (signs x)[i]? = some a) : ∃ c, x.cps[i]? = some c ∧ a = ⟨#[c]⟩ := by
  unfold signs at h
  rw [List.getElem?_map] at h
  cases hc : x.cps.toList[i]? with
  | none => rw [hc] at h; cases h
  | some c =>
    rw [hc] at h
    exact ⟨c, by simpa using hc, (Option.some.inj h).symm⟩
theorem signs_len (x : Str) : (signs x).length = x.cps.size := by unfold signs; simp
theorem ok_next {full : List PyData} {ls : Str} {i c : Nat} (hP : ∀ j, j < i → okAt full ls j = true) (hc : ls.cps[i]? = some c) (h : letterD full c i = true) : ∀ j, j < i + 1 → okAt full ls j = true := fun j hj => by
  by_cases e : j = i
  · rw [e, okAt_of hc]; exact h
  · exact hP j (by omega)
section
variable {full : List PyData} {i : Nat} {d e : PyData} (h : full[i + 1]? = some d)
include h
theorem l_r : letterD full 114 i = regD d := by unfold letterD; rw [if_pos (by decide), h]; rfl
theorem l_g : letterD full 103 i = regD d := by unfold letterD; rw [if_pos (by decide), h]; rfl
theorem l_h : letterD full 104 i = regD d := by unfold letterD; rw [if_pos (by decide), h]; rfl
theorem l_v : letterD full 118 i = isStr (Str.ofString "T.1") d := by unfold letterD; rw [if_neg (by decide), if_pos rfl, h]; rfl
theorem l_t : letterD full 116 i = regsD d := by unfold letterD; rw [if_neg (by decide), if_neg (by decide), if_pos rfl, h]; rfl
theorem l_m (h2 : full[i]? = some e) : letterD full 109 i = sameLen d e := by unfold letterD; rw [if_neg (by decide), if_neg (by decide), if_neg (by decide), if_pos rfl, h, h2]; rfl
theorem l_n (h2 : full[i + 2]? = some e) : letterD full 110 i = sameLen d e := by unfold letterD; rw [if_neg (by decide), if_neg (by decide), if_neg (by decide), if_neg (by decide), if_pos rfl, h, h2]; rfl
end
theorem l_a {full : List PyData} {i : Nat} : letterD full 97 i = true := by unfold letterD; rw [if_neg (by decide), if_neg (by decide), if_neg (by decide), if_neg (by decide), if_neg (by decide)]
theorem mapP {m0 : Str → Option Value} {vn vp vl va vp' vl' va' : Option Value} : (fun y => if y = Str.ofString "part" then vp' else if y = Str.ofString "letter" then vl' else if y = Str.ofString "at" then va' else if y = Str.ofString "near" then vn else if y = Str.ofString "part" then vp else if y = Str.ofString "letter" then vl else if y = Str.ofString "at" then va else m0 y) =
    fun y => if y = Str.ofString "near" then vn else if y = Str.ofString "part" then vp' else if y = Str.ofString "letter" then vl' else if y = Str.ofString "at" then va' else m0 y := by
  funext y
  by_cases h1 : y = Str.ofString "near"
  · subst h1; rfl
  by_cases h2 : y = Str.ofString "part"
  · subst h2; rfl
  by_cases h3 : y = Str.ofString "letter"
  · subst h3; rfl
  by_cases h4 : y = Str.ofString "at"
  · subst h4; rfl
  simp [h1, h2, h3, h4]
theorem mapN {m0 : Str → Option Value} {vn' vn vp vl va vp' vl' va' : Option Value} : (fun y => if y = Str.ofString "near" then vn' else if y = Str.ofString "part" then vp' else if y = Str.ofString "letter" then vl' else if y = Str.ofString "at" then va' else if y = Str.ofString "near" then vn else if y = Str.ofString "part" then vp else if y = Str.ofString "letter" then vl else if y = Str.ofString "at" then va else m0 y) =
    fun y => if y = Str.ofString "near" then vn' else if y = Str.ofString "part" then vp' else if y = Str.ofString "letter" then vl' else if y = Str.ofString "at" then va' else m0 y := by
  funext y
  by_cases h1 : y = Str.ofString "near"
  · subst h1; rfl
  by_cases h2 : y = Str.ofString "part"
  · subst h2; rfl
  by_cases h3 : y = Str.ofString "letter"
  · subst h3; rfl
  by_cases h4 : y = Str.ofString "at"
  · subst h4; rfl
  simp [h1, h2, h3, h4]
def regV : Value → Bool | .int n _ => decide (0 ≤ n) && decide (n < 4) | _ => false
theorem regV_of : ∀ {v d}, Carried v d → regV v = regD d
  | _, _, .int _ _ => rfl
  | _, _, .bool _ => rfl
  | _, _, .str _ _ => rfl
  | _, _, .none => rfl
theorem carried_mem {v : Value} : ∀ {vs ds}, CarriedAll vs ds → v ∈ vs → ∃ d, d ∈ ds ∧ Carried v d
  | _, _, .nil, h => nomatch h
  | _, _, .cons a b, h => by
    rcases List.mem_cons.mp h with rfl | h
    · exact ⟨_, .head _, a⟩
    · obtain ⟨d, hd, hc⟩ := carried_mem b h
      exact ⟨d, .tail _ hd, hc⟩
theorem filt_dm {n : List (Addr × Obj)} : ∀ {vs ds}, CarriedAll vs ds → DmAll n (vs.filter fun v => !regV v) (ds.filter fun d => !regD d)
  | _, _, .nil => .nil
  | _, _, .cons (v := v) (d := d) a b => by
    simp only [List.filter_cons, regV_of a]
    split
    · exact .cons (.at a) (filt_dm b)
    · exact filt_dm b
theorem filt_regs (l : List PyData) : (l.filter fun d => !regD d).isEmpty = regsD (.tuple l) := by
  induction l with
  | nil => rfl
  | cons d r ih =>
    simp only [List.filter_cons, regsD, List.all_cons] at ih ⊢
    cases hd : regD d with
    | true => simp; simpa using ih
    | false => simp
def lettersOK (ls : Str) : Bool := ls.cps.all fun c => c == 114 || c == 103 || c == 104 || c == 118 || c == 116 || c == 109 || c == 110 || c == 97
theorem letters_at {ls : Str} {i c : Nat} (h : lettersOK ls = true) (hc : ls.cps[i]? = some c) : c = 114 ∨ c = 103 ∨ c = 104 ∨ c = 118 ∨ c = 116 ∨ c = 109 ∨ c = 110 ∨ c = 97 := by
  obtain ⟨hi, rfl⟩ := Array.getElem?_eq_some_iff.mp hc
  have := Array.all_eq_true.mp h i hi
  simpa [or_assoc] using this
section
variable {w : World} {p : Program} {loose : List Str} {mean : ExcName → Option Value} {mg mb : Str → Option Value}
theorem right_ctr {news : List (Addr × Obj)} {r : Addr} {op ls : Str} {t tl : Tok} {ps : List Value} {ds : List PyData} {n : Nat} (hr : (r, tupO (.str op t :: ps) n) ∈ news) (hp : DmAll news ps ds) (hls : ls.cps.size ≤ ps.length) (hz : ps.length < 100) (hpl : ∀ d ∈ ds, plainD d = true) (hsm : ∀ d ∈ ds, smallD d = true)
    (hnear : ∀ i, ls.cps[i]? = some 110 → i + 1 < ps.length) (hlet : lettersOK ls = true) (htup : ∀ i l, ls.cps[i]? = some 116 → (PyData.str op :: ds)[i + 1]? = some (.tuple l) → ∀ d ∈ l, notBool d = true ∧ smallD d = true) :
    Ctr w p loose mean mg mb 12 186 news [.ref r, .str ls tl] (fun v tl => v = .bool (rightD (.str op :: ds) ls) ∧ tl = []) := by
  (intro dp un gd cn cs a ccd cl outer A₀ base h₀ L m s Q E B F X N T hk hd hu hret
   refine wpAny_call ?_
   k_dflt (refine' code_def (binds := [(Str.ofString "row", .ref r), (Str.ofString "letters", .str ls tl)]) ?k1 ?k2 ?k3 ?k4 ?k5 ?kA ?kF ?kK ?k6 ?k7 ?k8 ?k9 ?kB ?_ ?c2 ?c3 ?c4 ?c5; (case kA => exact rfl); (case kF => exact rfl); (case kK => assumption); (case k1 => k_asm); (case k2 => k_asm); (case k3 => k_asm); (case k4 => k_asm); (case k5 => k_asm); (case k6 => k_is); (case k7 => k_is); (case k8 => ktr_room); (case k9 => exact BindsTo.of_eq rfl); (case c5 => decide); (case kB => exact locs rfl); (case c2 => exact rfl); (case c3 => exact rfl); (case c4 => exact rfl); k_whole)
   intro g' L' h' FG' F' N' B' X' T'
   (try dsimp only)
   (try k_fold))
  have hfull : DmAll news (.str op t :: ps) (.str op :: ds) := .cons (.at (.str _ _)) hp
  (repeat' (first | (k_unfold; (try dsimp only)) | (k_end; wrow_close) | ((fail_if_success (fail_if_success (with_reducible show wpAny _ _ (call _ _ _) _ _ _))); first | (with_reducible (k_here; (fail_if_success (fail_if_success (with_reducible show wpAny _ _ (call (Value.ref _) [_]) _ _ _))); k_dflt (refine Ctr.same (by k_asm) (by k_asm) (by k_asm) (by k_asm) (by k_asm) (by exact rfl) (by ktr_room) (by ktr_units) (number_ctr (by (refine Dm.mono ?_ (by assumption); intro _ _; k_mem)) (by assumption)) ?_); (intro _ _ _ _ _); (try dsimp only); (try k_fold))) | ((fail_if_success (fail_if_success (with_reducible show wpAny _ _ (call (Value.builtin "len") _ _) _ _ _))); with_reducible (k_here; k_dflt (refine len_tup (by k_asm) (by k_dflt k_mem) (by assumption) (by first | assumption | omega) ?_); intro _ _; (try dsimp only))) | ((fail_if_success (fail_if_success (with_reducible show wpAny _ _ (call (Value.type "enumerate") _ _) _ _ _))); with_reducible (k_here; k_dflt (refine call_enum_str (by exact rfl) (by k_asm) (by k_asm) ?_); intro _ _ _ _ _; (try dsimp only))) | ((fail_if_success (fail_if_success (with_reducible show wpAny _ _ (call (Value.builtin "isinstance") _ _) _ _ _))); with_reducible (k_here; k_dflt (refine isinst_int (by k_asm) (by (refine Dm.mono ?_ (by assumption); intro _ _; k_mem)) ?_); intro _)) | ((fail_if_success (fail_if_success (with_reducible show wpAny _ _ (call (Value.builtin "isinstance") _ _) _ _ _))); with_reducible (k_here; k_dflt (refine isinst_tuple (by k_asm) (by (refine Dm.mono ?_ (by assumption); intro _ _; k_mem)) ?_); intro _))) | ((fail_if_success (fail_if_success (with_reducible show wpAny _ _ (subscriptTail _ _ _ _) _ _ _))); first | (with_reducible (k_here; (fail_if_success (fail_if_success (with_reducible show wpAny _ _ (subscriptTail _ _ (Value.ref _) (Value.int _ _)) _ _ _))); (with_unfolding_all refine row_at (by k_asm) (by k_mem) (by assumption) (by assumption) (by omega) ?_ (by with_unfolding_all rfl))))) | ((fail_if_success (fail_if_success (with_reducible show wpAny _ _ (compareOp _ _ _) _ _ _))); first | ((fail_if_success (fail_if_success (with_reducible show wpAny _ _ (compareOp .Eq (Value.str _ _) (Value.str _ _)) _ _ _))); with_reducible (k_here; k_dflt (first | (refine eq_lit (b := true) (by decide +kernel) ?_) | (refine eq_lit (b := false) (by decide +kernel) ?_)))) | ((fail_if_success (fail_if_success (with_reducible show wpAny _ _ (compareOp .NotEq (Value.ref _) (Value.ref _)) _ _ _))); with_reducible (k_here; k_dflt (refine ne_nil_b (by k_asm) (by k_dflt k_mem) (by k_dflt k_mem) (by (refine DmAll.mono ?_ (by assumption); intro _ _; k_mem)) (by assumption) (by ktr_units) (by assumption) ?_))) | ((fail_if_success (fail_if_success (with_reducible show wpAny _ _ (compareOp .In (Value.str _ _) (Value.str _ _)) _ _ _))); with_reducible (k_here; k_dflt (first | (refine in_lit (b := true) (by decide +kernel) ?_) | (refine in_lit (b := false) (by decide +kernel) ?_)))) | ((fail_if_success (fail_if_success (with_reducible show wpAny _ _ (compareOp .NotEq _ _) _ _ _))); with_reducible (k_here; k_dflt (refine ne_dmS (by k_asm) (by (refine Dm.mono ?_ (by assumption); intro _ _; k_mem)) (by assumption) (by decide +kernel) (by ktr_units) ?_)))) | ((fail_if_success (fail_if_success (with_reducible show wpAny _ _ (eval _ _) _ _ _))); first | ((fail_if_success (fail_if_success (with_reducible show wpAny _ _ (eval (.ListComp _ _ _ _) _) _ _ _))); with_reducible (k_here; k_dflt (refine tupBlock (by k_asm) (by with_unfolding_all rfl) (by decide) (by rfl) (by decide) (by rfl) ?_)))) | walk1 | (dsimp only; walk1) | (leave1; walk_say "STEP leave1"; try dsimp only) | fail "no step"))
  rename_i S9
  refine S9 _ rfl _ _ _ _ (RJ (.str op :: ds) ls news (fun y => List.lookup y [(Str.ofString "row", Value.ref r), (Str.ofString "letters", Value.str ls tl)].reverse)) ⟨rfl, ⟨_, _, _, _, map0 _⟩, fun j hj => absurd hj (Nat.not_lt_zero j)⟩ ?_ ?_
  · intro i a u v m₁ n₁ s₁ own hs₁ ha hk hJ hmap hown F₁ N₁
    obtain ⟨hh, tkk, rfl⟩ := hs₁
    obtain ⟨rfl, ⟨va, vl, vp, vn, rfl⟩, hP⟩ := hJ
    obtain ⟨c, hc, rfl⟩ := signs_at ha
    obtain ⟨u', rfl⟩ := hk
    have hic := (Array.getElem?_eq_some_iff.mp hc).1
    have hi1 : i + 1 < (Value.str op t :: ps).length := by simp only [List.length_cons]; omega
    obtain ⟨pv, hpv⟩ : ∃ pv, (Value.str op t :: ps)[i + 1]? = some pv := ⟨_, List.getElem?_eq_getElem hi1⟩
    obtain ⟨pd, hpd, hdm⟩ := hfull.get hpv
    have hpm : pd ∈ ds := List.mem_of_getElem? (i := i) (by simpa using hpd)
    have hk1 : (i : Int) + 1 = ((i + 1 : Nat) : Int) := rfl
    have hpb : notBool pd = true := plain_nb (hpl pd hpm)
    have hps := hsm pd hpm
    have hpp := hpl pd hpm
    have hdm' := hdm
    have hk0 : (i : Int) + 0 = ((i : Nat) : Int) := rfl
    have hk2 : (i : Int) + 2 = ((i + 2 : Nat) : Int) := rfl
    have hi9 : i + 2 < 1000 := by omega
    dsimp only at F₁ N₁
    rcases letters_at hlet hc with rfl | rfl | rfl | rfl | rfl | rfl | rfl | rfl
    · (repeat' (first | (k_unfold; (try dsimp only)) | (k_end; wrow_close) | ((fail_if_success (fail_if_success (with_reducible show wpAny _ _ (call _ _ _) _ _ _))); first | (with_reducible (k_here; (fail_if_success (fail_if_success (with_reducible show wpAny _ _ (call (Value.ref _) [_]) _ _ _))); k_dflt (refine Ctr.same (by k_asm) (by k_asm) (by k_asm) (by k_asm) (by k_asm) (by exact rfl) (by ktr_room) (by ktr_units) (number_ctr (by (refine Dm.mono ?_ (by assumption); intro _ _; k_mem)) (by assumption)) ?_); (intro _ _ _ _ _); (try dsimp only); (try k_fold))) | ((fail_if_success (fail_if_success (with_reducible show wpAny _ _ (call (Value.builtin "len") _ _) _ _ _))); with_reducible (k_here; k_dflt (refine len_tup (by k_asm) (by k_dflt k_mem) (by assumption) (by first | assumption | omega) ?_); intro _ _; (try dsimp only))) | ((fail_if_success (fail_if_success (with_reducible show wpAny _ _ (call (Value.type "enumerate") _ _) _ _ _))); with_reducible (k_here; k_dflt (refine call_enum_str (by exact rfl) (by k_asm) (by k_asm) ?_); intro _ _ _ _ _; (try dsimp only))) | ((fail_if_success (fail_if_success (with_reducible show wpAny _ _ (call (Value.builtin "isinstance") _ _) _ _ _))); with_reducible (k_here; k_dflt (refine isinst_int (by k_asm) (by (refine Dm.mono ?_ (by assumption); intro _ _; k_mem)) ?_); intro _)) | ((fail_if_success (fail_if_success (with_reducible show wpAny _ _ (call (Value.builtin "isinstance") _ _) _ _ _))); with_reducible (k_here; k_dflt (refine isinst_tuple (by k_asm) (by (refine Dm.mono ?_ (by assumption); intro _ _; k_mem)) ?_); intro _))) | ((fail_if_success (fail_if_success (with_reducible show wpAny _ _ (subscriptTail _ _ _ _) _ _ _))); first | (with_reducible (k_here; (fail_if_success (fail_if_success (with_reducible show wpAny _ _ (subscriptTail _ _ (Value.ref _) (Value.int _ _)) _ _ _))); (with_unfolding_all refine row_at (by k_asm) (by k_mem) (by assumption) (by assumption) (by omega) ?_ (by with_unfolding_all rfl))))) | ((fail_if_success (fail_if_success (with_reducible show wpAny _ _ (compareOp _ _ _) _ _ _))); first | ((fail_if_success (fail_if_success (with_reducible show wpAny _ _ (compareOp .Eq (Value.str _ _) (Value.str _ _)) _ _ _))); with_reducible (k_here; k_dflt (first | (refine eq_lit (b := true) (by decide +kernel) ?_) | (refine eq_lit (b := false) (by decide +kernel) ?_)))) | ((fail_if_success (fail_if_success (with_reducible show wpAny _ _ (compareOp .NotEq (Value.ref _) (Value.ref _)) _ _ _))); with_reducible (k_here; k_dflt (refine ne_nil_b (by k_asm) (by k_dflt k_mem) (by k_dflt k_mem) (by (refine DmAll.mono ?_ (by assumption); intro _ _; k_mem)) (by assumption) (by ktr_units) (by assumption) ?_))) | ((fail_if_success (fail_if_success (with_reducible show wpAny _ _ (compareOp .In (Value.str _ _) (Value.str _ _)) _ _ _))); with_reducible (k_here; k_dflt (first | (refine in_lit (b := true) (by decide +kernel) ?_) | (refine in_lit (b := false) (by decide +kernel) ?_)))) | ((fail_if_success (fail_if_success (with_reducible show wpAny _ _ (compareOp .NotEq _ _) _ _ _))); with_reducible (k_here; k_dflt (refine ne_dmS (by k_asm) (by (refine Dm.mono ?_ (by assumption); intro _ _; k_mem)) (by assumption) (by decide +kernel) (by ktr_units) ?_)))) | ((fail_if_success (fail_if_success (with_reducible show wpAny _ _ (eval _ _) _ _ _))); first | ((fail_if_success (fail_if_success (with_reducible show wpAny _ _ (eval (.ListComp _ _ _ _) _) _ _ _))); with_reducible (k_here; k_dflt (refine tupBlock (by k_asm) (by with_unfolding_all rfl) (by decide) (by rfl) (by decide) (by rfl) ?_)))) | walk1 | (dsimp only; walk1) | (leave1; walk_say "STEP leave1"; try dsimp only) | fail "no step"))
      · exact ⟨rfl, ⟨_, _, _, _, mapP⟩, ok_next hP hc ((l_r hpd).trans (by assumption))⟩
      · (rename_i kF9 kN9 _ _; exact hret _ [] _ _ kF9 (News.sub kN9 (by intro q9 hq9; k_mem)) (fun _ _ _ h => nomatch h) ⟨congrArg Value.bool (right_no hc ((l_r hpd).trans (by assumption))).symm, rfl⟩)
    · (repeat' (first | (k_unfold; (try dsimp only)) | (k_end; wrow_close) | ((fail_if_success (fail_if_success (with_reducible show wpAny _ _ (call _ _ _) _ _ _))); first | (with_reducible (k_here; (fail_if_success (fail_if_success (with_reducible show wpAny _ _ (call (Value.ref _) [_]) _ _ _))); k_dflt (refine Ctr.same (by k_asm) (by k_asm) (by k_asm) (by k_asm) (by k_asm) (by exact rfl) (by ktr_room) (by ktr_units) (number_ctr (by (refine Dm.mono ?_ (by assumption); intro _ _; k_mem)) (by assumption)) ?_); (intro _ _ _ _ _); (try dsimp only); (try k_fold))) | ((fail_if_success (fail_if_success (with_reducible show wpAny _ _ (call (Value.builtin "len") _ _) _ _ _))); with_reducible (k_here; k_dflt (refine len_tup (by k_asm) (by k_dflt k_mem) (by assumption) (by first | assumption | omega) ?_); intro _ _; (try dsimp only))) | ((fail_if_success (fail_if_success (with_reducible show wpAny _ _ (call (Value.type "enumerate") _ _) _ _ _))); with_reducible (k_here; k_dflt (refine call_enum_str (by exact rfl) (by k_asm) (by k_asm) ?_); intro _ _ _ _ _; (try dsimp only))) | ((fail_if_success (fail_if_success (with_reducible show wpAny _ _ (call (Value.builtin "isinstance") _ _) _ _ _))); with_reducible (k_here; k_dflt (refine isinst_int (by k_asm) (by (refine Dm.mono ?_ (by assumption); intro _ _; k_mem)) ?_); intro _)) | ((fail_if_success (fail_if_success (with_reducible show wpAny _ _ (call (Value.builtin "isinstance") _ _) _ _ _))); with_reducible (k_here; k_dflt (refine isinst_tuple (by k_asm) (by (refine Dm.mono ?_ (by assumption); intro _ _; k_mem)) ?_); intro _))) | ((fail_if_success (fail_if_success (with_reducible show wpAny _ _ (subscriptTail _ _ _ _) _ _ _))); first | (with_reducible (k_here; (fail_if_success (fail_if_success (with_reducible show wpAny _ _ (subscriptTail _ _ (Value.ref _) (Value.int _ _)) _ _ _))); (with_unfolding_all refine row_at (by k_asm) (by k_mem) (by assumption) (by assumption) (by omega) ?_ (by with_unfolding_all rfl))))) | ((fail_if_success (fail_if_success (with_reducible show wpAny _ _ (compareOp _ _ _) _ _ _))); first | ((fail_if_success (fail_if_success (with_reducible show wpAny _ _ (compareOp .Eq (Value.str _ _) (Value.str _ _)) _ _ _))); with_reducible (k_here; k_dflt (first | (refine eq_lit (b := true) (by decide +kernel) ?_) | (refine eq_lit (b := false) (by decide +kernel) ?_)))) | ((fail_if_success (fail_if_success (with_reducible show wpAny _ _ (compareOp .NotEq (Value.ref _) (Value.ref _)) _ _ _))); with_reducible (k_here; k_dflt (refine ne_nil_b (by k_asm) (by k_dflt k_mem) (by k_dflt k_mem) (by (refine DmAll.mono ?_ (by assumption); intro _ _; k_mem)) (by assumption) (by ktr_units) (by assumption) ?_))) | ((fail_if_success (fail_if_success (with_reducible show wpAny _ _ (compareOp .In (Value.str _ _) (Value.str _ _)) _ _ _))); with_reducible (k_here; k_dflt (first | (refine in_lit (b := true) (by decide +kernel) ?_) | (refine in_lit (b := false) (by decide +kernel) ?_)))) | ((fail_if_success (fail_if_success (with_reducible show wpAny _ _ (compareOp .NotEq _ _) _ _ _))); with_reducible (k_here; k_dflt (refine ne_dmS (by k_asm) (by (refine Dm.mono ?_ (by assumption); intro _ _; k_mem)) (by assumption) (by decide +kernel) (by ktr_units) ?_)))) | ((fail_if_success (fail_if_success (with_reducible show wpAny _ _ (eval _ _) _ _ _))); first | ((fail_if_success (fail_if_success (with_reducible show wpAny _ _ (eval (.ListComp _ _ _ _) _) _ _ _))); with_reducible (k_here; k_dflt (refine tupBlock (by k_asm) (by with_unfolding_all rfl) (by decide) (by rfl) (by decide) (by rfl) ?_)))) | walk1 | (dsimp only; walk1) | (leave1; walk_say "STEP leave1"; try dsimp only) | fail "no step"))
      · exact ⟨rfl, ⟨_, _, _, _, mapP⟩, ok_next hP hc ((l_g hpd).trans (by assumption))⟩
      · (rename_i kF9 kN9 _ _; exact hret _ [] _ _ kF9 (News.sub kN9 (by intro q9 hq9; k_mem)) (fun _ _ _ h => nomatch h) ⟨congrArg Value.bool (right_no hc ((l_g hpd).trans (by assumption))).symm, rfl⟩)
    · (repeat' (first | (k_unfold; (try dsimp only)) | (k_end; wrow_close) | ((fail_if_success (fail_if_success (with_reducible show wpAny _ _ (call _ _ _) _ _ _))); first | (with_reducible (k_here; (fail_if_success (fail_if_success (with_reducible show wpAny _ _ (call (Value.ref _) [_]) _ _ _))); k_dflt (refine Ctr.same (by k_asm) (by k_asm) (by k_asm) (by k_asm) (by k_asm) (by exact rfl) (by ktr_room) (by ktr_units) (number_ctr (by (refine Dm.mono ?_ (by assumption); intro _ _; k_mem)) (by assumption)) ?_); (intro _ _ _ _ _); (try dsimp only); (try k_fold))) | ((fail_if_success (fail_if_success (with_reducible show wpAny _ _ (call (Value.builtin "len") _ _) _ _ _))); with_reducible (k_here; k_dflt (refine len_tup (by k_asm) (by k_dflt k_mem) (by assumption) (by first | assumption | omega) ?_); intro _ _; (try dsimp only))) | ((fail_if_success (fail_if_success (with_reducible show wpAny _ _ (call (Value.type "enumerate") _ _) _ _ _))); with_reducible (k_here; k_dflt (refine call_enum_str (by exact rfl) (by k_asm) (by k_asm) ?_); intro _ _ _ _ _; (try dsimp only))) | ((fail_if_success (fail_if_success (with_reducible show wpAny _ _ (call (Value.builtin "isinstance") _ _) _ _ _))); with_reducible (k_here; k_dflt (refine isinst_int (by k_asm) (by (refine Dm.mono ?_ (by assumption); intro _ _; k_mem)) ?_); intro _)) | ((fail_if_success (fail_if_success (with_reducible show wpAny _ _ (call (Value.builtin "isinstance") _ _) _ _ _))); with_reducible (k_here; k_dflt (refine isinst_tuple (by k_asm) (by (refine Dm.mono ?_ (by assumption); intro _ _; k_mem)) ?_); intro _))) | ((fail_if_success (fail_if_success (with_reducible show wpAny _ _ (subscriptTail _ _ _ _) _ _ _))); first | (with_reducible (k_here; (fail_if_success (fail_if_success (with_reducible show wpAny _ _ (subscriptTail _ _ (Value.ref _) (Value.int _ _)) _ _ _))); (with_unfolding_all refine row_at (by k_asm) (by k_mem) (by assumption) (by assumption) (by omega) ?_ (by with_unfolding_all rfl))))) | ((fail_if_success (fail_if_success (with_reducible show wpAny _ _ (compareOp _ _ _) _ _ _))); first | ((fail_if_success (fail_if_success (with_reducible show wpAny _ _ (compareOp .Eq (Value.str _ _) (Value.str _ _)) _ _ _))); with_reducible (k_here; k_dflt (first | (refine eq_lit (b := true) (by decide +kernel) ?_) | (refine eq_lit (b := false) (by decide +kernel) ?_)))) | ((fail_if_success (fail_if_success (with_reducible show wpAny _ _ (compareOp .NotEq (Value.ref _) (Value.ref _)) _ _ _))); with_reducible (k_here; k_dflt (refine ne_nil_b (by k_asm) (by k_dflt k_mem) (by k_dflt k_mem) (by (refine DmAll.mono ?_ (by assumption); intro _ _; k_mem)) (by assumption) (by ktr_units) (by assumption) ?_))) | ((fail_if_success (fail_if_success (with_reducible show wpAny _ _ (compareOp .In (Value.str _ _) (Value.str _ _)) _ _ _))); with_reducible (k_here; k_dflt (first | (refine in_lit (b := true) (by decide +kernel) ?_) | (refine in_lit (b := false) (by decide +kernel) ?_)))) | ((fail_if_success (fail_if_success (with_reducible show wpAny _ _ (compareOp .NotEq _ _) _ _ _))); with_reducible (k_here; k_dflt (refine ne_dmS (by k_asm) (by (refine Dm.mono ?_ (by assumption); intro _ _; k_mem)) (by assumption) (by decide +kernel) (by ktr_units) ?_)))) | ((fail_if_success (fail_if_success (with_reducible show wpAny _ _ (eval _ _) _ _ _))); first | ((fail_if_success (fail_if_success (with_reducible show wpAny _ _ (eval (.ListComp _ _ _ _) _) _ _ _))); with_reducible (k_here; k_dflt (refine tupBlock (by k_asm) (by with_unfolding_all rfl) (by decide) (by rfl) (by decide) (by rfl) ?_)))) | walk1 | (dsimp only; walk1) | (leave1; walk_say "STEP leave1"; try dsimp only) | fail "no step"))
      · exact ⟨rfl, ⟨_, _, _, _, mapP⟩, ok_next hP hc ((l_h hpd).trans (by assumption))⟩
      · (rename_i kF9 kN9 _ _; exact hret _ [] _ _ kF9 (News.sub kN9 (by intro q9 hq9; k_mem)) (fun _ _ _ h => nomatch h) ⟨congrArg Value.bool (right_no hc ((l_h hpd).trans (by assumption))).symm, rfl⟩)
    · (repeat' (first | (k_unfold; (try dsimp only)) | (k_end; wrow_close) | ((fail_if_success (fail_if_success (with_reducible show wpAny _ _ (call _ _ _) _ _ _))); first | (with_reducible (k_here; (fail_if_success (fail_if_success (with_reducible show wpAny _ _ (call (Value.ref _) [_]) _ _ _))); k_dflt (refine Ctr.same (by k_asm) (by k_asm) (by k_asm) (by k_asm) (by k_asm) (by exact rfl) (by ktr_room) (by ktr_units) (number_ctr (by (refine Dm.mono ?_ (by assumption); intro _ _; k_mem)) (by assumption)) ?_); (intro _ _ _ _ _); (try dsimp only); (try k_fold))) | ((fail_if_success (fail_if_success (with_reducible show wpAny _ _ (call (Value.builtin "len") _ _) _ _ _))); with_reducible (k_here; k_dflt (refine len_tup (by k_asm) (by k_dflt k_mem) (by assumption) (by first | assumption | omega) ?_); intro _ _; (try dsimp only))) | ((fail_if_success (fail_if_success (with_reducible show wpAny _ _ (call (Value.type "enumerate") _ _) _ _ _))); with_reducible (k_here; k_dflt (refine call_enum_str (by exact rfl) (by k_asm) (by k_asm) ?_); intro _ _ _ _ _; (try dsimp only))) | ((fail_if_success (fail_if_success (with_reducible show wpAny _ _ (call (Value.builtin "isinstance") _ _) _ _ _))); with_reducible (k_here; k_dflt (refine isinst_int (by k_asm) (by (refine Dm.mono ?_ (by assumption); intro _ _; k_mem)) ?_); intro _)) | ((fail_if_success (fail_if_success (with_reducible show wpAny _ _ (call (Value.builtin "isinstance") _ _) _ _ _))); with_reducible (k_here; k_dflt (refine isinst_tuple (by k_asm) (by (refine Dm.mono ?_ (by assumption); intro _ _; k_mem)) ?_); intro _))) | ((fail_if_success (fail_if_success (with_reducible show wpAny _ _ (subscriptTail _ _ _ _) _ _ _))); first | (with_reducible (k_here; (fail_if_success (fail_if_success (with_reducible show wpAny _ _ (subscriptTail _ _ (Value.ref _) (Value.int _ _)) _ _ _))); (with_unfolding_all refine row_at (by k_asm) (by k_mem) (by assumption) (by assumption) (by omega) ?_ (by with_unfolding_all rfl))))) | ((fail_if_success (fail_if_success (with_reducible show wpAny _ _ (compareOp _ _ _) _ _ _))); first | ((fail_if_success (fail_if_success (with_reducible show wpAny _ _ (compareOp .Eq (Value.str _ _) (Value.str _ _)) _ _ _))); with_reducible (k_here; k_dflt (first | (refine eq_lit (b := true) (by decide +kernel) ?_) | (refine eq_lit (b := false) (by decide +kernel) ?_)))) | ((fail_if_success (fail_if_success (with_reducible show wpAny _ _ (compareOp .NotEq (Value.ref _) (Value.ref _)) _ _ _))); with_reducible (k_here; k_dflt (refine ne_nil_b (by k_asm) (by k_dflt k_mem) (by k_dflt k_mem) (by (refine DmAll.mono ?_ (by assumption); intro _ _; k_mem)) (by assumption) (by ktr_units) (by assumption) ?_))) | ((fail_if_success (fail_if_success (with_reducible show wpAny _ _ (compareOp .In (Value.str _ _) (Value.str _ _)) _ _ _))); with_reducible (k_here; k_dflt (first | (refine in_lit (b := true) (by decide +kernel) ?_) | (refine in_lit (b := false) (by decide +kernel) ?_)))) | ((fail_if_success (fail_if_success (with_reducible show wpAny _ _ (compareOp .NotEq _ _) _ _ _))); with_reducible (k_here; k_dflt (refine ne_dmS (by k_asm) (by (refine Dm.mono ?_ (by assumption); intro _ _; k_mem)) (by assumption) (by decide +kernel) (by ktr_units) ?_)))) | ((fail_if_success (fail_if_success (with_reducible show wpAny _ _ (eval _ _) _ _ _))); first | ((fail_if_success (fail_if_success (with_reducible show wpAny _ _ (eval (.ListComp _ _ _ _) _) _ _ _))); with_reducible (k_here; k_dflt (refine tupBlock (by k_asm) (by with_unfolding_all rfl) (by decide) (by rfl) (by decide) (by rfl) ?_)))) | walk1 | (dsimp only; walk1) | (leave1; walk_say "STEP leave1"; try dsimp only) | fail "no step"))
      · exact ⟨rfl, ⟨_, _, _, _, mapP⟩, ok_next hP hc ((l_v hpd).trans (by assumption))⟩
      · (rename_i kF9 kN9 _ _; exact hret _ [] _ _ kF9 (News.sub kN9 (by intro q9 hq9; k_mem)) (fun _ _ _ h => nomatch h) ⟨congrArg Value.bool (right_no hc ((l_v hpd).trans (by assumption))).symm, rfl⟩)
    · (repeat' (first | (k_unfold; (try dsimp only)) | (k_end; wrow_close) | ((fail_if_success (fail_if_success (with_reducible show wpAny _ _ (call _ _ _) _ _ _))); first | (with_reducible (k_here; (fail_if_success (fail_if_success (with_reducible show wpAny _ _ (call (Value.ref _) [_]) _ _ _))); k_dflt (refine Ctr.same (by k_asm) (by k_asm) (by k_asm) (by k_asm) (by k_asm) (by exact rfl) (by ktr_room) (by ktr_units) (number_ctr (by (refine Dm.mono ?_ (by assumption); intro _ _; k_mem)) (by assumption)) ?_); (intro _ _ _ _ _); (try dsimp only); (try k_fold))) | ((fail_if_success (fail_if_success (with_reducible show wpAny _ _ (call (Value.builtin "len") _ _) _ _ _))); with_reducible (k_here; k_dflt (refine len_tup (by k_asm) (by k_dflt k_mem) (by assumption) (by first | assumption | omega) ?_); intro _ _; (try dsimp only))) | ((fail_if_success (fail_if_success (with_reducible show wpAny _ _ (call (Value.type "enumerate") _ _) _ _ _))); with_reducible (k_here; k_dflt (refine call_enum_str (by exact rfl) (by k_asm) (by k_asm) ?_); intro _ _ _ _ _; (try dsimp only))) | ((fail_if_success (fail_if_success (with_reducible show wpAny _ _ (call (Value.builtin "isinstance") _ _) _ _ _))); with_reducible (k_here; k_dflt (refine isinst_int (by k_asm) (by (refine Dm.mono ?_ (by assumption); intro _ _; k_mem)) ?_); intro _)) | ((fail_if_success (fail_if_success (with_reducible show wpAny _ _ (call (Value.builtin "isinstance") _ _) _ _ _))); with_reducible (k_here; k_dflt (refine isinst_tuple (by k_asm) (by (refine Dm.mono ?_ (by assumption); intro _ _; k_mem)) ?_); intro _))) | ((fail_if_success (fail_if_success (with_reducible show wpAny _ _ (subscriptTail _ _ _ _) _ _ _))); first | (with_reducible (k_here; (fail_if_success (fail_if_success (with_reducible show wpAny _ _ (subscriptTail _ _ (Value.ref _) (Value.int _ _)) _ _ _))); (with_unfolding_all refine row_at (by k_asm) (by k_mem) (by assumption) (by assumption) (by omega) ?_ (by with_unfolding_all rfl))))) | ((fail_if_success (fail_if_success (with_reducible show wpAny _ _ (compareOp _ _ _) _ _ _))); first | ((fail_if_success (fail_if_success (with_reducible show wpAny _ _ (compareOp .Eq (Value.str _ _) (Value.str _ _)) _ _ _))); with_reducible (k_here; k_dflt (first | (refine eq_lit (b := true) (by decide +kernel) ?_) | (refine eq_lit (b := false) (by decide +kernel) ?_)))) | ((fail_if_success (fail_if_success (with_reducible show wpAny _ _ (compareOp .NotEq (Value.ref _) (Value.ref _)) _ _ _))); with_reducible (k_here; k_dflt (refine ne_nil_b (by k_asm) (by k_dflt k_mem) (by k_dflt k_mem) (by (refine DmAll.mono ?_ (by assumption); intro _ _; k_mem)) (by assumption) (by ktr_units) (by assumption) ?_))) | ((fail_if_success (fail_if_success (with_reducible show wpAny _ _ (compareOp .In (Value.str _ _) (Value.str _ _)) _ _ _))); with_reducible (k_here; k_dflt (first | (refine in_lit (b := true) (by decide +kernel) ?_) | (refine in_lit (b := false) (by decide +kernel) ?_)))) | ((fail_if_success (fail_if_success (with_reducible show wpAny _ _ (compareOp .NotEq _ _) _ _ _))); with_reducible (k_here; k_dflt (refine ne_dmS (by k_asm) (by (refine Dm.mono ?_ (by assumption); intro _ _; k_mem)) (by assumption) (by decide +kernel) (by ktr_units) ?_)))) | ((fail_if_success (fail_if_success (with_reducible show wpAny _ _ (eval _ _) _ _ _))); first | ((fail_if_success (fail_if_success (with_reducible show wpAny _ _ (eval (.ListComp _ _ _ _) _) _ _ _))); with_reducible (k_here; k_dflt (refine tupBlock (by k_asm) (by with_unfolding_all rfl) (by decide) (by rfl) (by decide) (by rfl) ?_)))) | walk1 | (dsimp only; walk1) | (leave1; walk_say "STEP leave1"; try dsimp only) | fail "no step"))
      · have hT : isT pd = true := by assumption
        cases hdm with
        | «at» cv => cases cv <;> cases hT
        | lst => cases hT
        | @tup ax vs nx es hmx hcx =>
          have htx := htup i es hc hpd
          have hl1 := carried_len hcx
          replace hpp := plain_tup hpp
          have hflt : DmAll n₁ _ _ := filt_dm hcx
          have hfs : ∀ d ∈ es.filter (fun d => !regD d), smallD d = true := fun d hd => (htx d (List.mem_filter.mp hd).1).2
          (rename Fr _ _ _ _ => F4)
          (rename News _ _ _ _ => N4)
          refine ⟨ax, vs, nx, _, rfl, rfl, F4, N4, by k_mem, by omega, fun g => ?_⟩
          refine compPick (fun v => !regV v) (by k_mem) ?_ ?_ ?_ _ 0 vs [] (by simp) rfl rfl
          · intro v I oI C oC D m₂ ys h tk E' hv hC hx F3 N3
            obtain ⟨e, he, hce⟩ := carried_mem hcx hv
            have hme : Dm n₁ v e := .at hce
            have hbe := (htx e he).1
            rw [regV_of hce]
            (repeat' (first | (k_unfold; (try dsimp only)) | (k_end; wrow_close) | ((fail_if_success (fail_if_success (with_reducible show wpAny _ _ (call _ _ _) _ _ _))); first | (with_reducible (k_here; (fail_if_success (fail_if_success (with_reducible show wpAny _ _ (call (Value.ref _) [_]) _ _ _))); k_dflt (refine Ctr.same (by k_asm) (by k_asm) (by k_asm) (by k_asm) (by k_asm) (by exact rfl) (by ktr_room) (by ktr_units) (number_ctr (by (refine Dm.mono ?_ (by assumption); intro _ _; k_mem)) (by assumption)) ?_); (intro _ _ _ _ _); (try dsimp only); (try k_fold))) | ((fail_if_success (fail_if_success (with_reducible show wpAny _ _ (call (Value.builtin "len") _ _) _ _ _))); with_reducible (k_here; k_dflt (refine len_tup (by k_asm) (by k_dflt k_mem) (by assumption) (by first | assumption | omega) ?_); intro _ _; (try dsimp only))) | ((fail_if_success (fail_if_success (with_reducible show wpAny _ _ (call (Value.type "enumerate") _ _) _ _ _))); with_reducible (k_here; k_dflt (refine call_enum_str (by exact rfl) (by k_asm) (by k_asm) ?_); intro _ _ _ _ _; (try dsimp only))) | ((fail_if_success (fail_if_success (with_reducible show wpAny _ _ (call (Value.builtin "isinstance") _ _) _ _ _))); with_reducible (k_here; k_dflt (refine isinst_int (by k_asm) (by (refine Dm.mono ?_ (by assumption); intro _ _; k_mem)) ?_); intro _)) | ((fail_if_success (fail_if_success (with_reducible show wpAny _ _ (call (Value.builtin "isinstance") _ _) _ _ _))); with_reducible (k_here; k_dflt (refine isinst_tuple (by k_asm) (by (refine Dm.mono ?_ (by assumption); intro _ _; k_mem)) ?_); intro _))) | ((fail_if_success (fail_if_success (with_reducible show wpAny _ _ (subscriptTail _ _ _ _) _ _ _))); first | (with_reducible (k_here; (fail_if_success (fail_if_success (with_reducible show wpAny _ _ (subscriptTail _ _ (Value.ref _) (Value.int _ _)) _ _ _))); (with_unfolding_all refine row_at (by k_asm) (by k_mem) (by assumption) (by assumption) (by omega) ?_ (by with_unfolding_all rfl))))) | ((fail_if_success (fail_if_success (with_reducible show wpAny _ _ (compareOp _ _ _) _ _ _))); first | ((fail_if_success (fail_if_success (with_reducible show wpAny _ _ (compareOp .Eq (Value.str _ _) (Value.str _ _)) _ _ _))); with_reducible (k_here; k_dflt (first | (refine eq_lit (b := true) (by decide +kernel) ?_) | (refine eq_lit (b := false) (by decide +kernel) ?_)))) | ((fail_if_success (fail_if_success (with_reducible show wpAny _ _ (compareOp .NotEq (Value.ref _) (Value.ref _)) _ _ _))); with_reducible (k_here; k_dflt (refine ne_nil_b (by k_asm) (by k_dflt k_mem) (by k_dflt k_mem) (by (refine DmAll.mono ?_ (by assumption); intro _ _; k_mem)) (by assumption) (by ktr_units) (by assumption) ?_))) | ((fail_if_success (fail_if_success (with_reducible show wpAny _ _ (compareOp .In (Value.str _ _) (Value.str _ _)) _ _ _))); with_reducible (k_here; k_dflt (first | (refine in_lit (b := true) (by decide +kernel) ?_) | (refine in_lit (b := false) (by decide +kernel) ?_)))) | ((fail_if_success (fail_if_success (with_reducible show wpAny _ _ (compareOp .NotEq _ _) _ _ _))); with_reducible (k_here; k_dflt (refine ne_dmS (by k_asm) (by (refine Dm.mono ?_ (by assumption); intro _ _; k_mem)) (by assumption) (by decide +kernel) (by ktr_units) ?_)))) | ((fail_if_success (fail_if_success (with_reducible show wpAny _ _ (eval _ _) _ _ _))); first | ((fail_if_success (fail_if_success (with_reducible show wpAny _ _ (eval (.ListComp _ _ _ _) _) _ _ _))); with_reducible (k_here; k_dflt (refine tupBlock (by k_asm) (by with_unfolding_all rfl) (by decide) (by rfl) (by decide) (by rfl) ?_)))) | walk1 | (dsimp only; walk1) | (leave1; walk_say "STEP leave1"; try dsimp only) | fail "no step"))
            all_goals assumption
          · intro v I oI C oC D m₂ ys h tk E' Q' hC hx F3 N3 hQ'
            exact LCgL.ld_own N3 (by k_mem) hC hx hQ'
          · intro D h tk F3 N3 off
            cases hq : regsD (.tuple es) with
            | true =>
              have hE : (!(es.filter fun d => !regD d).isEmpty) = false := by rw [filt_regs, hq]; rfl
              (repeat' (first | (k_unfold; (try dsimp only)) | (k_end; wrow_close) | ((fail_if_success (fail_if_success (with_reducible show wpAny _ _ (call _ _ _) _ _ _))); first | (with_reducible (k_here; (fail_if_success (fail_if_success (with_reducible show wpAny _ _ (call (Value.ref _) [_]) _ _ _))); k_dflt (refine Ctr.same (by k_asm) (by k_asm) (by k_asm) (by k_asm) (by k_asm) (by exact rfl) (by ktr_room) (by ktr_units) (number_ctr (by (refine Dm.mono ?_ (by assumption); intro _ _; k_mem)) (by assumption)) ?_); (intro _ _ _ _ _); (try dsimp only); (try k_fold))) | ((fail_if_success (fail_if_success (with_reducible show wpAny _ _ (call (Value.builtin "len") _ _) _ _ _))); with_reducible (k_here; k_dflt (refine len_tup (by k_asm) (by k_dflt k_mem) (by assumption) (by first | assumption | omega) ?_); intro _ _; (try dsimp only))) | ((fail_if_success (fail_if_success (with_reducible show wpAny _ _ (call (Value.type "enumerate") _ _) _ _ _))); with_reducible (k_here; k_dflt (refine call_enum_str (by exact rfl) (by k_asm) (by k_asm) ?_); intro _ _ _ _ _; (try dsimp only))) | ((fail_if_success (fail_if_success (with_reducible show wpAny _ _ (call (Value.builtin "isinstance") _ _) _ _ _))); with_reducible (k_here; k_dflt (refine isinst_int (by k_asm) (by (refine Dm.mono ?_ (by assumption); intro _ _; k_mem)) ?_); intro _)) | ((fail_if_success (fail_if_success (with_reducible show wpAny _ _ (call (Value.builtin "isinstance") _ _) _ _ _))); with_reducible (k_here; k_dflt (refine isinst_tuple (by k_asm) (by (refine Dm.mono ?_ (by assumption); intro _ _; k_mem)) ?_); intro _))) | ((fail_if_success (fail_if_success (with_reducible show wpAny _ _ (subscriptTail _ _ _ _) _ _ _))); first | (with_reducible (k_here; (fail_if_success (fail_if_success (with_reducible show wpAny _ _ (subscriptTail _ _ (Value.ref _) (Value.int _ _)) _ _ _))); (with_unfolding_all refine row_at (by k_asm) (by k_mem) (by assumption) (by assumption) (by omega) ?_ (by with_unfolding_all rfl))))) | ((fail_if_success (fail_if_success (with_reducible show wpAny _ _ (compareOp _ _ _) _ _ _))); first | ((fail_if_success (fail_if_success (with_reducible show wpAny _ _ (compareOp .Eq (Value.str _ _) (Value.str _ _)) _ _ _))); with_reducible (k_here; k_dflt (first | (refine eq_lit (b := true) (by decide +kernel) ?_) | (refine eq_lit (b := false) (by decide +kernel) ?_)))) | ((fail_if_success (fail_if_success (with_reducible show wpAny _ _ (compareOp .NotEq (Value.ref _) (Value.ref _)) _ _ _))); with_reducible (k_here; k_dflt (refine ne_nil_b (by k_asm) (by k_dflt k_mem) (by k_dflt k_mem) (by (refine DmAll.mono ?_ (by assumption); intro _ _; k_mem)) (by assumption) (by ktr_units) (by assumption) ?_))) | ((fail_if_success (fail_if_success (with_reducible show wpAny _ _ (compareOp .In (Value.str _ _) (Value.str _ _)) _ _ _))); with_reducible (k_here; k_dflt (first | (refine in_lit (b := true) (by decide +kernel) ?_) | (refine in_lit (b := false) (by decide +kernel) ?_)))) | ((fail_if_success (fail_if_success (with_reducible show wpAny _ _ (compareOp .NotEq _ _) _ _ _))); with_reducible (k_here; k_dflt (refine ne_dmS (by k_asm) (by (refine Dm.mono ?_ (by assumption); intro _ _; k_mem)) (by assumption) (by decide +kernel) (by ktr_units) ?_)))) | ((fail_if_success (fail_if_success (with_reducible show wpAny _ _ (eval _ _) _ _ _))); first | ((fail_if_success (fail_if_success (with_reducible show wpAny _ _ (eval (.ListComp _ _ _ _) _) _ _ _))); with_reducible (k_here; k_dflt (refine tupBlock (by k_asm) (by with_unfolding_all rfl) (by decide) (by rfl) (by decide) (by rfl) ?_)))) | walk1 | (dsimp only; walk1) | (leave1; walk_say "STEP leave1"; try dsimp only) | fail "no step"))
              (rename Fr _ _ _ _ => F5)
              (rename News _ _ _ _ => N5)
              exact ⟨rfl, _, _, _, n₁, rfl, F5, News.sub N5 (by intro q9 hq9; k_mem), rfl, rfl, ⟨_, _, _, _, mapP⟩, ok_next hP hc ((l_t hpd).trans hq)⟩
            | false =>
              have hE : (!(es.filter fun d => !regD d).isEmpty) = true := by rw [filt_regs, hq]; rfl
              (repeat' (first | (k_unfold; (try dsimp only)) | (k_end; wrow_close) | ((fail_if_success (fail_if_success (with_reducible show wpAny _ _ (call _ _ _) _ _ _))); first | (with_reducible (k_here; (fail_if_success (fail_if_success (with_reducible show wpAny _ _ (call (Value.ref _) [_]) _ _ _))); k_dflt (refine Ctr.same (by k_asm) (by k_asm) (by k_asm) (by k_asm) (by k_asm) (by exact rfl) (by ktr_room) (by ktr_units) (number_ctr (by (refine Dm.mono ?_ (by assumption); intro _ _; k_mem)) (by assumption)) ?_); (intro _ _ _ _ _); (try dsimp only); (try k_fold))) | ((fail_if_success (fail_if_success (with_reducible show wpAny _ _ (call (Value.builtin "len") _ _) _ _ _))); with_reducible (k_here; k_dflt (refine len_tup (by k_asm) (by k_dflt k_mem) (by assumption) (by first | assumption | omega) ?_); intro _ _; (try dsimp only))) | ((fail_if_success (fail_if_success (with_reducible show wpAny _ _ (call (Value.type "enumerate") _ _) _ _ _))); with_reducible (k_here; k_dflt (refine call_enum_str (by exact rfl) (by k_asm) (by k_asm) ?_); intro _ _ _ _ _; (try dsimp only))) | ((fail_if_success (fail_if_success (with_reducible show wpAny _ _ (call (Value.builtin "isinstance") _ _) _ _ _))); with_reducible (k_here; k_dflt (refine isinst_int (by k_asm) (by (refine Dm.mono ?_ (by assumption); intro _ _; k_mem)) ?_); intro _)) | ((fail_if_success (fail_if_success (with_reducible show wpAny _ _ (call (Value.builtin "isinstance") _ _) _ _ _))); with_reducible (k_here; k_dflt (refine isinst_tuple (by k_asm) (by (refine Dm.mono ?_ (by assumption); intro _ _; k_mem)) ?_); intro _))) | ((fail_if_success (fail_if_success (with_reducible show wpAny _ _ (subscriptTail _ _ _ _) _ _ _))); first | (with_reducible (k_here; (fail_if_success (fail_if_success (with_reducible show wpAny _ _ (subscriptTail _ _ (Value.ref _) (Value.int _ _)) _ _ _))); (with_unfolding_all refine row_at (by k_asm) (by k_mem) (by assumption) (by assumption) (by omega) ?_ (by with_unfolding_all rfl))))) | ((fail_if_success (fail_if_success (with_reducible show wpAny _ _ (compareOp _ _ _) _ _ _))); first | ((fail_if_success (fail_if_success (with_reducible show wpAny _ _ (compareOp .Eq (Value.str _ _) (Value.str _ _)) _ _ _))); with_reducible (k_here; k_dflt (first | (refine eq_lit (b := true) (by decide +kernel) ?_) | (refine eq_lit (b := false) (by decide +kernel) ?_)))) | ((fail_if_success (fail_if_success (with_reducible show wpAny _ _ (compareOp .NotEq (Value.ref _) (Value.ref _)) _ _ _))); with_reducible (k_here; k_dflt (refine ne_nil_b (by k_asm) (by k_dflt k_mem) (by k_dflt k_mem) (by (refine DmAll.mono ?_ (by assumption); intro _ _; k_mem)) (by assumption) (by ktr_units) (by assumption) ?_))) | ((fail_if_success (fail_if_success (with_reducible show wpAny _ _ (compareOp .In (Value.str _ _) (Value.str _ _)) _ _ _))); with_reducible (k_here; k_dflt (first | (refine in_lit (b := true) (by decide +kernel) ?_) | (refine in_lit (b := false) (by decide +kernel) ?_)))) | ((fail_if_success (fail_if_success (with_reducible show wpAny _ _ (compareOp .NotEq _ _) _ _ _))); with_reducible (k_here; k_dflt (refine ne_dmS (by k_asm) (by (refine Dm.mono ?_ (by assumption); intro _ _; k_mem)) (by assumption) (by decide +kernel) (by ktr_units) ?_)))) | ((fail_if_success (fail_if_success (with_reducible show wpAny _ _ (eval _ _) _ _ _))); first | ((fail_if_success (fail_if_success (with_reducible show wpAny _ _ (eval (.ListComp _ _ _ _) _) _ _ _))); with_reducible (k_here; k_dflt (refine tupBlock (by k_asm) (by with_unfolding_all rfl) (by decide) (by rfl) (by decide) (by rfl) ?_)))) | walk1 | (dsimp only; walk1) | (leave1; walk_say "STEP leave1"; try dsimp only) | fail "no step"))
              (rename_i kF9 kN9 _ _; exact hret _ [] _ _ kF9 (News.sub kN9 (by intro q9 hq9; k_mem)) (fun _ _ _ h => nomatch h) ⟨congrArg Value.bool (right_no hc ((l_t hpd).trans hq)).symm, rfl⟩)
      · (rename_i kF9 kN9 _ _; exact hret _ [] _ _ kF9 (News.sub kN9 (by intro q9 hq9; k_mem)) (fun _ _ _ h => nomatch h) ⟨congrArg Value.bool (right_no hc ((l_t hpd).trans (regs_no (by assumption)))).symm, rfl⟩)
    · obtain ⟨nv, hnv⟩ : ∃ nv, (Value.str op t :: ps)[i]? = some nv := ⟨_, List.getElem?_eq_getElem (by omega)⟩
      obtain ⟨nd, hnd, hdn⟩ := hfull.get hnv
      (repeat' (first | (k_unfold; (try dsimp only)) | (k_end; wrow_close) | ((fail_if_success (fail_if_success (with_reducible show wpAny _ _ (call _ _ _) _ _ _))); first | (with_reducible (k_here; (fail_if_success (fail_if_success (with_reducible show wpAny _ _ (call (Value.ref _) [_]) _ _ _))); k_dflt (refine Ctr.same (by k_asm) (by k_asm) (by k_asm) (by k_asm) (by k_asm) (by exact rfl) (by ktr_room) (by ktr_units) (number_ctr (by (refine Dm.mono ?_ (by assumption); intro _ _; k_mem)) (by assumption)) ?_); (intro _ _ _ _ _); (try dsimp only); (try k_fold))) | ((fail_if_success (fail_if_success (with_reducible show wpAny _ _ (call (Value.builtin "len") _ _) _ _ _))); with_reducible (k_here; k_dflt (refine len_tup (by k_asm) (by k_dflt k_mem) (by assumption) (by first | assumption | omega) ?_); intro _ _; (try dsimp only))) | ((fail_if_success (fail_if_success (with_reducible show wpAny _ _ (call (Value.type "enumerate") _ _) _ _ _))); with_reducible (k_here; k_dflt (refine call_enum_str (by exact rfl) (by k_asm) (by k_asm) ?_); intro _ _ _ _ _; (try dsimp only))) | ((fail_if_success (fail_if_success (with_reducible show wpAny _ _ (call (Value.builtin "isinstance") _ _) _ _ _))); with_reducible (k_here; k_dflt (refine isinst_int (by k_asm) (by (refine Dm.mono ?_ (by assumption); intro _ _; k_mem)) ?_); intro _)) | ((fail_if_success (fail_if_success (with_reducible show wpAny _ _ (call (Value.builtin "isinstance") _ _) _ _ _))); with_reducible (k_here; k_dflt (refine isinst_tuple (by k_asm) (by (refine Dm.mono ?_ (by assumption); intro _ _; k_mem)) ?_); intro _))) | ((fail_if_success (fail_if_success (with_reducible show wpAny _ _ (subscriptTail _ _ _ _) _ _ _))); first | (with_reducible (k_here; (fail_if_success (fail_if_success (with_reducible show wpAny _ _ (subscriptTail _ _ (Value.ref _) (Value.int _ _)) _ _ _))); (with_unfolding_all refine row_at (by k_asm) (by k_mem) (by assumption) (by assumption) (by omega) ?_ (by with_unfolding_all rfl))))) | ((fail_if_success (fail_if_success (with_reducible show wpAny _ _ (compareOp _ _ _) _ _ _))); first | ((fail_if_success (fail_if_success (with_reducible show wpAny _ _ (compareOp .Eq (Value.str _ _) (Value.str _ _)) _ _ _))); with_reducible (k_here; k_dflt (first | (refine eq_lit (b := true) (by decide +kernel) ?_) | (refine eq_lit (b := false) (by decide +kernel) ?_)))) | ((fail_if_success (fail_if_success (with_reducible show wpAny _ _ (compareOp .NotEq (Value.ref _) (Value.ref _)) _ _ _))); with_reducible (k_here; k_dflt (refine ne_nil_b (by k_asm) (by k_dflt k_mem) (by k_dflt k_mem) (by (refine DmAll.mono ?_ (by assumption); intro _ _; k_mem)) (by assumption) (by ktr_units) (by assumption) ?_))) | ((fail_if_success (fail_if_success (with_reducible show wpAny _ _ (compareOp .In (Value.str _ _) (Value.str _ _)) _ _ _))); with_reducible (k_here; k_dflt (first | (refine in_lit (b := true) (by decide +kernel) ?_) | (refine in_lit (b := false) (by decide +kernel) ?_)))) | ((fail_if_success (fail_if_success (with_reducible show wpAny _ _ (compareOp .NotEq _ _) _ _ _))); with_reducible (k_here; k_dflt (refine ne_dmS (by k_asm) (by (refine Dm.mono ?_ (by assumption); intro _ _; k_mem)) (by assumption) (by decide +kernel) (by ktr_units) ?_)))) | ((fail_if_success (fail_if_success (with_reducible show wpAny _ _ (eval _ _) _ _ _))); first | ((fail_if_success (fail_if_success (with_reducible show wpAny _ _ (eval (.ListComp _ _ _ _) _) _ _ _))); with_reducible (k_here; k_dflt (refine tupBlock (by k_asm) (by with_unfolding_all rfl) (by decide) (by rfl) (by decide) (by rfl) ?_)))) | walk1 | (dsimp only; walk1) | (leave1; walk_say "STEP leave1"; try dsimp only) | fail "no step"))
      · have hT1 : isT pd = true := by assumption
        have hT2 : isT nd = true := by assumption
        cases hdm with
        | «at» cv => cases cv <;> cases hT1
        | lst => cases hT1
        | @tup ax vs nx es hmx hcx =>
          cases hdn with
          | «at» cv => cases cv <;> cases hT2
          | lst => cases hT2
          | @tup ax2 vs2 nx2 es2 hmx2 hcx2 =>
            have hl1 := carried_len hcx
            have hl2 := carried_len hcx2
            replace hpp := plain_tup hpp
            have hb2 : es2.length < 100 := tup_mem_len hpl hnd
            (repeat' (first | (k_unfold; (try dsimp only)) | (k_end; wrow_close) | ((fail_if_success (fail_if_success (with_reducible show wpAny _ _ (call _ _ _) _ _ _))); first | (with_reducible (k_here; (fail_if_success (fail_if_success (with_reducible show wpAny _ _ (call (Value.ref _) [_]) _ _ _))); k_dflt (refine Ctr.same (by k_asm) (by k_asm) (by k_asm) (by k_asm) (by k_asm) (by exact rfl) (by ktr_room) (by ktr_units) (number_ctr (by (refine Dm.mono ?_ (by assumption); intro _ _; k_mem)) (by assumption)) ?_); (intro _ _ _ _ _); (try dsimp only); (try k_fold))) | ((fail_if_success (fail_if_success (with_reducible show wpAny _ _ (call (Value.builtin "len") _ _) _ _ _))); with_reducible (k_here; k_dflt (refine len_tup (by k_asm) (by k_dflt k_mem) (by assumption) (by first | assumption | omega) ?_); intro _ _; (try dsimp only))) | ((fail_if_success (fail_if_success (with_reducible show wpAny _ _ (call (Value.type "enumerate") _ _) _ _ _))); with_reducible (k_here; k_dflt (refine call_enum_str (by exact rfl) (by k_asm) (by k_asm) ?_); intro _ _ _ _ _; (try dsimp only))) | ((fail_if_success (fail_if_success (with_reducible show wpAny _ _ (call (Value.builtin "isinstance") _ _) _ _ _))); with_reducible (k_here; k_dflt (refine isinst_int (by k_asm) (by (refine Dm.mono ?_ (by assumption); intro _ _; k_mem)) ?_); intro _)) | ((fail_if_success (fail_if_success (with_reducible show wpAny _ _ (call (Value.builtin "isinstance") _ _) _ _ _))); with_reducible (k_here; k_dflt (refine isinst_tuple (by k_asm) (by (refine Dm.mono ?_ (by assumption); intro _ _; k_mem)) ?_); intro _))) | ((fail_if_success (fail_if_success (with_reducible show wpAny _ _ (subscriptTail _ _ _ _) _ _ _))); first | (with_reducible (k_here; (fail_if_success (fail_if_success (with_reducible show wpAny _ _ (subscriptTail _ _ (Value.ref _) (Value.int _ _)) _ _ _))); (with_unfolding_all refine row_at (by k_asm) (by k_mem) (by assumption) (by assumption) (by omega) ?_ (by with_unfolding_all rfl))))) | ((fail_if_success (fail_if_success (with_reducible show wpAny _ _ (compareOp _ _ _) _ _ _))); first | ((fail_if_success (fail_if_success (with_reducible show wpAny _ _ (compareOp .Eq (Value.str _ _) (Value.str _ _)) _ _ _))); with_reducible (k_here; k_dflt (first | (refine eq_lit (b := true) (by decide +kernel) ?_) | (refine eq_lit (b := false) (by decide +kernel) ?_)))) | ((fail_if_success (fail_if_success (with_reducible show wpAny _ _ (compareOp .NotEq (Value.ref _) (Value.ref _)) _ _ _))); with_reducible (k_here; k_dflt (refine ne_nil_b (by k_asm) (by k_dflt k_mem) (by k_dflt k_mem) (by (refine DmAll.mono ?_ (by assumption); intro _ _; k_mem)) (by assumption) (by ktr_units) (by assumption) ?_))) | ((fail_if_success (fail_if_success (with_reducible show wpAny _ _ (compareOp .In (Value.str _ _) (Value.str _ _)) _ _ _))); with_reducible (k_here; k_dflt (first | (refine in_lit (b := true) (by decide +kernel) ?_) | (refine in_lit (b := false) (by decide +kernel) ?_)))) | ((fail_if_success (fail_if_success (with_reducible show wpAny _ _ (compareOp .NotEq _ _) _ _ _))); with_reducible (k_here; k_dflt (refine ne_dmS (by k_asm) (by (refine Dm.mono ?_ (by assumption); intro _ _; k_mem)) (by assumption) (by decide +kernel) (by ktr_units) ?_)))) | ((fail_if_success (fail_if_success (with_reducible show wpAny _ _ (eval _ _) _ _ _))); first | ((fail_if_success (fail_if_success (with_reducible show wpAny _ _ (eval (.ListComp _ _ _ _) _) _ _ _))); with_reducible (k_here; k_dflt (refine tupBlock (by k_asm) (by with_unfolding_all rfl) (by decide) (by rfl) (by decide) (by rfl) ?_)))) | walk1 | (dsimp only; walk1) | (leave1; walk_say "STEP leave1"; try dsimp only) | fail "no step"))
            · (rename_i kF9 kN9 _ _; exact hret _ [] _ _ kF9 (News.sub kN9 (by intro q9 hq9; k_mem)) (fun _ _ _ h => nomatch h) ⟨congrArg Value.bool (right_no hc ((l_m hpd hnd).trans (beq_eq_false_iff_ne.mpr (by omega)))).symm, rfl⟩)
            · exact ⟨rfl, ⟨_, _, _, _, mapN⟩, ok_next hP hc ((l_m hpd hnd).trans (beq_iff_eq.mpr (by omega)))⟩
      · (rename_i kF9 kN9 _ _; exact hret _ [] _ _ kF9 (News.sub kN9 (by intro q9 hq9; k_mem)) (fun _ _ _ h => nomatch h) ⟨congrArg Value.bool (right_no hc ((l_m hpd hnd).trans (by first | exact same_no1 (by assumption) | exact same_no2 (by assumption)))).symm, rfl⟩)
      · (rename_i kF9 kN9 _ _; exact hret _ [] _ _ kF9 (News.sub kN9 (by intro q9 hq9; k_mem)) (fun _ _ _ h => nomatch h) ⟨congrArg Value.bool (right_no hc ((l_m hpd hnd).trans (by first | exact same_no1 (by assumption) | exact same_no2 (by assumption)))).symm, rfl⟩)
    · have hnn := hnear i hc
      obtain ⟨nv, hnv⟩ : ∃ nv, (Value.str op t :: ps)[i + 2]? = some nv := ⟨_, List.getElem?_eq_getElem (by simp only [List.length_cons]; omega)⟩
      obtain ⟨nd, hnd, hdn⟩ := hfull.get hnv
      (repeat' (first | (k_unfold; (try dsimp only)) | (k_end; wrow_close) | ((fail_if_success (fail_if_success (with_reducible show wpAny _ _ (call _ _ _) _ _ _))); first | (with_reducible (k_here; (fail_if_success (fail_if_success (with_reducible show wpAny _ _ (call (Value.ref _) [_]) _ _ _))); k_dflt (refine Ctr.same (by k_asm) (by k_asm) (by k_asm) (by k_asm) (by k_asm) (by exact rfl) (by ktr_room) (by ktr_units) (number_ctr (by (refine Dm.mono ?_ (by assumption); intro _ _; k_mem)) (by assumption)) ?_); (intro _ _ _ _ _); (try dsimp only); (try k_fold))) | ((fail_if_success (fail_if_success (with_reducible show wpAny _ _ (call (Value.builtin "len") _ _) _ _ _))); with_reducible (k_here; k_dflt (refine len_tup (by k_asm) (by k_dflt k_mem) (by assumption) (by first | assumption | omega) ?_); intro _ _; (try dsimp only))) | ((fail_if_success (fail_if_success (with_reducible show wpAny _ _ (call (Value.type "enumerate") _ _) _ _ _))); with_reducible (k_here; k_dflt (refine call_enum_str (by exact rfl) (by k_asm) (by k_asm) ?_); intro _ _ _ _ _; (try dsimp only))) | ((fail_if_success (fail_if_success (with_reducible show wpAny _ _ (call (Value.builtin "isinstance") _ _) _ _ _))); with_reducible (k_here; k_dflt (refine isinst_int (by k_asm) (by (refine Dm.mono ?_ (by assumption); intro _ _; k_mem)) ?_); intro _)) | ((fail_if_success (fail_if_success (with_reducible show wpAny _ _ (call (Value.builtin "isinstance") _ _) _ _ _))); with_reducible (k_here; k_dflt (refine isinst_tuple (by k_asm) (by (refine Dm.mono ?_ (by assumption); intro _ _; k_mem)) ?_); intro _))) | ((fail_if_success (fail_if_success (with_reducible show wpAny _ _ (subscriptTail _ _ _ _) _ _ _))); first | (with_reducible (k_here; (fail_if_success (fail_if_success (with_reducible show wpAny _ _ (subscriptTail _ _ (Value.ref _) (Value.int _ _)) _ _ _))); (with_unfolding_all refine row_at (by k_asm) (by k_mem) (by assumption) (by assumption) (by omega) ?_ (by with_unfolding_all rfl))))) | ((fail_if_success (fail_if_success (with_reducible show wpAny _ _ (compareOp _ _ _) _ _ _))); first | ((fail_if_success (fail_if_success (with_reducible show wpAny _ _ (compareOp .Eq (Value.str _ _) (Value.str _ _)) _ _ _))); with_reducible (k_here; k_dflt (first | (refine eq_lit (b := true) (by decide +kernel) ?_) | (refine eq_lit (b := false) (by decide +kernel) ?_)))) | ((fail_if_success (fail_if_success (with_reducible show wpAny _ _ (compareOp .NotEq (Value.ref _) (Value.ref _)) _ _ _))); with_reducible (k_here; k_dflt (refine ne_nil_b (by k_asm) (by k_dflt k_mem) (by k_dflt k_mem) (by (refine DmAll.mono ?_ (by assumption); intro _ _; k_mem)) (by assumption) (by ktr_units) (by assumption) ?_))) | ((fail_if_success (fail_if_success (with_reducible show wpAny _ _ (compareOp .In (Value.str _ _) (Value.str _ _)) _ _ _))); with_reducible (k_here; k_dflt (first | (refine in_lit (b := true) (by decide +kernel) ?_) | (refine in_lit (b := false) (by decide +kernel) ?_)))) | ((fail_if_success (fail_if_success (with_reducible show wpAny _ _ (compareOp .NotEq _ _) _ _ _))); with_reducible (k_here; k_dflt (refine ne_dmS (by k_asm) (by (refine Dm.mono ?_ (by assumption); intro _ _; k_mem)) (by assumption) (by decide +kernel) (by ktr_units) ?_)))) | ((fail_if_success (fail_if_success (with_reducible show wpAny _ _ (eval _ _) _ _ _))); first | ((fail_if_success (fail_if_success (with_reducible show wpAny _ _ (eval (.ListComp _ _ _ _) _) _ _ _))); with_reducible (k_here; k_dflt (refine tupBlock (by k_asm) (by with_unfolding_all rfl) (by decide) (by rfl) (by decide) (by rfl) ?_)))) | walk1 | (dsimp only; walk1) | (leave1; walk_say "STEP leave1"; try dsimp only) | fail "no step"))
      · have hT1 : isT pd = true := by assumption
        have hT2 : isT nd = true := by assumption
        cases hdm with
        | «at» cv => cases cv <;> cases hT1
        | lst => cases hT1
        | @tup ax vs nx es hmx hcx =>
          cases hdn with
          | «at» cv => cases cv <;> cases hT2
          | lst => cases hT2
          | @tup ax2 vs2 nx2 es2 hmx2 hcx2 =>
            have hl1 := carried_len hcx
            have hl2 := carried_len hcx2
            replace hpp := plain_tup hpp
            have hb2 : es2.length < 100 := tup_mem_len hpl hnd
            (repeat' (first | (k_unfold; (try dsimp only)) | (k_end; wrow_close) | ((fail_if_success (fail_if_success (with_reducible show wpAny _ _ (call _ _ _) _ _ _))); first | (with_reducible (k_here; (fail_if_success (fail_if_success (with_reducible show wpAny _ _ (call (Value.ref _) [_]) _ _ _))); k_dflt (refine Ctr.same (by k_asm) (by k_asm) (by k_asm) (by k_asm) (by k_asm) (by exact rfl) (by ktr_room) (by ktr_units) (number_ctr (by (refine Dm.mono ?_ (by assumption); intro _ _; k_mem)) (by assumption)) ?_); (intro _ _ _ _ _); (try dsimp only); (try k_fold))) | ((fail_if_success (fail_if_success (with_reducible show wpAny _ _ (call (Value.builtin "len") _ _) _ _ _))); with_reducible (k_here; k_dflt (refine len_tup (by k_asm) (by k_dflt k_mem) (by assumption) (by first | assumption | omega) ?_); intro _ _; (try dsimp only))) | ((fail_if_success (fail_if_success (with_reducible show wpAny _ _ (call (Value.type "enumerate") _ _) _ _ _))); with_reducible (k_here; k_dflt (refine call_enum_str (by exact rfl) (by k_asm) (by k_asm) ?_); intro _ _ _ _ _; (try dsimp only))) | ((fail_if_success (fail_if_success (with_reducible show wpAny _ _ (call (Value.builtin "isinstance") _ _) _ _ _))); with_reducible (k_here; k_dflt (refine isinst_int (by k_asm) (by (refine Dm.mono ?_ (by assumption); intro _ _; k_mem)) ?_); intro _)) | ((fail_if_success (fail_if_success (with_reducible show wpAny _ _ (call (Value.builtin "isinstance") _ _) _ _ _))); with_reducible (k_here; k_dflt (refine isinst_tuple (by k_asm) (by (refine Dm.mono ?_ (by assumption); intro _ _; k_mem)) ?_); intro _))) | ((fail_if_success (fail_if_success (with_reducible show wpAny _ _ (subscriptTail _ _ _ _) _ _ _))); first | (with_reducible (k_here; (fail_if_success (fail_if_success (with_reducible show wpAny _ _ (subscriptTail _ _ (Value.ref _) (Value.int _ _)) _ _ _))); (with_unfolding_all refine row_at (by k_asm) (by k_mem) (by assumption) (by assumption) (by omega) ?_ (by with_unfolding_all rfl))))) | ((fail_if_success (fail_if_success (with_reducible show wpAny _ _ (compareOp _ _ _) _ _ _))); first | ((fail_if_success (fail_if_success (with_reducible show wpAny _ _ (compareOp .Eq (Value.str _ _) (Value.str _ _)) _ _ _))); with_reducible (k_here; k_dflt (first | (refine eq_lit (b := true) (by decide +kernel) ?_) | (refine eq_lit (b := false) (by decide +kernel) ?_)))) | ((fail_if_success (fail_if_success (with_reducible show wpAny _ _ (compareOp .NotEq (Value.ref _) (Value.ref _)) _ _ _))); with_reducible (k_here; k_dflt (refine ne_nil_b (by k_asm) (by k_dflt k_mem) (by k_dflt k_mem) (by (refine DmAll.mono ?_ (by assumption); intro _ _; k_mem)) (by assumption) (by ktr_units) (by assumption) ?_))) | ((fail_if_success (fail_if_success (with_reducible show wpAny _ _ (compareOp .In (Value.str _ _) (Value.str _ _)) _ _ _))); with_reducible (k_here; k_dflt (first | (refine in_lit (b := true) (by decide +kernel) ?_) | (refine in_lit (b := false) (by decide +kernel) ?_)))) | ((fail_if_success (fail_if_success (with_reducible show wpAny _ _ (compareOp .NotEq _ _) _ _ _))); with_reducible (k_here; k_dflt (refine ne_dmS (by k_asm) (by (refine Dm.mono ?_ (by assumption); intro _ _; k_mem)) (by assumption) (by decide +kernel) (by ktr_units) ?_)))) | ((fail_if_success (fail_if_success (with_reducible show wpAny _ _ (eval _ _) _ _ _))); first | ((fail_if_success (fail_if_success (with_reducible show wpAny _ _ (eval (.ListComp _ _ _ _) _) _ _ _))); with_reducible (k_here; k_dflt (refine tupBlock (by k_asm) (by with_unfolding_all rfl) (by decide) (by rfl) (by decide) (by rfl) ?_)))) | walk1 | (dsimp only; walk1) | (leave1; walk_say "STEP leave1"; try dsimp only) | fail "no step"))
            · (rename_i kF9 kN9 _ _; exact hret _ [] _ _ kF9 (News.sub kN9 (by intro q9 hq9; k_mem)) (fun _ _ _ h => nomatch h) ⟨congrArg Value.bool (right_no hc ((l_n hpd hnd).trans (beq_eq_false_iff_ne.mpr (by omega)))).symm, rfl⟩)
            · exact ⟨rfl, ⟨_, _, _, _, mapN⟩, ok_next hP hc ((l_n hpd hnd).trans (beq_iff_eq.mpr (by omega)))⟩
      · (rename_i kF9 kN9 _ _; exact hret _ [] _ _ kF9 (News.sub kN9 (by intro q9 hq9; k_mem)) (fun _ _ _ h => nomatch h) ⟨congrArg Value.bool (right_no hc ((l_n hpd hnd).trans (by first | exact same_no1 (by assumption) | exact same_no2 (by assumption)))).symm, rfl⟩)
      · (rename_i kF9 kN9 _ _; exact hret _ [] _ _ kF9 (News.sub kN9 (by intro q9 hq9; k_mem)) (fun _ _ _ h => nomatch h) ⟨congrArg Value.bool (right_no hc ((l_n hpd hnd).trans (by first | exact same_no1 (by assumption) | exact same_no2 (by assumption)))).symm, rfl⟩)
    · (repeat' (first | (k_unfold; (try dsimp only)) | (k_end; wrow_close) | ((fail_if_success (fail_if_success (with_reducible show wpAny _ _ (call _ _ _) _ _ _))); first | (with_reducible (k_here; (fail_if_success (fail_if_success (with_reducible show wpAny _ _ (call (Value.ref _) [_]) _ _ _))); k_dflt (refine Ctr.same (by k_asm) (by k_asm) (by k_asm) (by k_asm) (by k_asm) (by exact rfl) (by ktr_room) (by ktr_units) (number_ctr (by (refine Dm.mono ?_ (by assumption); intro _ _; k_mem)) (by assumption)) ?_); (intro _ _ _ _ _); (try dsimp only); (try k_fold))) | ((fail_if_success (fail_if_success (with_reducible show wpAny _ _ (call (Value.builtin "len") _ _) _ _ _))); with_reducible (k_here; k_dflt (refine len_tup (by k_asm) (by k_dflt k_mem) (by assumption) (by first | assumption | omega) ?_); intro _ _; (try dsimp only))) | ((fail_if_success (fail_if_success (with_reducible show wpAny _ _ (call (Value.type "enumerate") _ _) _ _ _))); with_reducible (k_here; k_dflt (refine call_enum_str (by exact rfl) (by k_asm) (by k_asm) ?_); intro _ _ _ _ _; (try dsimp only))) | ((fail_if_success (fail_if_success (with_reducible show wpAny _ _ (call (Value.builtin "isinstance") _ _) _ _ _))); with_reducible (k_here; k_dflt (refine isinst_int (by k_asm) (by (refine Dm.mono ?_ (by assumption); intro _ _; k_mem)) ?_); intro _)) | ((fail_if_success (fail_if_success (with_reducible show wpAny _ _ (call (Value.builtin "isinstance") _ _) _ _ _))); with_reducible (k_here; k_dflt (refine isinst_tuple (by k_asm) (by (refine Dm.mono ?_ (by assumption); intro _ _; k_mem)) ?_); intro _))) | ((fail_if_success (fail_if_success (with_reducible show wpAny _ _ (subscriptTail _ _ _ _) _ _ _))); first | (with_reducible (k_here; (fail_if_success (fail_if_success (with_reducible show wpAny _ _ (subscriptTail _ _ (Value.ref _) (Value.int _ _)) _ _ _))); (with_unfolding_all refine row_at (by k_asm) (by k_mem) (by assumption) (by assumption) (by omega) ?_ (by with_unfolding_all rfl))))) | ((fail_if_success (fail_if_success (with_reducible show wpAny _ _ (compareOp _ _ _) _ _ _))); first | ((fail_if_success (fail_if_success (with_reducible show wpAny _ _ (compareOp .Eq (Value.str _ _) (Value.str _ _)) _ _ _))); with_reducible (k_here; k_dflt (first | (refine eq_lit (b := true) (by decide +kernel) ?_) | (refine eq_lit (b := false) (by decide +kernel) ?_)))) | ((fail_if_success (fail_if_success (with_reducible show wpAny _ _ (compareOp .NotEq (Value.ref _) (Value.ref _)) _ _ _))); with_reducible (k_here; k_dflt (refine ne_nil_b (by k_asm) (by k_dflt k_mem) (by k_dflt k_mem) (by (refine DmAll.mono ?_ (by assumption); intro _ _; k_mem)) (by assumption) (by ktr_units) (by assumption) ?_))) | ((fail_if_success (fail_if_success (with_reducible show wpAny _ _ (compareOp .In (Value.str _ _) (Value.str _ _)) _ _ _))); with_reducible (k_here; k_dflt (first | (refine in_lit (b := true) (by decide +kernel) ?_) | (refine in_lit (b := false) (by decide +kernel) ?_)))) | ((fail_if_success (fail_if_success (with_reducible show wpAny _ _ (compareOp .NotEq _ _) _ _ _))); with_reducible (k_here; k_dflt (refine ne_dmS (by k_asm) (by (refine Dm.mono ?_ (by assumption); intro _ _; k_mem)) (by assumption) (by decide +kernel) (by ktr_units) ?_)))) | ((fail_if_success (fail_if_success (with_reducible show wpAny _ _ (eval _ _) _ _ _))); first | ((fail_if_success (fail_if_success (with_reducible show wpAny _ _ (eval (.ListComp _ _ _ _) _) _ _ _))); with_reducible (k_here; k_dflt (refine tupBlock (by k_asm) (by with_unfolding_all rfl) (by decide) (by rfl) (by decide) (by rfl) ?_)))) | walk1 | (dsimp only; walk1) | (leave1; walk_say "STEP leave1"; try dsimp only) | fail "no step"))
      exact ⟨rfl, ⟨_, _, _, _, mapP⟩, ok_next hP hc l_a⟩
  · intro h7 tk7 m7 n7 F7 N7 hmap hJ
    obtain ⟨rfl, ⟨va, vl, vp, vn, rfl⟩, hP⟩ := hJ
    rw [signs_len] at hP
    (repeat' (first | (k_unfold; (try dsimp only)) | (k_end; wrow_close) | ((fail_if_success (fail_if_success (with_reducible show wpAny _ _ (call _ _ _) _ _ _))); first | (with_reducible (k_here; (fail_if_success (fail_if_success (with_reducible show wpAny _ _ (call (Value.ref _) [_]) _ _ _))); k_dflt (refine Ctr.same (by k_asm) (by k_asm) (by k_asm) (by k_asm) (by k_asm) (by exact rfl) (by ktr_room) (by ktr_units) (number_ctr (by (refine Dm.mono ?_ (by assumption); intro _ _; k_mem)) (by assumption)) ?_); (intro _ _ _ _ _); (try dsimp only); (try k_fold))) | ((fail_if_success (fail_if_success (with_reducible show wpAny _ _ (call (Value.builtin "len") _ _) _ _ _))); with_reducible (k_here; k_dflt (refine len_tup (by k_asm) (by k_dflt k_mem) (by assumption) (by first | assumption | omega) ?_); intro _ _; (try dsimp only))) | ((fail_if_success (fail_if_success (with_reducible show wpAny _ _ (call (Value.type "enumerate") _ _) _ _ _))); with_reducible (k_here; k_dflt (refine call_enum_str (by exact rfl) (by k_asm) (by k_asm) ?_); intro _ _ _ _ _; (try dsimp only))) | ((fail_if_success (fail_if_success (with_reducible show wpAny _ _ (call (Value.builtin "isinstance") _ _) _ _ _))); with_reducible (k_here; k_dflt (refine isinst_int (by k_asm) (by (refine Dm.mono ?_ (by assumption); intro _ _; k_mem)) ?_); intro _)) | ((fail_if_success (fail_if_success (with_reducible show wpAny _ _ (call (Value.builtin "isinstance") _ _) _ _ _))); with_reducible (k_here; k_dflt (refine isinst_tuple (by k_asm) (by (refine Dm.mono ?_ (by assumption); intro _ _; k_mem)) ?_); intro _))) | ((fail_if_success (fail_if_success (with_reducible show wpAny _ _ (subscriptTail _ _ _ _) _ _ _))); first | (with_reducible (k_here; (fail_if_success (fail_if_success (with_reducible show wpAny _ _ (subscriptTail _ _ (Value.ref _) (Value.int _ _)) _ _ _))); (with_unfolding_all refine row_at (by k_asm) (by k_mem) (by assumption) (by assumption) (by omega) ?_ (by with_unfolding_all rfl))))) | ((fail_if_success (fail_if_success (with_reducible show wpAny _ _ (compareOp _ _ _) _ _ _))); first | ((fail_if_success (fail_if_success (with_reducible show wpAny _ _ (compareOp .Eq (Value.str _ _) (Value.str _ _)) _ _ _))); with_reducible (k_here; k_dflt (first | (refine eq_lit (b := true) (by decide +kernel) ?_) | (refine eq_lit (b := false) (by decide +kernel) ?_)))) | ((fail_if_success (fail_if_success (with_reducible show wpAny _ _ (compareOp .NotEq (Value.ref _) (Value.ref _)) _ _ _))); with_reducible (k_here; k_dflt (refine ne_nil_b (by k_asm) (by k_dflt k_mem) (by k_dflt k_mem) (by (refine DmAll.mono ?_ (by assumption); intro _ _; k_mem)) (by assumption) (by ktr_units) (by assumption) ?_))) | ((fail_if_success (fail_if_success (with_reducible show wpAny _ _ (compareOp .In (Value.str _ _) (Value.str _ _)) _ _ _))); with_reducible (k_here; k_dflt (first | (refine in_lit (b := true) (by decide +kernel) ?_) | (refine in_lit (b := false) (by decide +kernel) ?_)))) | ((fail_if_success (fail_if_success (with_reducible show wpAny _ _ (compareOp .NotEq _ _) _ _ _))); with_reducible (k_here; k_dflt (refine ne_dmS (by k_asm) (by (refine Dm.mono ?_ (by assumption); intro _ _; k_mem)) (by assumption) (by decide +kernel) (by ktr_units) ?_)))) | ((fail_if_success (fail_if_success (with_reducible show wpAny _ _ (eval _ _) _ _ _))); first | ((fail_if_success (fail_if_success (with_reducible show wpAny _ _ (eval (.ListComp _ _ _ _) _) _ _ _))); with_reducible (k_here; k_dflt (refine tupBlock (by k_asm) (by with_unfolding_all rfl) (by decide) (by rfl) (by decide) (by rfl) ?_)))) | walk1 | (dsimp only; walk1) | (leave1; walk_say "STEP leave1"; try dsimp only) | fail "no step"))
    (rename_i kF9 kN9 _ _; exact hret _ [] _ _ kF9 (News.sub kN9 (by intro q9 hq9; k_mem)) (fun _ _ _ h => nomatch h) ⟨congrArg Value.bool (right_yes hP).symm, rfl⟩)
end
end Mine
end
section
open PySem PySem.W PySem.Spec PySem.Calls PyProof.Rows PyProof.V
namespace Mine
set_option pp.deepTerms false
set_option pp.proofs false
set_option maxRecDepth 100000
set_option maxHeartbeats 8000000
section
variable {prog : Program} {w : World} {A₀ : Around} {E : Value → Shared → Prop} {s' : Shared} {h₀ g h : Heap} {outer : List Env} {L a e Lc : Addr} {m mc : Str → Option Value} {name : Str} {scope : Scope} {cd : Value}
  {b₀ : Stmt} {suite : List Stmt} {pos np : Pos} {rest : List ExceptHandler} {Q : Flow → Shared → Prop} {news : List (Addr × Obj)} {KF : Frag} {C : Addr}
  {p : Program} {loose : List Str} {mean : ExcName → Option Value} {mg mb : Str → Option Value} {x : Str}
  {nm q : Str} {N : Addr} {bs bm : List Value} {hdct : Bool} {sn : List Str} {sub : List Value} {ab : Bool} {col : Option Bool} {dd : Option Addr} {k0 k1 k2 k3 k5 : Option Value} {newId : String}
theorem caught_M2 (K : Below A₀ h₀ outer g) (FG : Fr h₀ Lc g mc) (F : Fr g L h m) {hN : Heap} (Nw : News g L hN news) (hsm : h.UpToSlots s'.heap) (R : RaisedX h₀ (envOf name scope L a cd :: outer) e C news s'.heap)
    (X : KF.In h₀) (T : TopRead p loose mg mb h₀) (ex : nsIn KF mainGlobals x = some (some (.ref C))) (hl : KF.lookup C = some (excClassObj nm q C N bs bm hdct sn sub ab col dd k0 k1 k2 k3 k5 newId)) (hbase : bm.contains (.type "BaseException") = true)
    (k : ∀ g' h', Fr h₀ Lc g' mc → Fr g' L h' m → News g' L h' news → Below A₀ h₀ outer g' → h₀.StaysIn g' →
      wpAny (model prog w) ((A₀.deeper (envOf name scope L a cd)).mark (some (.ref e))) (execs (b₀ :: suite) (envOf name scope L a cd)) Q (fun _ _ => False) { s' with heap := h' })
    (hk : scope.kind = .function) (hx : (envOf name scope L a cd).kindOf x = some .globalImplicit) (hd : (x == ("__debug__" : Str)) = false) :
    wpAny (model prog w) (A₀.deeper (envOf name scope L a cd)) (noteFrame (.ref e) (envOf name scope L a cd))
      (fun _ s₂ => wpAny (model prog w) (A₀.deeper (envOf name scope L a cd)) (setFlight (.ref e) none) (fun _ s₃ =>
        wpAny (model prog w) (A₀.deeper (envOf name scope L a cd)) (handleBy (.ref e) (envOf name scope L a cd) (.ExceptHandler (some (.Name x np)) none (b₀ :: suite) pos :: rest)) Q E s₃) E s₂) E s' := by
  obtain ⟨B, a0, hB, hln, hfl⟩ := R
  have hgL : g.objs.size ≤ L := F.above
  refine wpAny_looks_onW (Around.frames_deeper K.stack) rfl hfl fun h₄ hheld₄ hsm₄ => ?_
  refine wpAny_landsW hheld₄ fun h₅ hheld hsm₅' => ?_
  have hsm₅ := hsm₄.trans hsm₅'
  have hheld' := flyingW_base hB hheld
  have F₅ : Fr h₀ L h₅ m := ⟨(hsm.trans hsm₅).ns F.ns, hheld'.1, Nat.le_trans FG.above (Nat.le_trans (Nat.le_of_lt FG.ns.lt) hgL)⟩
  obtain ⟨ob, hob, hobc⟩ := hheld'.there
  refine wpAny_handleBy_cons (codeAny_handlers_test (name_K F₅ X T ex ?_ hk hx hd)) (by intro q; cases q)
  refine wpAny_excMatches_sub_self (F₅.keep _ _ (X _ _ hl)) hob hobc hbase (codeAny_handlers_suite ?_)
  refine lands_againW hheld fun h₆ hfl₆ hsm₆ => ?_
  have hs6 := (hsm.trans hsm₅).trans hsm₆
  have st6 : h₀.StaysIn h₆ := fun b o q => hfl₆.1 b o (hB b o q)
  have nn : ∀ b o, g.get? b = some o → b ∉ news.map (·.1) := fun b o e hm => by
    obtain ⟨p, hp, rfl⟩ := List.mem_map.mp hm
    rw [(Nw p hp).2.2] at e; cases e
  have n0 : ∀ b o, h₀.get? b = some o → b ∉ news.map (·.1) := fun b o e => nn b o (FG.keep b o e)
  have up : g.UpToSlots (hideAll (cutAt h₆ L) (news.map (·.1))) := fun b o hb hf => by
    obtain ⟨sl, h1⟩ := hs6 b o (F.keep b o hb) hf
    exact ⟨sl, hideAll_get _ (cutAt_get h1 (Nat.lt_of_lt_of_le (Heap.lt_size hb) hgL)) (nn b o hb)⟩
  have st : h₀.StaysIn (hideAll (cutAt h₆ L) (news.map (·.1))) := fun b o hb =>
    hideAll_get _ (cutAt_get (st6 b o hb) (Nat.lt_of_lt_of_le (Heap.lt_size (FG.keep b o hb)) hgL)) (n0 b o hb)
  have kp : (hideAll (cutAt h₆ L) (news.map (·.1))).StaysIn h₆ := fun b o e => of_cutAt (of_hideAll _ e)
  have F₆ : Fr (hideAll (cutAt h₆ L) (news.map (·.1))) L h₆ m := ⟨hs6.ns F.ns, kp, by rw [hideAll_size]; exact cutAt_size⟩
  refine wpAny_noRaise (k _ h₆ ⟨up.ns FG.ns, st, FG.above⟩ F₆ (fun q hq => ⟨hfl₆.1 _ _ (hln q hq).1, (Nw q hq).2.1, hideAll_none _ (List.mem_map_of_mem hq)⟩)
    ⟨K.stack, st, K.frames.of_keeps fun b o hb hf => by obtain ⟨sl, h1⟩ := up b o hb hf; exact ⟨_, h1, rfl⟩⟩ st)
end
/-- the facts of a row that need no heap -/
def rowF (op x : Str) (ds : List PyData) (i : Nat) : Bool :=
  x.cps.all (· < 128) && (ds.all smallD && (!(op == Str.ofString "leave") && (!(op == Str.ofString "enter") && (fullD x.cps.toList ds && (decide ((usesD x.cps.toList ds).length < 100) &&
    ((usesD x.cps.toList ds ++ setsD x ds).all notBool && ((goalsD op x ds i).all notBool && (ds.all plainD && decide ((goalsD op x ds i).length ≤ 2)))))))))
theorem RowAt.of {w : World} {news : List (Addr × Obj)} {rv : List Value} {i : Nat} {op x : Str} {ds : List PyData} (h : rowF op x ds i = true)
    (ex : ∃ (r : Addr) (t xt : Tok) (p0 : Value) (ps : List Value) (n c0 : Nat), rv[i]? = some (.ref r) ∧ (r, tupO (.str op t :: p0 :: ps) n) ∈ news ∧ Shp w op x xt ∧ x.cps.size = (p0 :: ps).length ∧ (p0 :: ps).length < 100 ∧ x.cps[0]? = some c0 ∧ DmAll news (p0 :: ps) ds) : RowAt w news rv i op x ds := by
  simp only [rowF, Bool.and_eq_true, decide_eq_true_eq, List.all_eq_true, Bool.not_eq_true', beq_eq_false_iff_ne] at h
  obtain ⟨h1, h2, h3, h4, h5, h6, h7, h8, h9, h10⟩ := h
  exact ⟨ex, h1, h2, h3, h4, h5, h6, h7, h8, h9, h10⟩
/-- the facts of a row and its letters that _law_is_right's walk asks for -/
def rightF (op : Str) (ds : List PyData) (ls : Str) : Bool :=
  decide (ls.cps.size ≤ ds.length) && (lettersOK ls && (List.range ls.cps.size).all fun i => (!(ls.cps[i]? == some 110) || decide (i + 1 < ds.length)) && (!(ls.cps[i]? == some 116) || match (PyData.str op :: ds)[i + 1]? with
    | some (.tuple l) => l.all fun d => notBool d && smallD d
    | _ => true))
abbrev CtrL (w : World) (p : Program) (loose : List Str) (mean : ExcName → Option Value) (mg mb : Str → Option Value) (k : Nat) (f : Addr) (news : List (Addr × Obj)) (vs : List Value) (Post : Value → List (Addr × Obj) → Prop) : Prop :=
  ∀ (dp un : Nat) (gd : Option (List Code)) (cn : Str) (cs : Scope) (a : Addr) (ccd : Value) (cl : List (Str × Addr)) (outer : List Env) (A₀ : Around) (h₀ : Heap) (L : Addr) (m : Str → Option Value) (s : Shared)
    (Q E : Value → Shared → Prop), Below A₀ h₀ outer h₀ → Fr h₀ L s.heap m → (Mine.frame.heap_1 w.params).In h₀ → News h₀ L s.heap news → Top p loose mean mg mb h₀ → cs.kind = .function → dp + k < recursionLimit → un + 8 * k < cLine → gd = some [] →
    (∀ r tl h' tk', Fr h₀ L h' m → News h₀ L h' (tl ++ news) → (∀ q ∈ news, ∀ p ∈ tl, q.1 < p.1) → Post r tl → Q r { s with heap := h', toks := tk' }) →
    wpAny (model prog w) (ktrTop dp un gd cn cs L a ccd cl outer) (call (.ref f) vs) Q E s
def cN : List PyData := [.int 0, .tuple [.str (Str.ofString "nothing")]]
def cM : List PyData := [.int 1, .tuple [.str (Str.ofString "nothing")]]
def cR : List PyData := [.int 1]
abbrev conN : Str × Str × List PyData := (Str.ofString "const", Str.ofString "dx", cN)
abbrev conM : Str × Str × List PyData := (Str.ofString "const", Str.ofString "dx", cM)
abbrev conR : Str × Str × List PyData := (Str.ofString "return", Str.ofString "s", cR)
/-- the rows of the law's code: the row at hand at its place -/
def rdOf (row : Str × Str × List PyData) : Nat → Rd
  | 0 => fun i => match i with | 0 => row | 1 => conN | 2 => conM | _ => conR
  | 1 => fun i => match i with | 0 => conN | 1 => row | 2 => conM | _ => conR
  | _ => fun i => match i with | 0 => conN | 1 => conM | 2 => row | _ => conR
section
variable {w : World} {A : Around} {E : Value → Shared → Prop} {s : Shared} {h₀ : Heap} {L : Addr} {m : Str → Option Value} {news : List (Addr × Obj)}
theorem addA {l b : Addr} {xs ys : Array Value} {n n2 : Nat} {Q : Value → Shared → Prop} (F : Fr h₀ L s.heap m) (N : News h₀ L s.heap news) (hl : (l, ({ cls := .type "list", data := .seq xs n } : Obj)) ∈ news) (hb : (b, ({ cls := .type "list", data := .seq ys n2 } : Obj)) ∈ news) (hz : xs.size + ys.size ≤ 5000)
    (h : ∀ D h', Fr h₀ L h' m → News h₀ L h' ((D, lstO (xs.toList ++ ys.toList) 0) :: news) → (∀ p ∈ news, p.1 < D) → Q (.ref D) { s with heap := h' }) : wpAny (model prog w) A (binaryOp .Add (.ref l) (.ref b)) Q E s :=
  addL (vs := xs.toList) (ws := ys.toList) F N hl hb (by simpa using hz) h
end
/-- behind the rows' making -/
def RowsDone (w : World) (g : Heap) (L : Addr) (m0 : Str → Option Value) (news : List (Addr × Obj)) (rd : Rd) (s : Shared) (f : Flow) (s' : Shared) : Prop :=
  f = .next ∧ ∃ RL k h' tk' l rv, s' = { s with heap := h', toks := tk' } ∧ Fr g L h' (fun y => if y = Str.ofString "rows" then some (.ref RL) else m0 y) ∧ News g L h' l ∧ (RL, lstO rv k) ∈ l ∧ (∀ q ∈ news, q ∈ l) ∧ rv.length = 4 ∧ (∀ i, i < 4 → RowAt w l rv i (rd i).1 (rd i).2.1 (rd i).2.2)
theorem rows_cut {w : World} {M : Model} {A : Around} {E : Value → Shared → Prop} {s₁ : Shared} {g : Heap} {L : Addr} {m0 : Str → Option Value} {e : Sem Flow} {Q : Flow → Shared → Prop} (news : List (Addr × Obj)) (rd : Rd) (s₀ : Shared) (_ : Fr g L s₁.heap m0) (h : wpAny M A e (RowsDone w g L m0 news rd s₀) E s₁)
    (k : ∀ RL k h' tk' l rv, Fr g L h' (fun y => if y = Str.ofString "rows" then some (.ref RL) else m0 y) → News g L h' l → (RL, lstO rv k) ∈ l → (∀ q ∈ news, q ∈ l) → rv.length = 4 → (∀ i, i < 4 → RowAt w l rv i (rd i).1 (rd i).2.1 (rd i).2.2) → Q .next { s₀ with heap := h', toks := tk' }) : wpAny M A e Q E s₁ :=
  wpAny_mono h (fun f s' ⟨e1, RL, k9, h', tk', l, rv, e2, F, N, a, b, c, d⟩ => by subst e1 e2; exact k RL k9 h' tk' l rv F N a b c d) fun _ _ e => e
def DueDone (g : Heap) (L : Addr) (m0 : Str → Option Value) (l : List (Addr × Obj)) (due : Bool) (s : Shared) (f : Flow) (s' : Shared) : Prop :=
  f = .next ∧ ∃ h' tk', s' = { s with heap := h', toks := tk' } ∧ Fr g L h' (fun y => if y = Str.ofString "due" then some (.bool due) else m0 y) ∧ News g L h' l
theorem due_cut {M : Model} {A : Around} {E : Value → Shared → Prop} {s₁ : Shared} {g : Heap} {L : Addr} {m0 : Str → Option Value} {l : List (Addr × Obj)} {e : Sem Flow} {Q : Flow → Shared → Prop} (due : Bool) (s₀ : Shared) (_ : Fr g L s₁.heap m0) (_ : News g L s₁.heap l) (h : wpAny M A e (DueDone g L m0 l due s₀) E s₁)
    (k : ∀ h' tk', Fr g L h' (fun y => if y = Str.ofString "due" then some (.bool due) else m0 y) → News g L h' l → Q .next { s₀ with heap := h', toks := tk' }) : wpAny M A e Q E s₁ :=
  wpAny_mono h (fun f s' ⟨e1, h', tk', e2, F, N⟩ => by subst e1 e2; exact k h' tk' F N) fun _ _ e => e
theorem due_done {g : Heap} {L : Addr} {m0 : Str → Option Value} {l : List (Addr × Obj)} {due v : Bool} {s : Shared} {h' : Heap} {tk' : Nat} (e : due = v) (F : Fr g L h' (fun y => if y = Str.ofString "due" then some (.bool v) else m0 y)) (N : News g L h' l) : DueDone g L m0 l due s .next { s with heap := h', toks := tk' } :=
  ⟨rfl, h', tk', rfl, e ▸ F, N⟩
theorem due_yes {c d : Bool} (h : c = true) : d = (c == d) := by rw [h]; cases d <;> rfl
theorem due_no {c d : Bool} (h : c = false) : (!d) = (c == d) := by rw [h]; cases d <;> rfl
theorem con_row {w : World} {l : List (Addr × Obj)} {rv : List Value} {i : Nat} {r q : Addr} {t u t' : Tok} {z : Int} {n n' : Nat} (hv : rv[i]? = some (.ref r)) (hm : (r, tupO [.str (Str.ofString "const") t, .int z u, .ref q] n) ∈ l) (hq : (q, tupO [.str (Str.ofString "nothing") t'] n') ∈ l) (hz : z = 0 ∨ z = 1) (hi : i < 3) :
    RowAt w l rv i (Str.ofString "const") (Str.ofString "dx") [.int z, .tuple [.str (Str.ofString "nothing")]] := by
  refine RowAt.of ?_ ⟨r, t, _, .int z u, [.ref q], n, 100, hv, hm, (by show _ = _; k_is), rfl, by simp, rfl, .cons (.at (.int _ _)) (.cons (.tup hq (.cons (.str _ _) .nil)) .nil)⟩
  rcases hz with rfl | rfl <;> (rcases (show i = 0 ∨ i = 1 ∨ i = 2 by omega) with rfl | rfl | rfl) <;> decide +kernel
theorem ret_row {w : World} {l : List (Addr × Obj)} {rv : List Value} {r : Addr} {t u : Tok} {n : Nat} (hv : rv[3]? = some (.ref r)) (hm : (r, tupO [.str (Str.ofString "return") t, .int 1 u] n) ∈ l) :
    RowAt w l rv 3 (Str.ofString "return") (Str.ofString "s") [.int 1] :=
  RowAt.of (by decide +kernel) ⟨r, t, _, .int 1 u, [], n, 115, hv, hm, (by show _ = _; k_is), rfl, by simp, rfl, .cons (.at (.int _ _)) .nil⟩
theorem four_all {P : Nat → Prop} (h0 : P 0) (h1 : P 1) (h2 : P 2) (h3 : P 3) : ∀ i, i < 4 → P i := fun i hi => by
  rcases four hi with rfl | rfl | rfl | rfl <;> assumption
theorem rowsAt_mono {w : World} {n n' : List (Addr × Obj)} {rv : List Value} {rd : Rd} (h : ∀ q ∈ n, q ∈ n') (r : ∀ i, i < 4 → RowAt w n rv i (rd i).1 (rd i).2.1 (rd i).2.2) : ∀ i, i < 4 → RowAt w n' rv i (rd i).1 (rd i).2.1 (rd i).2.2 := fun i hi => (r i hi).mono h
theorem right_facts {op ls : Str} {ds : List PyData} (h : rightF op ds ls = true) : ls.cps.size ≤ ds.length ∧ lettersOK ls = true ∧ (∀ i, ls.cps[i]? = some 110 → i + 1 < ds.length) ∧
    (∀ i l, ls.cps[i]? = some 116 → (PyData.str op :: ds)[i + 1]? = some (.tuple l) → ∀ d ∈ l, notBool d = true ∧ smallD d = true) := by
  simp only [rightF, Bool.and_eq_true, decide_eq_true_eq, List.all_eq_true, List.mem_range] at h
  refine ⟨h.1, h.2.1, fun i hi => ?_, fun i l hi hl d hd => ?_⟩
  · have := (h.2.2 i (Array.getElem?_eq_some_iff.mp hi).1).1
    rw [hi] at this
    simpa using this
  · have := (h.2.2 i (Array.getElem?_eq_some_iff.mp hi).1).2
    rw [hi, hl] at this
    simp only [beq_self_eq_true, Bool.not_true, Bool.false_or, List.all_eq_true, Bool.and_eq_true] at this
    exact this d hd
theorem rowF_facts {op x : Str} {ds : List PyData} {i : Nat} (h : rowF op x ds i = true) : (∀ d ∈ ds, smallD d = true) ∧ ∀ d ∈ ds, plainD d = true := by
  simp only [rowF, Bool.and_eq_true, List.all_eq_true] at h
  exact ⟨h.2.1, h.2.2.2.2.2.2.2.2.1⟩
def StopMark : Prop := True
def StopRows (p : Prop) : Prop := p
theorem stop_rows {p : Prop} (h : StopRows p) : p := h
local macro_rules | `(tactic| walk_at "LeaveL") => `(tactic| (k_here; refine ⟨_, by assumption, ?_⟩))
section
variable {w : World} {p : Program} {loose : List Str} {mean : ExcName → Option Value} {mg mb : Str → Option Value}
theorem rr_ctr {news : List (Addr × Obj)} {r : Addr} {op x ls : Str} {t xt tl tp ta : Tok} {p0 : Value} {ps : List Value} {ds : List PyData} {n c0 pl : Nat} {ar : Int}
    (hr : (r, tupO (.str op t :: p0 :: ps) n) ∈ news) (hs : Shp w op x xt) (hl : x.cps.size = (p0 :: ps).length) (hn : (p0 :: ps).length < 100) (h0 : x.cps[0]? = some c0) (hp : DmAll news (p0 :: ps) ds) (hpl : pl < 3) (hF : rowF op x ds pl = true) (hR : rightF op ds ls = true) :
    CtrL w p loose mean mg mb 24 193 news [.ref r, .str ls tl, .int (pl : Int) tp, .int ar ta] (fun v tl => v = .bool (codeD ar (rdOf (op, x, ds) pl) == (rightD (.str op :: ds) ls && (decide (1 ≤ ar) && decide (ar ≤ 4)))) ∧ tl = []) := by
  (intro dp un gd cn cs a ccd cl outer A₀ h₀ L m s Q E B F X N T hk hd hu hgd hret
   refine wpAny_call ?_
   k_dflt (refine' code_defL (binds := [(Str.ofString "row", .ref r), (Str.ofString "letters", .str ls tl), (Str.ofString "place", .int (pl : Int) tp), (Str.ofString "arity", .int ar ta)]) ?k1 ?k2 ?k3 ?k4 ?k5 ?kA ?kF ?kK ?k6 ?k7 ?k8 ?k9 ?kB ?_ ?c2 ?c3 ?c4 ?c5; (case kA => exact rfl); (case kF => exact rfl); (case kK => assumption); (case k1 => k_asm); (case k2 => k_asm); (case k3 => k_asm); (case k4 => k_asm); (case k5 => k_asm); (case k6 => k_is); (case k7 => k_is); (case k8 => ktr_room); (case k9 => exact BindsTo.of_eq rfl); (case c5 => decide); (case kB => exact locs rfl); (case c2 => exact rfl); (case c3 => exact rfl); (case c4 => exact rfl); k_whole)
   intro g' L' h' FG' F' N' B' X' T'
   (try dsimp only)
   (try k_fold))
  have mk : StopMark := trivial
  (repeat' (first | (k_unfold; (try dsimp only)) | (k_end; wrow_close) | ((fail_if_success (fail_if_success (with_reducible show wpAny _ _ (call _ _ _) _ _ _))); first | (with_reducible (k_here; (fail_if_success (fail_if_success (with_reducible show wpAny _ _ (call (Value.ref 85) [_, _, _, _, _, _]) _ _ _))); k_dflt (refine code_made (by k_asm) (by k_asm) (by k_asm) (by k_asm) (by k_asm) (by exact rfl) (by ktr_room) (by ktr_units) (by k_mem) (by k_mem) (by k_mem) (by omega) ?_); (intro _ _ _ _ _ _ _ _ _ _ _ _ _ _ _); (try dsimp only); (try k_fold))) | (with_reducible (k_here; (fail_if_success (fail_if_success (with_reducible show wpAny _ _ (call (Value.ref _) [_]) _ _ _))); k_dflt (refine CtrE.same (by k_asm) (by k_asm) (by k_asm) (by k_asm) (by k_asm) (by exact rfl) (by ktr_room) (by ktr_units) (by assumption) (checked_ctr (by k_mem) (by k_mem) (by k_mem) (by assumption) (by k_mem) (by k_mem) (by rfl) (by (refine rowsAt_mono ?_ (by assumption); intro _ _; k_mem))) ?_ ?_); (intro _ _ _ _ _ _); (try dsimp only); (try k_fold); rotate_left; (intro _ _ _ _ _ _ _ _); (try dsimp only); rotate_right)) | (with_reducible (k_here; (fail_if_success (fail_if_success (with_reducible show wpAny _ _ (call (Value.ref _) [_, _]) _ _ _))); k_dflt (refine Ctr.same (by k_asm) (by k_asm) (by k_asm) (by k_asm) (by k_asm) (by exact rfl) (by ktr_room) (by ktr_units) (right_ctr (by k_mem) (by (refine DmAll.mono ?_ (by assumption); intro _ _; k_mem)) (by assumption) (by assumption) (by assumption) (by assumption) (by assumption) (by assumption) (by assumption)) ?_); (intro _ _ _ _ _); (try dsimp only); (try k_fold)))) | ((fail_if_success (fail_if_success (with_reducible show wpAny _ _ (binaryOp _ _ _) _ _ _))); first | ((fail_if_success (fail_if_success (with_reducible show wpAny _ _ (binaryOp .Add (Value.ref _) (Value.ref _)) _ _ _))); with_reducible (k_here; k_dflt (refine addA (by k_asm) (by k_asm) (by k_mem) (by k_mem) (by exact Nat.le_of_ble_eq_true rfl) ?_); intro _ _ _ _ _))) | ((fail_if_success (fail_if_success (with_reducible show wpAny _ _ (exec _ _) _ _ _))); first | (with_reducible (k_here; (fail_if_success (fail_if_success (with_reducible show wpAny _ _ (exec (Stmt.Assign _ (Expr.BoolOp _ _ _) _) _) _ _ _))); with_reducible (rename StopMark => mk9); refine stop_rows ?_)) | (with_reducible (k_here; (fail_if_success (fail_if_success (with_reducible show wpAny _ _ (exec (Stmt.Assign _ (Expr.BinOp _ _ _ _) _) _) _ _ _))); with_reducible (rename StopMark => mk9); refine stop_rows ?_))) | walk1 | (dsimp only; walk1) | (leave1; walk_say "STEP leave1"; try dsimp only) | fail "no step"))
  show wpAny _ _ _ _ _ _
  (rename Fr _ _ _ _ => F4)
  (rename News _ _ _ _ => N4)
  have hrow : ∀ l rv, (∀ q ∈ news, q ∈ l) → rv[pl]? = some (.ref r) → RowAt w l rv pl op x ds := fun l rv hsub hv => RowAt.of hF ⟨r, t, xt, p0, ps, n, c0, hv, hsub _ hr, hs, hl, hn, h0, hp.mono hsub⟩
  refine rows_cut (w := w) news (rdOf (op, x, ds) pl) s F4 ?_ ?_
  · (rename StopMark => mk8; clear mk8)
    rcases (show pl = 0 ∨ pl = 1 ∨ pl = 2 by omega) with rfl | rfl | rfl
    · (repeat' (first | (k_unfold; (try dsimp only)) | (k_end; wrow_close) | ((fail_if_success (fail_if_success (with_reducible show wpAny _ _ (call _ _ _) _ _ _))); first | (with_reducible (k_here; (fail_if_success (fail_if_success (with_reducible show wpAny _ _ (call (Value.ref 85) [_, _, _, _, _, _]) _ _ _))); k_dflt (refine code_made (by k_asm) (by k_asm) (by k_asm) (by k_asm) (by k_asm) (by exact rfl) (by ktr_room) (by ktr_units) (by k_mem) (by k_mem) (by k_mem) (by omega) ?_); (intro _ _ _ _ _ _ _ _ _ _ _ _ _ _ _); (try dsimp only); (try k_fold))) | (with_reducible (k_here; (fail_if_success (fail_if_success (with_reducible show wpAny _ _ (call (Value.ref _) [_]) _ _ _))); k_dflt (refine CtrE.same (by k_asm) (by k_asm) (by k_asm) (by k_asm) (by k_asm) (by exact rfl) (by ktr_room) (by ktr_units) (by assumption) (checked_ctr (by k_mem) (by k_mem) (by k_mem) (by assumption) (by k_mem) (by k_mem) (by rfl) (by (refine rowsAt_mono ?_ (by assumption); intro _ _; k_mem))) ?_ ?_); (intro _ _ _ _ _ _); (try dsimp only); (try k_fold); rotate_left; (intro _ _ _ _ _ _ _ _); (try dsimp only); rotate_right)) | (with_reducible (k_here; (fail_if_success (fail_if_success (with_reducible show wpAny _ _ (call (Value.ref _) [_, _]) _ _ _))); k_dflt (refine Ctr.same (by k_asm) (by k_asm) (by k_asm) (by k_asm) (by k_asm) (by exact rfl) (by ktr_room) (by ktr_units) (right_ctr (by k_mem) (by (refine DmAll.mono ?_ (by assumption); intro _ _; k_mem)) (by assumption) (by assumption) (by assumption) (by assumption) (by assumption) (by assumption) (by assumption)) ?_); (intro _ _ _ _ _); (try dsimp only); (try k_fold)))) | ((fail_if_success (fail_if_success (with_reducible show wpAny _ _ (binaryOp _ _ _) _ _ _))); first | ((fail_if_success (fail_if_success (with_reducible show wpAny _ _ (binaryOp .Add (Value.ref _) (Value.ref _)) _ _ _))); with_reducible (k_here; k_dflt (refine addA (by k_asm) (by k_asm) (by k_mem) (by k_mem) (by exact Nat.le_of_ble_eq_true rfl) ?_); intro _ _ _ _ _))) | ((fail_if_success (fail_if_success (with_reducible show wpAny _ _ (exec _ _) _ _ _))); first | (with_reducible (k_here; (fail_if_success (fail_if_success (with_reducible show wpAny _ _ (exec (Stmt.Assign _ (Expr.BoolOp _ _ _) _) _) _ _ _))); with_reducible (rename StopMark => mk9); refine stop_rows ?_)) | (with_reducible (k_here; (fail_if_success (fail_if_success (with_reducible show wpAny _ _ (exec (Stmt.Assign _ (Expr.BinOp _ _ _ _) _) _) _ _ _))); with_reducible (rename StopMark => mk9); refine stop_rows ?_))) | walk1 | (dsimp only; walk1) | (leave1; walk_say "STEP leave1"; try dsimp only) | fail "no step"))
      (rename Fr _ _ _ _ => F9)
      (rename News _ _ _ _ => N9)
      refine ⟨rfl, _, _, _, _, _, _, rfl, F9, N9, .head _, (by intro q9 hq9; k_mem), rfl, four_all ?_ ?_ ?_ ?_⟩
      · exact hrow _ _ (by intro q9 hq9; k_mem) rfl
      · exact con_row rfl (by k_dflt k_mem) (by k_dflt k_mem) (.inl rfl) (by decide)
      · exact con_row rfl (by k_dflt k_mem) (by k_dflt k_mem) (.inr rfl) (by decide)
      · exact ret_row rfl (by k_dflt k_mem)
    · (repeat' (first | (k_unfold; (try dsimp only)) | (k_end; wrow_close) | ((fail_if_success (fail_if_success (with_reducible show wpAny _ _ (call _ _ _) _ _ _))); first | (with_reducible (k_here; (fail_if_success (fail_if_success (with_reducible show wpAny _ _ (call (Value.ref 85) [_, _, _, _, _, _]) _ _ _))); k_dflt (refine code_made (by k_asm) (by k_asm) (by k_asm) (by k_asm) (by k_asm) (by exact rfl) (by ktr_room) (by ktr_units) (by k_mem) (by k_mem) (by k_mem) (by omega) ?_); (intro _ _ _ _ _ _ _ _ _ _ _ _ _ _ _); (try dsimp only); (try k_fold))) | (with_reducible (k_here; (fail_if_success (fail_if_success (with_reducible show wpAny _ _ (call (Value.ref _) [_]) _ _ _))); k_dflt (refine CtrE.same (by k_asm) (by k_asm) (by k_asm) (by k_asm) (by k_asm) (by exact rfl) (by ktr_room) (by ktr_units) (by assumption) (checked_ctr (by k_mem) (by k_mem) (by k_mem) (by assumption) (by k_mem) (by k_mem) (by rfl) (by (refine rowsAt_mono ?_ (by assumption); intro _ _; k_mem))) ?_ ?_); (intro _ _ _ _ _ _); (try dsimp only); (try k_fold); rotate_left; (intro _ _ _ _ _ _ _ _); (try dsimp only); rotate_right)) | (with_reducible (k_here; (fail_if_success (fail_if_success (with_reducible show wpAny _ _ (call (Value.ref _) [_, _]) _ _ _))); k_dflt (refine Ctr.same (by k_asm) (by k_asm) (by k_asm) (by k_asm) (by k_asm) (by exact rfl) (by ktr_room) (by ktr_units) (right_ctr (by k_mem) (by (refine DmAll.mono ?_ (by assumption); intro _ _; k_mem)) (by assumption) (by assumption) (by assumption) (by assumption) (by assumption) (by assumption) (by assumption)) ?_); (intro _ _ _ _ _); (try dsimp only); (try k_fold)))) | ((fail_if_success (fail_if_success (with_reducible show wpAny _ _ (binaryOp _ _ _) _ _ _))); first | ((fail_if_success (fail_if_success (with_reducible show wpAny _ _ (binaryOp .Add (Value.ref _) (Value.ref _)) _ _ _))); with_reducible (k_here; k_dflt (refine addA (by k_asm) (by k_asm) (by k_mem) (by k_mem) (by exact Nat.le_of_ble_eq_true rfl) ?_); intro _ _ _ _ _))) | ((fail_if_success (fail_if_success (with_reducible show wpAny _ _ (exec _ _) _ _ _))); first | (with_reducible (k_here; (fail_if_success (fail_if_success (with_reducible show wpAny _ _ (exec (Stmt.Assign _ (Expr.BoolOp _ _ _) _) _) _ _ _))); with_reducible (rename StopMark => mk9); refine stop_rows ?_)) | (with_reducible (k_here; (fail_if_success (fail_if_success (with_reducible show wpAny _ _ (exec (Stmt.Assign _ (Expr.BinOp _ _ _ _) _) _) _ _ _))); with_reducible (rename StopMark => mk9); refine stop_rows ?_))) | walk1 | (dsimp only; walk1) | (leave1; walk_say "STEP leave1"; try dsimp only) | fail "no step"))
      (rename Fr _ _ _ _ => F9)
      (rename News _ _ _ _ => N9)
      refine ⟨rfl, _, _, _, _, _, _, rfl, F9, N9, .head _, (by intro q9 hq9; k_mem), rfl, four_all ?_ ?_ ?_ ?_⟩
      · exact con_row rfl (by k_dflt k_mem) (by k_dflt k_mem) (.inl rfl) (by decide)
      · exact hrow _ _ (by intro q9 hq9; k_mem) rfl
      · exact con_row rfl (by k_dflt k_mem) (by k_dflt k_mem) (.inr rfl) (by decide)
      · exact ret_row rfl (by k_dflt k_mem)
    · (repeat' (first | (k_unfold; (try dsimp only)) | (k_end; wrow_close) | ((fail_if_success (fail_if_success (with_reducible show wpAny _ _ (call _ _ _) _ _ _))); first | (with_reducible (k_here; (fail_if_success (fail_if_success (with_reducible show wpAny _ _ (call (Value.ref 85) [_, _, _, _, _, _]) _ _ _))); k_dflt (refine code_made (by k_asm) (by k_asm) (by k_asm) (by k_asm) (by k_asm) (by exact rfl) (by ktr_room) (by ktr_units) (by k_mem) (by k_mem) (by k_mem) (by omega) ?_); (intro _ _ _ _ _ _ _ _ _ _ _ _ _ _ _); (try dsimp only); (try k_fold))) | (with_reducible (k_here; (fail_if_success (fail_if_success (with_reducible show wpAny _ _ (call (Value.ref _) [_]) _ _ _))); k_dflt (refine CtrE.same (by k_asm) (by k_asm) (by k_asm) (by k_asm) (by k_asm) (by exact rfl) (by ktr_room) (by ktr_units) (by assumption) (checked_ctr (by k_mem) (by k_mem) (by k_mem) (by assumption) (by k_mem) (by k_mem) (by rfl) (by (refine rowsAt_mono ?_ (by assumption); intro _ _; k_mem))) ?_ ?_); (intro _ _ _ _ _ _); (try dsimp only); (try k_fold); rotate_left; (intro _ _ _ _ _ _ _ _); (try dsimp only); rotate_right)) | (with_reducible (k_here; (fail_if_success (fail_if_success (with_reducible show wpAny _ _ (call (Value.ref _) [_, _]) _ _ _))); k_dflt (refine Ctr.same (by k_asm) (by k_asm) (by k_asm) (by k_asm) (by k_asm) (by exact rfl) (by ktr_room) (by ktr_units) (right_ctr (by k_mem) (by (refine DmAll.mono ?_ (by assumption); intro _ _; k_mem)) (by assumption) (by assumption) (by assumption) (by assumption) (by assumption) (by assumption) (by assumption)) ?_); (intro _ _ _ _ _); (try dsimp only); (try k_fold)))) | ((fail_if_success (fail_if_success (with_reducible show wpAny _ _ (binaryOp _ _ _) _ _ _))); first | ((fail_if_success (fail_if_success (with_reducible show wpAny _ _ (binaryOp .Add (Value.ref _) (Value.ref _)) _ _ _))); with_reducible (k_here; k_dflt (refine addA (by k_asm) (by k_asm) (by k_mem) (by k_mem) (by exact Nat.le_of_ble_eq_true rfl) ?_); intro _ _ _ _ _))) | ((fail_if_success (fail_if_success (with_reducible show wpAny _ _ (exec _ _) _ _ _))); first | (with_reducible (k_here; (fail_if_success (fail_if_success (with_reducible show wpAny _ _ (exec (Stmt.Assign _ (Expr.BoolOp _ _ _) _) _) _ _ _))); with_reducible (rename StopMark => mk9); refine stop_rows ?_)) | (with_reducible (k_here; (fail_if_success (fail_if_success (with_reducible show wpAny _ _ (exec (Stmt.Assign _ (Expr.BinOp _ _ _ _) _) _) _ _ _))); with_reducible (rename StopMark => mk9); refine stop_rows ?_))) | walk1 | (dsimp only; walk1) | (leave1; walk_say "STEP leave1"; try dsimp only) | fail "no step"))
      (rename Fr _ _ _ _ => F9)
      (rename News _ _ _ _ => N9)
      refine ⟨rfl, _, _, _, _, _, _, rfl, F9, N9, .head _, (by intro q9 hq9; k_mem), rfl, four_all ?_ ?_ ?_ ?_⟩
      · exact con_row rfl (by k_dflt k_mem) (by k_dflt k_mem) (.inl rfl) (by decide)
      · exact con_row rfl (by k_dflt k_mem) (by k_dflt k_mem) (.inr rfl) (by decide)
      · exact hrow _ _ (by intro q9 hq9; k_mem) rfl
      · exact ret_row rfl (by k_dflt k_mem)
  · intro RL k h' tk' l rv F5 N5 hRL hsub hrv hrows
    have hr' := hsub _ hr
    obtain ⟨hls, hlet, hnear, htup⟩ := right_facts hR
    obtain ⟨hsm, hpl9⟩ := rowF_facts hF
    rw [← hp.len] at hls hnear
    have hp' := hp.mono hsub
    clear N4 F4 hp hrow
    (repeat' (first | (k_unfold; (try dsimp only)) | (k_end; wrow_close) | ((fail_if_success (fail_if_success (with_reducible show wpAny _ _ (call _ _ _) _ _ _))); first | (with_reducible (k_here; (fail_if_success (fail_if_success (with_reducible show wpAny _ _ (call (Value.ref 85) [_, _, _, _, _, _]) _ _ _))); k_dflt (refine code_made (by k_asm) (by k_asm) (by k_asm) (by k_asm) (by k_asm) (by exact rfl) (by ktr_room) (by ktr_units) (by k_mem) (by k_mem) (by k_mem) (by omega) ?_); (intro _ _ _ _ _ _ _ _ _ _ _ _ _ _ _); (try dsimp only); (try k_fold))) | (with_reducible (k_here; (fail_if_success (fail_if_success (with_reducible show wpAny _ _ (call (Value.ref _) [_]) _ _ _))); k_dflt (refine CtrE.same (by k_asm) (by k_asm) (by k_asm) (by k_asm) (by k_asm) (by exact rfl) (by ktr_room) (by ktr_units) (by assumption) (checked_ctr (by k_mem) (by k_mem) (by k_mem) (by assumption) (by k_mem) (by k_mem) (by rfl) (by (refine rowsAt_mono ?_ (by assumption); intro _ _; k_mem))) ?_ ?_); (intro _ _ _ _ _ _); (try dsimp only); (try k_fold); rotate_left; (intro _ _ _ _ _ _ _ _); (try dsimp only); rotate_right)) | (with_reducible (k_here; (fail_if_success (fail_if_success (with_reducible show wpAny _ _ (call (Value.ref _) [_, _]) _ _ _))); k_dflt (refine Ctr.same (by k_asm) (by k_asm) (by k_asm) (by k_asm) (by k_asm) (by exact rfl) (by ktr_room) (by ktr_units) (right_ctr (by k_mem) (by (refine DmAll.mono ?_ (by assumption); intro _ _; k_mem)) (by assumption) (by assumption) (by assumption) (by assumption) (by assumption) (by assumption) (by assumption)) ?_); (intro _ _ _ _ _); (try dsimp only); (try k_fold)))) | ((fail_if_success (fail_if_success (with_reducible show wpAny _ _ (binaryOp _ _ _) _ _ _))); first | ((fail_if_success (fail_if_success (with_reducible show wpAny _ _ (binaryOp .Add (Value.ref _) (Value.ref _)) _ _ _))); with_reducible (k_here; k_dflt (refine addA (by k_asm) (by k_asm) (by k_mem) (by k_mem) (by exact Nat.le_of_ble_eq_true rfl) ?_); intro _ _ _ _ _))) | ((fail_if_success (fail_if_success (with_reducible show wpAny _ _ (exec _ _) _ _ _))); first | (with_reducible (k_here; (fail_if_success (fail_if_success (with_reducible show wpAny _ _ (exec (Stmt.Assign _ (Expr.BoolOp _ _ _) _) _) _ _ _))); with_reducible (rename StopMark => mk9); refine stop_rows ?_)) | (with_reducible (k_here; (fail_if_success (fail_if_success (with_reducible show wpAny _ _ (exec (Stmt.Assign _ (Expr.BinOp _ _ _ _) _) _) _ _ _))); with_reducible (rename StopMark => mk9); refine stop_rows ?_))) | walk1 | (dsimp only; walk1) | (leave1; walk_say "STEP leave1"; try dsimp only) | fail "no step"))
    show wpAny _ _ _ _ _ _
    (rename Fr _ _ _ _ => F6)
    (rename News _ _ _ _ => N6)
    refine due_cut (rightD (.str op :: ds) ls && (decide (1 ≤ ar) && decide (ar ≤ 4))) s F6 N6 ?_ ?_
    · (rename StopMark => mk8; clear mk8)
      (repeat' (first | (k_unfold; (try dsimp only)) | (k_end; wrow_close) | ((fail_if_success (fail_if_success (with_reducible show wpAny _ _ (call _ _ _) _ _ _))); first | (with_reducible (k_here; (fail_if_success (fail_if_success (with_reducible show wpAny _ _ (call (Value.ref 85) [_, _, _, _, _, _]) _ _ _))); k_dflt (refine code_made (by k_asm) (by k_asm) (by k_asm) (by k_asm) (by k_asm) (by exact rfl) (by ktr_room) (by ktr_units) (by k_mem) (by k_mem) (by k_mem) (by omega) ?_); (intro _ _ _ _ _ _ _ _ _ _ _ _ _ _ _); (try dsimp only); (try k_fold))) | (with_reducible (k_here; (fail_if_success (fail_if_success (with_reducible show wpAny _ _ (call (Value.ref _) [_]) _ _ _))); k_dflt (refine CtrE.same (by k_asm) (by k_asm) (by k_asm) (by k_asm) (by k_asm) (by exact rfl) (by ktr_room) (by ktr_units) (by assumption) (checked_ctr (by k_mem) (by k_mem) (by k_mem) (by assumption) (by k_mem) (by k_mem) (by rfl) (by (refine rowsAt_mono ?_ (by assumption); intro _ _; k_mem))) ?_ ?_); (intro _ _ _ _ _ _); (try dsimp only); (try k_fold); rotate_left; (intro _ _ _ _ _ _ _ _); (try dsimp only); rotate_right)) | (with_reducible (k_here; (fail_if_success (fail_if_success (with_reducible show wpAny _ _ (call (Value.ref _) [_, _]) _ _ _))); k_dflt (refine Ctr.same (by k_asm) (by k_asm) (by k_asm) (by k_asm) (by k_asm) (by exact rfl) (by ktr_room) (by ktr_units) (right_ctr (by k_mem) (by (refine DmAll.mono ?_ (by assumption); intro _ _; k_mem)) (by assumption) (by assumption) (by assumption) (by assumption) (by assumption) (by assumption) (by assumption)) ?_); (intro _ _ _ _ _); (try dsimp only); (try k_fold)))) | ((fail_if_success (fail_if_success (with_reducible show wpAny _ _ (binaryOp _ _ _) _ _ _))); first | ((fail_if_success (fail_if_success (with_reducible show wpAny _ _ (binaryOp .Add (Value.ref _) (Value.ref _)) _ _ _))); with_reducible (k_here; k_dflt (refine addA (by k_asm) (by k_asm) (by k_mem) (by k_mem) (by exact Nat.le_of_ble_eq_true rfl) ?_); intro _ _ _ _ _))) | ((fail_if_success (fail_if_success (with_reducible show wpAny _ _ (exec _ _) _ _ _))); first | (with_reducible (k_here; (fail_if_success (fail_if_success (with_reducible show wpAny _ _ (exec (Stmt.Assign _ (Expr.BoolOp _ _ _) _) _) _ _ _))); with_reducible (rename StopMark => mk9); refine stop_rows ?_)) | (with_reducible (k_here; (fail_if_success (fail_if_success (with_reducible show wpAny _ _ (exec (Stmt.Assign _ (Expr.BinOp _ _ _ _) _) _) _ _ _))); with_reducible (rename StopMark => mk9); refine stop_rows ?_))) | walk1 | (dsimp only; walk1) | (leave1; walk_say "STEP leave1"; try dsimp only) | fail "no step"))
      all_goals ((rename Fr _ _ _ _ => F7); (rename News _ _ _ _ => N7); refine due_done ?_ F7 N7)
      all_goals (rename rightD _ _ = _ => hA; rw [hA])
      all_goals first | (rename 1 ≤ ar => hB; simp [hB]; done) | (rename ¬ 1 ≤ ar => hB; simp [hB]; done) | (simp; done)
    · intro h8 tk8 F8 N8
      (repeat' (first | (k_unfold; (try dsimp only)) | (k_end; wrow_close) | ((fail_if_success (fail_if_success (with_reducible show wpAny _ _ (call _ _ _) _ _ _))); first | (with_reducible (k_here; (fail_if_success (fail_if_success (with_reducible show wpAny _ _ (call (Value.ref 85) [_, _, _, _, _, _]) _ _ _))); k_dflt (refine code_made (by k_asm) (by k_asm) (by k_asm) (by k_asm) (by k_asm) (by exact rfl) (by ktr_room) (by ktr_units) (by k_mem) (by k_mem) (by k_mem) (by omega) ?_); (intro _ _ _ _ _ _ _ _ _ _ _ _ _ _ _); (try dsimp only); (try k_fold))) | (with_reducible (k_here; (fail_if_success (fail_if_success (with_reducible show wpAny _ _ (call (Value.ref _) [_]) _ _ _))); k_dflt (refine CtrE.same (by k_asm) (by k_asm) (by k_asm) (by k_asm) (by k_asm) (by exact rfl) (by ktr_room) (by ktr_units) (by assumption) (checked_ctr (by k_mem) (by k_mem) (by k_mem) (by assumption) (by k_mem) (by k_mem) (by rfl) (by (refine rowsAt_mono ?_ (by assumption); intro _ _; k_mem))) ?_ ?_); (intro _ _ _ _ _ _); (try dsimp only); (try k_fold); rotate_left; (intro _ _ _ _ _ _ _ _); (try dsimp only); rotate_right)) | (with_reducible (k_here; (fail_if_success (fail_if_success (with_reducible show wpAny _ _ (call (Value.ref _) [_, _]) _ _ _))); k_dflt (refine Ctr.same (by k_asm) (by k_asm) (by k_asm) (by k_asm) (by k_asm) (by exact rfl) (by ktr_room) (by ktr_units) (right_ctr (by k_mem) (by (refine DmAll.mono ?_ (by assumption); intro _ _; k_mem)) (by assumption) (by assumption) (by assumption) (by assumption) (by assumption) (by assumption) (by assumption)) ?_); (intro _ _ _ _ _); (try dsimp only); (try k_fold)))) | ((fail_if_success (fail_if_success (with_reducible show wpAny _ _ (binaryOp _ _ _) _ _ _))); first | ((fail_if_success (fail_if_success (with_reducible show wpAny _ _ (binaryOp .Add (Value.ref _) (Value.ref _)) _ _ _))); with_reducible (k_here; k_dflt (refine addA (by k_asm) (by k_asm) (by k_mem) (by k_mem) (by exact Nat.le_of_ble_eq_true rfl) ?_); intro _ _ _ _ _))) | ((fail_if_success (fail_if_success (with_reducible show wpAny _ _ (exec _ _) _ _ _))); first | (with_reducible (k_here; (fail_if_success (fail_if_success (with_reducible show wpAny _ _ (exec (Stmt.Assign _ (Expr.BoolOp _ _ _) _) _) _ _ _))); with_reducible (rename StopMark => mk9); refine stop_rows ?_)) | (with_reducible (k_here; (fail_if_success (fail_if_success (with_reducible show wpAny _ _ (exec (Stmt.Assign _ (Expr.BinOp _ _ _ _) _) _) _ _ _))); with_reducible (rename StopMark => mk9); refine stop_rows ?_))) | walk1 | (dsimp only; walk1) | (leave1; walk_say "STEP leave1"; try dsimp only) | fail "no step"))
      · (rename_i kF9 kN9 _ _; exact hret _ [] _ _ kF9 (News.sub kN9 (by intro q9 hq9; have hq8 := hsub q9 hq9; k_mem)) (fun _ _ _ h => nomatch h) ⟨congrArg Value.bool (due_yes (by assumption)), rfl⟩)
      · rename_i U9 R9
        show wpAny _ _ _ _ _ _
        obtain ⟨nm, q, Nx, bs, hdct, sn, sub, ab, col, dd, k0, k1, k2, k3, k5, hcl⟩ := fault_cls w
        refine caught_M2 B' FG' (by assumption) N8 U9 R9 X (by k_asm) (by k_is) hcl rfl ?_ rfl rfl (by decide)
        intro g2 h2 FG2 F2 N2 B2 st2
        have X2 := X.keeps st2
        have T2 := T.keeps st2
        clear B' FG' X' T' N8
        (repeat' (first | (k_unfold; (try dsimp only)) | (k_end; wrow_close) | ((fail_if_success (fail_if_success (with_reducible show wpAny _ _ (call _ _ _) _ _ _))); first | (with_reducible (k_here; (fail_if_success (fail_if_success (with_reducible show wpAny _ _ (call (Value.ref 85) [_, _, _, _, _, _]) _ _ _))); k_dflt (refine code_made (by k_asm) (by k_asm) (by k_asm) (by k_asm) (by k_asm) (by exact rfl) (by ktr_room) (by ktr_units) (by k_mem) (by k_mem) (by k_mem) (by omega) ?_); (intro _ _ _ _ _ _ _ _ _ _ _ _ _ _ _); (try dsimp only); (try k_fold))) | (with_reducible (k_here; (fail_if_success (fail_if_success (with_reducible show wpAny _ _ (call (Value.ref _) [_]) _ _ _))); k_dflt (refine CtrE.same (by k_asm) (by k_asm) (by k_asm) (by k_asm) (by k_asm) (by exact rfl) (by ktr_room) (by ktr_units) (by assumption) (checked_ctr (by k_mem) (by k_mem) (by k_mem) (by assumption) (by k_mem) (by k_mem) (by rfl) (by (refine rowsAt_mono ?_ (by assumption); intro _ _; k_mem))) ?_ ?_); (intro _ _ _ _ _ _); (try dsimp only); (try k_fold); rotate_left; (intro _ _ _ _ _ _ _ _); (try dsimp only); rotate_right)) | (with_reducible (k_here; (fail_if_success (fail_if_success (with_reducible show wpAny _ _ (call (Value.ref _) [_, _]) _ _ _))); k_dflt (refine Ctr.same (by k_asm) (by k_asm) (by k_asm) (by k_asm) (by k_asm) (by exact rfl) (by ktr_room) (by ktr_units) (right_ctr (by k_mem) (by (refine DmAll.mono ?_ (by assumption); intro _ _; k_mem)) (by assumption) (by assumption) (by assumption) (by assumption) (by assumption) (by assumption) (by assumption)) ?_); (intro _ _ _ _ _); (try dsimp only); (try k_fold)))) | ((fail_if_success (fail_if_success (with_reducible show wpAny _ _ (binaryOp _ _ _) _ _ _))); first | ((fail_if_success (fail_if_success (with_reducible show wpAny _ _ (binaryOp .Add (Value.ref _) (Value.ref _)) _ _ _))); with_reducible (k_here; k_dflt (refine addA (by k_asm) (by k_asm) (by k_mem) (by k_mem) (by exact Nat.le_of_ble_eq_true rfl) ?_); intro _ _ _ _ _))) | ((fail_if_success (fail_if_success (with_reducible show wpAny _ _ (exec _ _) _ _ _))); first | (with_reducible (k_here; (fail_if_success (fail_if_success (with_reducible show wpAny _ _ (exec (Stmt.Assign _ (Expr.BoolOp _ _ _) _) _) _ _ _))); with_reducible (rename StopMark => mk9); refine stop_rows ?_)) | (with_reducible (k_here; (fail_if_success (fail_if_success (with_reducible show wpAny _ _ (exec (Stmt.Assign _ (Expr.BinOp _ _ _ _) _) _) _ _ _))); with_reducible (rename StopMark => mk9); refine stop_rows ?_))) | walk1 | (dsimp only; walk1) | (leave1; walk_say "STEP leave1"; try dsimp only) | fail "no step"))
        (rename_i kF9 kN9 _ _; exact hret _ [] _ _ kF9 (News.sub kN9 (by intro q9 hq9; have hq8 := hsub q9 hq9; k_mem)) (fun _ _ _ h => nomatch h) ⟨congrArg Value.bool (due_no (by assumption)), rfl⟩)
end
end Mine
end
section
open PySem PySem.W PySem.Spec PySem.Calls PyProof.Rows PyProof.V
namespace Mine
local macro_rules | `(tactic| walk_at "idle 0") => `(tactic| fail)
local macro_rules | `(tactic| walk_at "idle 1") => `(tactic| fail)
set_option pp.deepTerms false
set_option pp.proofs false
set_option maxRecDepth 100000
set_option maxHeartbeats 8000000
/-- written data: a number, a text, a truth value; a tuple of those -/
inductive LitE : Expr → PyData → Prop where
  | int {i k pos} : LitE (.Constant (.int i) k pos) (.int i)
  | str {x k pos} : LitE (.Constant (.str x) k pos) (.str x)
  | bool {b k pos} : LitE (.Constant (.bool b) k pos) (.bool b)
inductive LitAll : List Expr → List PyData → Prop where
  | nil : LitAll [] []
  | cons {e es d ds} : LitE e d → LitAll es ds → LitAll (e :: es) (d :: ds)
inductive PartE : Expr → PyData → Prop where
  | at {e d} : LitE e d → PartE e d
  | tup {es ds k pos} : LitAll es ds → Nat.ble es.length 99 = true → PartE (.Tuple es k pos) (.tuple ds)
inductive PartAll : List Expr → List PyData → Prop where
  | nil : PartAll [] []
  | cons {e es d ds} : PartE e d → PartAll es ds → PartAll (e :: es) (d :: ds)
section
variable {M : Model} {A : Around} {E : Value → Shared → Prop} {env : Env} {pos : Pos}
theorem lit_eval {e : Expr} {d : PyData} (h : LitE e d) {s : Shared} {Q : Value → Shared → Prop} (hq : ∀ v tk, Carried v d → Q v { s with toks := tk }) : wpAny M A (eval e env) Q E s := by
  cases h with
  | int => exact wpAny_Constant_int (hq _ _ (.int _ _))
  | str => exact Calls.Constant_str (hq _ _ (.str _ _))
  | bool => exact wpAny_Constant_bool (hq _ s.toks (.bool _))
theorem lit_each {e : Expr} {d : PyData} (h : LitE e d) {rest : List Expr} : starEach (e :: rest) env = (false, eval e env) :: starEach rest env := by
  cases h <;> rfl
theorem lits_eval {es : List Expr} {ds : List PyData} (h : LitAll es ds) : ∀ {s : Shared} {Q : List Value → Shared → Prop}, (∀ vs tk, CarriedAll vs ds → Q vs { s with toks := tk }) → wpAny M A (spliced (backTo pos (starEach es env))) Q E s := by
  induction h with
  | nil => intro s Q hq; exact args_nil (hq [] s.toks .nil)
  | cons a _ ih =>
    intro s Q hq
    refine args_cons (lit_eval a fun v tk hv => ?_) (lit_each a)
    exact ih fun vs tk' hvs => hq _ _ (.cons hv hvs)
end
theorem CarriedAll.dm {l : List (Addr × Obj)} : ∀ {vs ds}, CarriedAll vs ds → DmAll l vs ds
  | _, _, .nil => .nil
  | _, _, .cons a b => .cons (.at a) (CarriedAll.dm b)
theorem CarriedAll.length_eq : ∀ {vs ds}, CarriedAll vs ds → vs.length = ds.length
  | _, _, .nil => rfl
  | _, _, .cons _ b => by simp [CarriedAll.length_eq b]
theorem lits_len {es : List Expr} {ds : List PyData} (h : LitAll es ds) : es.length = ds.length := by
  induction h with
  | nil => rfl
  | cons _ _ ih => simp [ih]
section
variable {M : Model} {A : Around} {E : Value → Shared → Prop} {env : Env} {pos : Pos} {h₀ : Heap} {L : Addr} {m : Str → Option Value}
theorem part_eval {e : Expr} {d : PyData} (h : PartE e d) {s : Shared} {news : List (Addr × Obj)} {Q : Value → Shared → Prop} (F : Fr h₀ L s.heap m) (N : News h₀ L s.heap news)
    (hq : ∀ v l h' tk, Fr h₀ L h' m → News h₀ L h' l → (∀ q ∈ news, q ∈ l) → Dm l v d → Q v { s with heap := h', toks := tk }) : wpAny M A (eval e env) Q E s := by
  cases h with
  | «at» a => exact lit_eval a fun v tk hv => hq v news s.heap tk F N (fun _ h => h) (.at hv)
  | tup a b =>
    refine Tuple_ (lits_eval a fun vs tk hvs => ?_)
    refine kup_newTuple (s := { s with toks := tk }) F N (fun D h' F' N' _ => hq _ _ h' tk F' N' (fun _ h => .tail _ h) (.tup (n := 0) (.head _) hvs)) ?_
    have := Nat.le_of_ble_eq_true b
    rw [CarriedAll.length_eq hvs, ← lits_len a, sizeLine_eq]
    omega
theorem part_each {e : Expr} {d : PyData} (h : PartE e d) {rest : List Expr} : starEach (e :: rest) env = (false, eval e env) :: starEach rest env := by
  cases h with
  | «at» a => exact lit_each a
  | tup a b => rfl
theorem parts_eval {es : List Expr} {ds : List PyData} (h : PartAll es ds) : ∀ {s : Shared} {news : List (Addr × Obj)} {Q : List Value → Shared → Prop}, Fr h₀ L s.heap m → News h₀ L s.heap news →
    (∀ vs l h' tk, Fr h₀ L h' m → News h₀ L h' l → (∀ q ∈ news, q ∈ l) → DmAll l vs ds → Q vs { s with heap := h', toks := tk }) → wpAny M A (spliced (backTo pos (starEach es env))) Q E s := by
  induction h with
  | nil => intro s news Q F N hq; exact args_nil (hq [] news s.heap s.toks F N (fun _ h => h) .nil)
  | cons a _ ih =>
    intro s news Q F N hq
    refine args_cons (part_eval a F N fun v l h' tk F' N' hs hv => ?_) (part_each a)
    exact ih (s := { s with heap := h', toks := tk }) F' N' fun vs l' h'' tk' F'' N'' hs' hvs => hq _ l' h'' tk' F'' N'' (fun q h => hs' q (hs q h)) (.cons (hv.mono hs') hvs)
theorem parts_len {es : List Expr} {ds : List PyData} (h : PartAll es ds) : es.length = ds.length := by
  induction h with
  | nil => rfl
  | cons _ _ ih => simp [ih]
end
end Mine
end
section
open PySem PySem.W PySem.Spec PySem.Calls PyProof.Rows PyProof.V
namespace Mine
set_option pp.deepTerms false
set_option pp.proofs false
set_option maxRecDepth 100000
set_option maxHeartbeats 8000000
/-- the law's twenty-one sorts: the row's word, its parts, its letters -/
def sortT : List (Str × List PyData × Str) := [
  (Str.ofString "move", [.int 1, .int 2], Str.ofString "rr"),
  (Str.ofString "const", [.int 0, .tuple [.str (Str.ofString "nothing")]], Str.ofString "ra"),
  (Str.ofString "global", [.int 1, .str (Str.ofString "x")], Str.ofString "ra"),
  (Str.ofString "setglobal", [.str (Str.ofString "x"), .int 3], Str.ofString "ar"),
  (Str.ofString "static", [.int 2, .str (Str.ofString "T.1")], Str.ofString "rv"),
  (Str.ofString "capture", [.int 1, .int 1], Str.ofString "rh"),
  (Str.ofString "call", [.int 0, .int 1, .tuple [.int 2, .int 3]], Str.ofString "rrt"),
  (Str.ofString "splat", [.int 1, .int 0, .tuple [.int 2, .int 1], .tuple [.bool true, .bool false]], Str.ofString "rrtm"),
  (Str.ofString "kwcall", [.int 3, .int 2, .tuple [.str (Str.ofString "k"), .str (Str.ofString "l")], .tuple [.int 1, .int 0], .tuple [.int 2]], Str.ofString "rrntt"),
  (Str.ofString "closure", [.int 1, .str (Str.ofString "#1"), .tuple [.int 3]], Str.ofString "rat"),
  (Str.ofString "box", [.int 2], Str.ofString "r"),
  (Str.ofString "unbox", [.int 1, .int 0, .str (Str.ofString "x")], Str.ofString "rra"),
  (Str.ofString "setbox", [.int 1, .int 3], Str.ofString "rr"),
  (Str.ofString "clear", [.int 2], Str.ofString "r"),
  (Str.ofString "goto", [.int 1], Str.ofString "g"),
  (Str.ofString "unless", [.int 1, .int 2], Str.ofString "rg"),
  (Str.ofString "caught", [.int 3], Str.ofString "r"),
  (Str.ofString "defined", [.int 0, .str (Str.ofString "x")], Str.ofString "ra"),
  (Str.ofString "method", [.str (Str.ofString "f"), .int 1, .str (Str.ofString "m")], Str.ofString "ara"),
  (Str.ofString "invoke", [.int 2, .int 4, .tuple [.int 1, .int 0]], Str.ofString "rat"),
  (Str.ofString "guard", [.int 7, .int 1], Str.ofString "ag")]
def SortOne (l : List (Addr × Obj)) (v : Value) (e : Str × List PyData × Str) : Prop :=
  ∃ P R t tl ps n1 n2, v = .ref P ∧ (P, tupO [.ref R, .str e.2.2 tl] n1) ∈ l ∧ (R, tupO (.str e.1 t :: ps) n2) ∈ l ∧ DmAll l ps e.2.1
inductive AllSort (l : List (Addr × Obj)) : List Value → List (Str × List PyData × Str) → Prop where
  | nil : AllSort l [] []
  | cons {v vs e es} : SortOne l v e → AllSort l vs es → AllSort l (v :: vs) (e :: es)
theorem AllSort.get {l : List (Addr × Obj)} {e : Str × List PyData × Str} : ∀ {vs es} {j : Nat}, AllSort l vs es → es[j]? = some e → ∃ v, vs[j]? = some v ∧ SortOne l v e
  | _, _, 0, .cons a _, h => ⟨_, rfl, by simp at h; exact h ▸ a⟩
  | _, _, j + 1, .cons _ b, h => b.get (j := j) (by simpa using h)
theorem AllSort.len {l : List (Addr × Obj)} : ∀ {vs es}, AllSort l vs es → vs.length = es.length
  | _, _, .nil => rfl
  | _, _, .cons _ b => by simp [b.len]
/-- a contract whose ledger is any that holds the old one -/
abbrev CtrG (w : World) (p : Program) (loose : List Str) (mean : ExcName → Option Value) (mg mb : Str → Option Value) (k : Nat) (f : Addr) (news : List (Addr × Obj)) (vs : List Value) (Post : Value → List (Addr × Obj) → Prop) : Prop :=
  ∀ (dp un : Nat) (gd : Option (List Code)) (cn : Str) (cs : Scope) (a : Addr) (ccd : Value) (cl : List (Str × Addr)) (outer : List Env) (A₀ : Around) (base h₀ : Heap) (L : Addr) (m : Str → Option Value) (s : Shared)
    (Q E : Value → Shared → Prop), Below A₀ base outer h₀ → Fr h₀ L s.heap m → (Mine.frame.heap_1 w.params).In h₀ → News h₀ L s.heap news → Top p loose mean mg mb h₀ → cs.kind = .function → dp + k < recursionLimit → un + 8 * k < cLine →
    (∀ r l h' tk', Fr h₀ L h' m → News h₀ L h' l → (∀ q ∈ news, q ∈ l) → Post r l → Q r { s with heap := h', toks := tk' }) →
    wpAny (model prog w) (ktrTop dp un gd cn cs L a ccd cl outer) (call (.ref f) vs) Q E s
section
variable {w : World} {p : Program} {loose : List Str} {mean : ExcName → Option Value} {mg mb : Str → Option Value}
theorem SortOne.mono {l l' : List (Addr × Obj)} (h : ∀ q ∈ l, q ∈ l') {v : Value} {e : Str × List PyData × Str} : SortOne l v e → SortOne l' v e
  | ⟨P, R, t, tl, ps, n1, n2, a, b, c, d⟩ => ⟨P, R, t, tl, ps, n1, n2, a, h _ b, h _ c, d.mono h⟩
theorem AllSort.mono {l l' : List (Addr × Obj)} (h : ∀ q ∈ l, q ∈ l') : ∀ {vs es}, AllSort l vs es → AllSort l' vs es
  | _, _, .nil => .nil
  | _, _, .cons a b => .cons (a.mono h) (b.mono h)
/-- a sort as it is written -/
inductive SortsE : List Expr → List (Str × List PyData × Str) → Prop where
  | nil : SortsE [] []
  | cons {op ls ps ds es tbl k1 k2 k3 k4 p1 p2 p3 p4} : PartAll ps ds → Nat.ble ps.length 99 = true → SortsE es tbl → SortsE (.Tuple [.Tuple (.Constant (.str op) k1 p1 :: ps) k2 p2, .Constant (.str ls) k3 p3] k4 p4 :: es) ((op, ds, ls) :: tbl)
theorem sorts_eval {M : Model} {A : Around} {E : Value → Shared → Prop} {env : Env} {pos : Pos} {h₀ : Heap} {L : Addr} {m : Str → Option Value} {es : List Expr} {tbl : List (Str × List PyData × Str)} (h : SortsE es tbl) : ∀ {s : Shared} {news : List (Addr × Obj)} {Q : List Value → Shared → Prop}, Fr h₀ L s.heap m → News h₀ L s.heap news →
    (∀ vs l h' tk, Fr h₀ L h' m → News h₀ L h' l → (∀ q ∈ news, q ∈ l) → AllSort l vs tbl → Q vs { s with heap := h', toks := tk }) → wpAny M A (spliced (backTo pos (starEach es env))) Q E s := by
  induction h with
  | nil => intro s news Q F N hq; exact args_nil (hq [] news s.heap s.toks F N (fun _ h => h) .nil)
  | @cons op ls ps ds es tbl k1 k2 k3 k4 p1 p2 p3 p4 a b _ ih =>
    intro s news Q F N hq
    refine args_cons ?_ rfl
    refine Tuple_ (args_cons ?_ rfl)
    refine Tuple_ (args_cons ?_ rfl)
    refine Calls.Constant_str ?_
    refine parts_eval a (s := { s with toks := s.toks + 1 }) F N fun ps' l h' tk F1 N1 s1 hd => ?_
    refine kup_newTuple (s := { s with heap := h', toks := tk }) F1 N1 (fun R h2 F2 N2 l2 => ?_) ?_
    · refine args_cons (Calls.Constant_str (args_nil ?_)) rfl
      refine kup_newTuple (s := { s with heap := h2, toks := tk + 1 }) F2 N2 (fun P h3 F3 N3 l3 => ?_) (by simp [sizeLine_eq])
      refine ih (s := { s with heap := h3, toks := tk + 1 }) F3 N3 fun vs l' h4 tk4 F4 N4 s4 hA => ?_
      refine hq _ l' h4 tk4 F4 N4 (fun q hq' => s4 q (.tail _ (.tail _ (s1 q hq')))) (.cons ⟨P, R, _, _, ps', 0, 0, rfl, s4 _ (.head _), s4 _ (.tail _ (.head _)), hd.mono fun q hq' => s4 q (.tail _ (.tail _ hq'))⟩ hA)
    · have := Nat.le_of_ble_eq_true b
      have e1 := parts_len a
      have e2 := hd.len
      rw [List.length_cons, sizeLine_eq]
      omega
theorem sortsL_ctr {news : List (Addr × Obj)} : CtrG w p loose mean mg mb 2 174 news [] (fun v l => ∃ S vs k, v = .ref S ∧ (S, lstO vs k) ∈ l ∧ AllSort l vs sortT) := by
  (intro dp un gd cn cs a ccd cl outer A₀ base h₀ L m s Q E B F X N T hk hd hu hret
   refine wpAny_call ?_
   k_dflt (refine' code_def (binds := []) ?k1 ?k2 ?k3 ?k4 ?k5 ?kA ?kF ?kK ?k6 ?k7 ?k8 ?k9 ?kB ?_ ?c2 ?c3 ?c4 ?c5; (case kA => exact rfl); (case kF => exact rfl); (case kK => assumption); (case k1 => k_asm); (case k2 => k_asm); (case k3 => k_asm); (case k4 => k_asm); (case k5 => k_asm); (case k6 => k_is); (case k7 => k_is); (case k8 => ktr_room); (case k9 => exact BindsTo.of_eq rfl); (case c5 => decide); (case kB => exact locs rfl); (case c2 => exact rfl); (case c3 => exact rfl); (case c4 => exact rfl); k_whole)
   intro g' L' h' FG' F' N' B' X' T'
   (try dsimp only)
   (try k_fold))
  iterate 3 walk1
  with_reducible refine List_ ?_
  with_reducible refine sorts_eval (tbl := sortT) (s := _) ?Z F' N' ?_
  case Z =>
    unfold sortT
    repeat' (with_reducible first
      | exact SortsE.nil
      | exact PartAll.nil
      | exact LitAll.nil
      | exact LitE.int
      | exact LitE.str
      | exact LitE.bool
      | refine SortsE.cons ?_ rfl ?_
      | refine PartAll.cons (.tup ?_ rfl) ?_
      | refine PartAll.cons (.at ?_) ?_
      | refine LitAll.cons ?_ ?_)
  intro vs l h1 tk1 F1 N1 s1 hA
  refine newList_K (s := { s with heap := h1, toks := tk1 }) F1 N1 (fun S h2 F2 N2 l2 => ?_) (by rw [hA.len, sizeLine_eq]; decide +kernel)
  k_steps
  rename_i kF9 kN9 _ _
  exact hret _ _ _ _ kF9 kN9 (fun q hq => .tail _ (s1 q hq)) ⟨_, _, _, rfl, .head _, hA.mono fun q hq => .tail _ hq⟩
end
end Mine
end
section
open PySem PySem.W PySem.Spec PySem.Calls PyProof.Rows PyProof.V
namespace Mine
local macro_rules | `(tactic| walk_at "idle 0") => `(tactic| fail)
set_option pp.deepTerms false
set_option pp.proofs false
set_option maxRecDepth 100000
set_option maxHeartbeats 8000000
theorem log64 : ∀ m, m < 64 → ((m : Nat) : Int).natAbs.log2 < 9000 := by decide +kernel
local macro_rules | `(tactic| k_all) => `(tactic| with_reducible assumption)
section
variable {w : World} {p : Program} {loose : List Str} {mean : ExcName → Option Value} {mg mb : Str → Option Value}
/-- one draw from the tray -/
theorem laid_ctr {tr : Addr} {a b c : Int} {ta tb tc tm : Tok} {k many : Nat} {rest : List (Addr × Obj)} (ha : 0 ≤ a) (hb : 0 ≤ b) (hm : 0 < many) (hm64 : many < 64) (hne : ∀ q ∈ rest, q.1 ≠ tr) :
  ∀ (dp un : Nat) (gd : Option (List Code)) (cn : Str) (cs : Scope) (aa : Addr) (ccd : Value) (cl : List (Str × Addr)) (outer : List Env) (A₀ : Around) (base h₀ : Heap) (L : Addr) (m : Str → Option Value) (s : Shared)
    (Q E : Value → Shared → Prop), Below A₀ base outer h₀ → Fr h₀ L s.heap m → (Mine.frame.heap_1 w.params).In h₀ → News h₀ L s.heap ((tr, lstO [.int a ta, .int b tb, .int c tc] k) :: rest) → Top p loose mean mg mb h₀ → cs.kind = .function → dp + 2 < recursionLimit → un + 8 * 2 < cLine →
    (∀ (v : Nat) (a' b' : Int) tv ta' tb' k' h' tk', v < many → 0 ≤ a' → 0 ≤ b' → Fr h₀ L h' m → News h₀ L h' ((tr, lstO [.int a' ta', .int b' tb', .int c tc] k') :: rest) → Q (.int ((v : Nat) : Int) tv) { s with heap := h', toks := tk' }) →
    wpAny (model prog w) (ktrTop dp un gd cn cs L aa ccd cl outer) (call (.ref 167) [.ref tr, .int ((many : Nat) : Int) tm]) Q E s := by
  intro dp un gd cn cs aa ccd cl outer A₀ base h₀ L m s Q E B F X N T hk hd hu hret
  have hlog := log64 many hm64
  have hm0 : ((many : Nat) : Int) ≠ 0 := by omega
  refine wpAny_call ?_
  k_dflt (refine' code_def (binds := [(Str.ofString "tray", .ref tr), (Str.ofString "many", .int ((many : Nat) : Int) tm)]) ?k1 ?k2 ?k3 ?k4 ?k5 ?kA ?kF ?kK ?k6 ?k7 ?k8 ?k9 ?kB ?_ ?c2 ?c3 ?c4 ?c5; (case kA => exact rfl); (case kF => exact rfl); (case kK => assumption); (case k1 => k_asm); (case k2 => k_asm); (case k3 => k_asm); (case k4 => k_asm); (case k5 => k_asm); (case k6 => k_is); (case k7 => k_is); (case k8 => ktr_room); (case k9 => exact BindsTo.of_eq rfl); (case c5 => decide); (case kB => exact locs rfl); (case c2 => exact rfl); (case c3 => exact rfl); (case c4 => exact rfl); k_whole)
  intro g' L' h' FG' F' N' B' X' T'
  (try dsimp only)
  (try k_fold)
  (repeat' (first | (k_unfold; (try dsimp only)) | (k_end; wrow_close) | ((fail_if_success (fail_if_success (with_reducible show wpAny _ _ (binaryOp _ _ _) _ _ _))); first | ((fail_if_success (fail_if_success (with_reducible show wpAny _ _ (binaryOp .FloorDiv _ _) _ _ _))); with_reducible (k_here; k_dflt (refine floordiv_int (by assumption) ?_ (Or.inl (PyProof.noPylong_of_log2 (by assumption))))))) | walk1 | (dsimp only; walk1) | (leave1; walk_say "STEP leave1"; try dsimp only) | fail "no step"))
  · rename_i kF9 kN9 _ _
    exact hret 0 a b _ ta tb k _ _ hm ha hb kF9 kN9
  · rename_i kF9 kN9 _ _
    have hpos : (0 : Int) < ((many : Nat) : Int) := by omega
    refine Eq.subst (motive := fun z => Q (.int z _) _) (Int.toNat_of_nonneg (Int.fmod_nonneg_of_pos _ hpos)) (hret _ (a.fdiv ((many : Nat) : Int)) ((b * 7951 + 449).fmod 1998107) _ _ _ _ _ _ ?_ ?_ ?_ kF9 kN9)
    · have h1 := Int.fmod_nonneg_of_pos (([a, ([a, b, c].getD (Int.toNat 1) 0 * 7951 + 449).fmod 1998107, c].getD (Int.toNat 0) 0 + ([a, ([a, b, c].getD (Int.toNat 1) 0 * 7951 + 449).fmod 1998107, c].getD (Int.toNat 1) 0).fdiv 127)) hpos
      have h2 := Int.fmod_lt_of_pos (([a, ([a, b, c].getD (Int.toNat 1) 0 * 7951 + 449).fmod 1998107, c].getD (Int.toNat 0) 0 + ([a, ([a, b, c].getD (Int.toNat 1) 0 * 7951 + 449).fmod 1998107, c].getD (Int.toNat 1) 0).fdiv 127)) hpos
      omega
    · exact Int.fdiv_nonneg ha (Int.le_of_lt hpos)
    · exact Int.fmod_nonneg_of_pos _ (by decide)
/-- the tray of a place of the script -/
theorem tray_ctr {l : Addr} {vs : List Value} {ns : List Int} {i : Nat} {ti : Tok} {news : List (Addr × Obj)} :
  ∀ (dp un : Nat) (gd : Option (List Code)) (cn : Str) (cs : Scope) (aa : Addr) (ccd : Value) (cl : List (Str × Addr)) (outer : List Env) (A₀ : Around) (base h₀ : Heap) (L : Addr) (m : Str → Option Value) (s : Shared)
    (Q E : Value → Shared → Prop), Below A₀ base outer h₀ → Fr h₀ L s.heap m → (Mine.frame.heap_1 w.params).In h₀ → News h₀ L s.heap news → Top p loose mean mg mb h₀ → cs.kind = .function → dp + 2 < recursionLimit → un + 8 * 2 < cLine →
    h₀.IsList l vs.toArray → IntsAre vs ns → ns.length ≤ 63 →
    (∀ (tr : Addr) (a b c : Int) ta tb tc k h' tk', 0 ≤ a → 0 ≤ b → Fr h₀ L h' m → News h₀ L h' ((tr, lstO [.int a ta, .int b tb, .int c tc] k) :: news) → (∀ q ∈ news, q.1 < tr) → Q (.ref tr) { s with heap := h', toks := tk' }) →
    wpAny (model prog w) (ktrTop dp un gd cn cs L aa ccd cl outer) (call (.ref 160) [.ref l, .int ((i : Nat) : Int) ti]) Q E s := by
  intro dp un gd cn cs aa ccd cl outer A₀ base h₀ L m s Q E B F X N T hk hd hu hl hi hz hret
  refine wpAny_call ?_
  k_dflt (refine' code_def (binds := [(Str.ofString "script", .ref l), (Str.ofString "k", .int ((i : Nat) : Int) ti)]) ?k1 ?k2 ?k3 ?k4 ?k5 ?kA ?kF ?kK ?k6 ?k7 ?k8 ?k9 ?kB ?_ ?c2 ?c3 ?c4 ?c5; (case kA => exact rfl); (case kF => exact rfl); (case kK => assumption); (case k1 => k_asm); (case k2 => k_asm); (case k3 => k_asm); (case k4 => k_asm); (case k5 => k_asm); (case k6 => k_is); (case k7 => k_is); (case k8 => ktr_room); (case k9 => exact BindsTo.of_eq rfl); (case c5 => decide); (case kB => exact locs rfl); (case c2 => exact rfl); (case c3 => exact rfl); (case c4 => exact rfl); k_whole)
  intro g' L' h' FG' F' N' B' X' T'
  (try dsimp only)
  (try k_fold)
  have hl' : g'.IsList l vs.toArray := hl.at fun o e => FG'.keep _ o e
  (repeat' (first | (k_unfold; (try dsimp only)) | (k_end; wrow_close) | ((fail_if_success (fail_if_success (with_reducible show wpAny _ _ (binaryOp _ _ _) _ _ _))); first | ((fail_if_success (fail_if_success (with_reducible show wpAny _ _ (binaryOp .FloorDiv _ _) _ _ _))); with_reducible (k_here; k_dflt (refine floordiv_int (by assumption) ?_ (Or.inl (PyProof.noPylong_of_log2 (by assumption))))))) | walk1 | (dsimp only; walk1) | (leave1; walk_say "STEP leave1"; try dsimp only) | fail "no step"))
  · rename_i l9 kF9 kN9 _ _
    exact hret _ _ _ _ _ _ _ _ _ _ (by split <;> omega) (Int.fmod_nonneg_of_pos _ (by decide)) kF9 kN9 l9
  · rename_i l9 kF9 kN9 _ _
    exact hret _ 0 _ 0 _ _ _ _ _ _ (Int.le_refl 0) (Int.fmod_nonneg_of_pos _ (by decide)) kF9 kN9 l9
end
end Mine
end
section
open PySem PySem.W PySem.Spec PySem.Calls PyProof.Rows PyProof.V
namespace Mine
set_option pp.deepTerms false
set_option pp.proofs false
set_option maxRecDepth 100000
set_option maxHeartbeats 8000000
/-- the letters of a row's word -/
def shapeT : List (Str × Str) := [(Str.ofString "move", Str.ofString "ds"), (Str.ofString "const", Str.ofString "dx"), (Str.ofString "global", Str.ofString "dx"), (Str.ofString "setglobal", Str.ofString "xs"), (Str.ofString "static", Str.ofString "dx"), (Str.ofString "capture", Str.ofString "dx"),
  (Str.ofString "call", Str.ofString "dsm"), (Str.ofString "splat", Str.ofString "dsmx"), (Str.ofString "kwcall", Str.ofString "dsxmm"), (Str.ofString "closure", Str.ofString "dxm"), (Str.ofString "box", Str.ofString "d"), (Str.ofString "unbox", Str.ofString "dsx"), (Str.ofString "setbox", Str.ofString "ss"),
  (Str.ofString "clear", Str.ofString "d"), (Str.ofString "goto", Str.ofString "g"), (Str.ofString "unless", Str.ofString "sg"), (Str.ofString "caught", Str.ofString "d"), (Str.ofString "defined", Str.ofString "sx"), (Str.ofString "method", Str.ofString "xsx"), (Str.ofString "invoke", Str.ofString "dxm"), (Str.ofString "guard", Str.ofString "xg")]
def rowsAll (rd : Rd) : Bool := rowAll rd 0 && (rowAll rd 1 && (rowAll rd 2 && rowAll rd 3))
/-- all that the walks ask of a row at a place, and that the law's rule and the code's check agree on it -/
def chkAt (op x : Str) (ds : List PyData) (ls : Str) (pl : Nat) : Bool :=
  rowF op x ds pl && (rowsAll (rdOf (op, x, ds) pl) == rightD (.str op :: ds) ls)
def chk (op x : Str) (ds : List PyData) (ls : Str) : Bool :=
  decide (x.cps.size = ds.length) && (decide (0 < ds.length) && (decide (ds.length < 100) && (rightF op ds ls && (chkAt op x ds ls 0 && (chkAt op x ds ls 1 && chkAt op x ds ls 2)))))
/-- the parts that the law puts in -/
def partT : List PyData := [.int 4, .int (-1), .str (Str.ofString "0"), .tuple [.int 0, .int 1], .list [.int 0], .tuple [.int 0, .str (Str.ofString "1")], .tuple [.int 0, .int 1, .int 2]]
/-- a row's parts with the part behind letter k + 1 put in -/
def putD (ds : List PyData) (k : Nat) (d : PyData) : List PyData := ds.take k ++ d :: ds.drop (k + 1)
def noList (d : PyData) : Bool := match d with | .list _ => false | _ => true
def chkSort (e : Str × List PyData × Str) : Bool := match shapeT.lookup e.1 with
  | none => false
  | some x => e.2.1.all noList && (decide (e.2.2.cps.size = e.2.1.length) && (decide (e.2.2.cps.size < 60) && (chk e.1 x e.2.1 e.2.2 && (List.range e.2.1.length).all fun k => partT.all fun d => chk e.1 x (putD e.2.1 k d) e.2.2)))
theorem chk_all : sortT.all chkSort = true := by decide +kernel
theorem chk_first : chk (Str.ofString "move") (Str.ofString "ds") [.int 1, .str (Str.ofString "2")] (Str.ofString "rr") = true := by decide +kernel
theorem chk_second : chk (Str.ofString "goto") (Str.ofString "g") [.str (Str.ofString "1")] (Str.ofString "g") = true := by decide +kernel
end Mine
end
section
open PySem PySem.W PySem.Spec PySem.Calls PyProof.Rows PyProof.V
namespace Mine
local macro_rules | `(tactic| walk_at "idle 0") => `(tactic| fail)
set_option pp.deepTerms false
set_option pp.proofs false
set_option maxRecDepth 100000
set_option maxHeartbeats 8000000
section
variable {w : World} {A : Around} {E : Value → Shared → Prop} {s : Shared}
theorem adjust_to (a n : Nat) (ha : a ≤ n) : Builtin.Slice.sliceAdjust none (some (a : Int)) 1 (n : Int) = ((0 : Int), (a : Int)) := by
  unfold Builtin.Slice.sliceAdjust
  have h1 : ¬ ((1 : Int) < 0) := by omega
  have h2 : ¬ ((a : Int) < 0) := by omega
  simp only [h1, h2, if_false]
  congr 1
  omega
theorem places_to (a : Nat) : Builtin.Slice.slicePlaces (0 : Int) (a : Int) 1 = a := by
  unfold Builtin.Slice.slicePlaces
  have h1 : (1 : Int) > 0 := by omega
  simp only [h1, if_true, Int.ediv_one]
  split <;> omega
theorem applied_to {sl : Addr} {a n : Nat} {u : Tok} {Q : Int × Int × Nat → Shared → Prop} (hs : s.heap.IsSliceOf sl .none (.int a u) .none) (ha : a ≤ n) (h : Q ((0 : Int), 1, a) s) :
    wpAny (model prog w) A (Builtin.Slice.sliceApplied (.ref sl) (pure (n : Int))) Q E s := by
  obtain ⟨os, hos, hcs, hds⟩ := id hs
  unfold Builtin.Slice.sliceApplied Builtin.Slice.sliceFields
  refine wpAny_bind (wpAny_bind (wpAny_field hos hds (x := .none) rfl (wpAny_bind (wpAny_field hos hds (x := .int a u) rfl (wpAny_bind (wpAny_field hos hds (x := .none) rfl (wpAny_pure ?_)))))))
  refine wpAny_bind (slicePart_none ?_)
  show wpAny _ _ (if ((1 : Int) == 0) = true then _ else _) _ _ s
  rw [if_neg (by decide)]
  refine wpAny_bind (slicePart_none (wpAny_bind (slicePart_int (wpAny_bind (wpAny_pure ?_)))))
  show wpAny _ _ (match Builtin.Slice.sliceAdjust none (some (a : Int)) 1 (n : Int) with | (lo, hi) => pure (lo, (1 : Int), Builtin.Slice.slicePlaces lo hi 1)) _ _ s
  rw [adjust_to a n ha]
  show wpAny _ _ (pure ((0 : Int), (1 : Int), Builtin.Slice.slicePlaces (0 : Int) (a : Int) 1)) _ _ s
  rw [places_to a]
  exact wpAny_pure h
theorem pick_to (xs : Array Value) (a : Nat) : ((List.range a).filterMap fun (k : Nat) => xs[((0 : Int) + (k : Int) * 1).toNat]?).toArray = (xs.toList.take a).toArray := by
  have e : (fun (k : Nat) => xs[((0 : Int) + (k : Int) * 1).toNat]?) = fun k => xs[0 + k]? := by
    funext k
    have : ((0 : Int) + (k : Int) * 1).toNat = 0 + k := by omega
    rw [this]
  rw [e]
  have := pick_run xs 0 a
  rw [List.filterMap_map] at this
  have e2 : ((fun x => xs[x]?) ∘ fun x => 0 + x) = fun k => xs[0 + k]? := rfl
  rw [e2] at this
  rw [this, List.drop_zero]
theorem getItem_to {t sl : Addr} {items : Array Value} {a : Nat} {u : Tok} {Q : Value → Shared → Prop} (ht : IsTup s.heap t items) (hs : s.heap.IsSliceOf sl .none (.int a u) .none) (ha : a < items.size)
    (h : Q (.ref s.heap.objs.size) { s with heap := s.heap.push { cls := .type "tuple", data := .seq (items.toList.take a).toArray } })
    (hsz : items.size ≤ sizeLine) : wpAny (model prog w) A (getItem (.ref t) (.ref sl)) Q E s := by
  have htake : sizeOk (.seq (items.toList.take a).toArray) := by
    show (items.toList.take a).toArray.size ≤ sizeLine
    rw [List.size_toArray, List.length_take, Array.length_toList]
    omega
  obtain ⟨os, hos, hcs, hds⟩ := id hs
  have hTs : s.TypeIs (.ref sl) "slice" := ⟨os, hos, hcs⟩
  unfold getItem
  try with_reducible refine wpAny_holding ?_
  first | refine wpAny_bind (wpAny_pure ?_) | skip
  refine wpAny_bind (wpAny_sequenceKey ht.typeIs (by decide) ?_)
  refine wpAny_bind (wpAny_callSpecial?_slot (name := Str.ofString "__getitem__") ht.typeIs slot_tuple_getitem
    (wpAny_call_entry slot_tuple_getitem ht.typeIs entry_tuple_getitem ?_ (args_tuple_getitem _ _)))
  show wpAny _ _ (Builtin.Tuple.tupleItemsOf (.ref t) >>= _) _ _ s
  refine wpAny_bind (tupleItemsOf_ ht ?_)
  refine wpAny_bind (wpAny_typeOf hTs ?_)
  rw [if_pos (by decide)]
  refine wpAny_bind (applied_to hs (Nat.le_of_lt ha) ?_)
  have hno : ¬ (((0 : Int) == 0 && (1 : Int) == 1 && a == items.size) = true) := by
    have : (a == items.size) = false := by rw [beq_eq_false_iff_ne]; omega
    rw [this]; simp
  show wpAny _ _ (if ((0 : Int) == 0 && (1 : Int) == 1 && a == items.size) = true then _ else _) _ _ s
  rw [if_neg hno, pick_to items a]
  first
    | exact wpAny_bind (m := Builtin.Tuple.tupleExact _) (wpAny_newObj_type (wpAny_pure ⟨_, rfl, wpAny_pure h⟩) htake)
    | exact wpAny_bind (m := Builtin.Tuple.tupleExact _) (wpAny_newObj_type (wpAny_bind (wpAny_pure (wpAny_pure ⟨_, rfl, wpAny_pure h⟩))) htake)
    | exact wpAny_bind (wpAny_bind (m := Builtin.Tuple.tupleExact _) (wpAny_newObj_type (wpAny_pure (wpAny_pure ⟨_, rfl, wpAny_pure h⟩)) htake))
    | exact wpAny_bind (wpAny_bind (m := Builtin.Tuple.tupleExact _) (wpAny_newObj_type (wpAny_pure ⟨_, rfl, wpAny_pure h⟩) htake))
end
section
variable {w : World} {A : Around} {E : Value → Shared → Prop} {s : Shared} {h₀ : Heap} {L : Addr} {m : Str → Option Value} {news : List (Addr × Obj)}
theorem tup_to {value slice : Expr} {t : Addr} {vs : List Value} {n a : Nat} {u : Tok} {Q : Value → Shared → Prop}
    (F : Fr h₀ L s.heap m) (N : News h₀ L s.heap news) (hm : (t, tupO vs n) ∈ news) (ha : a < vs.length) (hz : vs.length < 200)
    (h : ∀ D h', Fr h₀ L h' m → News h₀ L h' ((D, tupO (vs.take a) 0) :: news) → (∀ q ∈ news, q.1 < D) → Q (.ref D) { s with heap := h' })
    (hs : subscripted slice false (.ref t) (.ref s.heap.objs.size) = operate [.ref s.heap.objs.size, .ref t] (getItem (.ref t) (.ref s.heap.objs.size)) := by with_unfolding_all rfl)
    (hg : ∀ r, letTemporaryGo value (.ref t) r = pure () := by intro _; with_unfolding_all rfl) :
    wpAny (model prog w) A (subscriptTail value slice (.ref t) (.ref s.heap.objs.size)) Q E { s with heap := s.heap.push { cls := .type "slice", data := .fields #[.none, .int a u, .none] } } := by
  have ht : IsTup s.heap t vs.toArray := News.isTup N hm
  have ht' : IsTup (s.heap.push { cls := .type "slice", data := .fields #[.none, .int a u, .none] }) t vs.toArray := ht.keeps fun _ _ e => Heap.get?_push_of_some _ e
  refine subscriptTail_ops (s := { s with heap := s.heap.push { cls := .type "slice", data := .fields #[.none, .int a u, .none] } }) ht'.typeIs slot_tuple_getitem.lookup
    (getItem_to ht' (Heap.IsSliceOf.new ..) (by simpa using ha) ?_ (by rw [sizeLine_eq, List.size_toArray]; omega)) hs hg
  have N1 := News.push (F.push { cls := .type "slice", data := .fields #[.none, .int a u, .none] }) (N.grown fun _ _ e => Heap.get?_push_of_some _ e) { cls := .type "tuple", data := .seq (vs.take a).toArray }
  rw [Heap.size_push] at N1
  show Q (.ref (s.heap.push _).objs.size) _
  rw [Heap.size_push]
  exact h _ _ ((F.push _).push _) N1 fun q hq => Nat.lt_succ_of_lt (Heap.lt_size (N q hq).1)
theorem tup_from {value slice : Expr} {t : Addr} {vs : List Value} {n a : Nat} {u : Tok} {k : Int} {Q : Value → Shared → Prop} (hk : k = ((a : Nat) : Int))
    (F : Fr h₀ L s.heap m) (N : News h₀ L s.heap news) (hm : (t, tupO vs n) ∈ news) (h1 : 1 ≤ a) (ha : a ≤ vs.length) (hz : vs.length < 200)
    (h : ∀ D h', Fr h₀ L h' m → News h₀ L h' ((D, tupO (vs.drop a) 0) :: news) → (∀ q ∈ news, q.1 < D) → Q (.ref D) { s with heap := h' })
    (hs : subscripted slice false (.ref t) (.ref s.heap.objs.size) = operate [.ref s.heap.objs.size, .ref t] (getItem (.ref t) (.ref s.heap.objs.size)) := by with_unfolding_all rfl)
    (hg : ∀ r, letTemporaryGo value (.ref t) r = pure () := by intro _; with_unfolding_all rfl) :
    wpAny (model prog w) A (subscriptTail value slice (.ref t) (.ref s.heap.objs.size)) Q E { s with heap := s.heap.push { cls := .type "slice", data := .fields #[.int k u, .none, .none] } } := by
  subst hk
  refine slice_tuple_from F N (News.isTup N hm) h1 (by simpa using ha) (fun h' F' N' => h _ h' F' (by simpa using N') fun q hq => Nat.lt_succ_of_lt (Heap.lt_size (N q hq).1)) hs hg (by rw [sizeLine_eq, List.size_toArray]; omega)
theorem tup_add {t b : Addr} {vs ws : List Value} {n1 n2 : Nat} {Q : Value → Shared → Prop} (F : Fr h₀ L s.heap m) (N : News h₀ L s.heap news) (ht : (t, tupO vs n1) ∈ news) (hb : (b, tupO ws n2) ∈ news) (hv : vs ≠ []) (hz : vs.length + ws.length < 400)
    (h : ∀ D n h', Fr h₀ L h' m → News h₀ L h' ((D, tupO (vs ++ ws) n) :: news) → Q (.ref D) { s with heap := h' }) : wpAny (model prog w) A (binaryOp .Add (.ref t) (.ref b)) Q E s := by
  refine add_tuples F N (News.isTup N ht) (News.isTup N hb) (fun e => absurd e hv) (fun _ e => ?_) (fun _ _ h' F' N' => h _ 0 h' F' N') (by rw [sizeLine_eq]; omega)
  subst e
  refine h t n1 s.heap F fun q hq => ?_
  rcases List.mem_cons.mp hq with rfl | hq
  · rw [List.append_nil]; exact N _ ht
  · exact N q hq
end
end Mine
end
section
open PySem PySem.W PySem.Spec PySem.Calls PyProof.Rows PyProof.V
namespace Mine
local macro_rules | `(tactic| walk_at "idle 0") => `(tactic| fail)
local macro_rules | `(tactic| walk_at "idle 1") => `(tactic| fail)
set_option pp.deepTerms false
set_option pp.proofs false
set_option maxRecDepth 100000
set_option maxHeartbeats 8000000
theorem shape_all (w : World) : ∀ e ∈ shapeT, ∃ xt, Shp w e.1 e.2 xt := by
  unfold shapeT
  repeat' first
    | exact List.forall_mem_nil _
    | (refine List.forall_mem_cons.mpr ⟨⟨_, by show _ = _; k_dflt k_is⟩, ?_⟩)
theorem lookup_mem {x : Str} {op : Str} : ∀ {l : List (Str × Str)}, l.lookup op = some x → (op, x) ∈ l
  | [], h => nomatch h
  | (a, b) :: r, h => by
    rw [List.lookup_cons] at h
    cases e : op == a with
    | true =>
      rw [e] at h
      rw [eq_of_beq e]
      exact (Option.some.inj h) ▸ .head _
    | false =>
      rw [e] at h
      exact .tail _ (lookup_mem h)
structure RowOK (op x : Str) (ds : List PyData) (ls : Str) : Prop where
  shp : (op, x) ∈ shapeT
  ck : chk op x ds ls = true
structure PartOK (d : PyData) : Prop where
  mem : d ∈ partT
structure EntryOK (op x : Str) (ds : List PyData) (ls : Str) : Prop where
  base : RowOK op x ds ls
  put : ∀ k d, k < ds.length → PartOK d → RowOK op x (putD ds k d) ls
  len : ls.cps.size = ds.length
  sm : ls.cps.size < 60
theorem at_all {ar : Int} {rd : Rd} {r : Bool} (h : (rowsAll rd == r) = true) : (codeD ar rd == (r && (decide (1 ≤ ar) && decide (ar ≤ 4)))) = true := by
  have e : rowsAll rd = r := eq_of_beq h
  subst e
  unfold codeD rowsAll
  cases decide (1 ≤ ar) <;> cases decide (ar ≤ 4) <;> simp
section
variable {w : World} {p : Program} {loose : List Str} {mean : ExcName → Option Value} {mg mb : Str → Option Value}
theorem rr_law {news : List (Addr × Obj)} {r : Addr} {op x ls : Str} {t tl tp ta : Tok} {ps : List Value} {ds : List PyData} {n pl : Nat} {ar : Int} {ip : Int}
    (hip : ip = ((pl : Nat) : Int)) (hpl : pl < 3) (hr : (r, tupO (.str op t :: ps) n) ∈ news) (hp : DmAll news ps ds) (hok : RowOK op x ds ls) :
    CtrL w p loose mean mg mb 24 193 news [.ref r, .str ls tl, .int ip tp, .int ar ta] (fun v tl => v = .bool true ∧ tl = []) := by
  subst hip
  obtain ⟨hx, hc⟩ := hok
  obtain ⟨xt, hs9⟩ := shape_all w _ hx
  have hs : Shp w op x xt := hs9
  simp only [chk, Bool.and_eq_true, decide_eq_true_eq] at hc
  obtain ⟨h1, h2, h3, h4, h5, h6, h7⟩ := hc
  have hat : chkAt op x ds ls pl = true := by
    rcases (show pl = 0 ∨ pl = 1 ∨ pl = 2 by omega) with rfl | rfl | rfl <;> assumption
  simp only [chkAt, Bool.and_eq_true] at hat
  have hln := hp.len
  cases ps with
  | nil => simp only [List.length_nil] at hln; omega
  | cons p0 ps =>
    have hx0 : 0 < x.cps.size := by omega
    intro dp un gd cn cs a ccd cl outer A₀ h₀ L m s Q E B F X N T hk hd hu hgd hret
    exact rr_ctr hr hs (by omega) (by omega) (c0 := x.cps[0]) (by simp [hx0]) hp hpl hat.1 h4 dp un gd cn cs a ccd cl outer A₀ h₀ L m s Q E B F X N T hk hd hu hgd
      fun r tl h' tk' a b c d => hret r tl h' tk' a b c ⟨d.1.trans (congrArg Value.bool (at_all hat.2)), d.2⟩
theorem DmAll.take {n : List (Addr × Obj)} : ∀ (k : Nat) {vs ds}, DmAll n vs ds → DmAll n (vs.take k) (ds.take k)
  | 0, _, _, _ => by simp only [List.take_zero]; exact .nil
  | _ + 1, _, _, .nil => by simp only [List.take_nil]; exact .nil
  | k + 1, _, _, .cons a b => by simp only [List.take_succ_cons]; exact .cons a (b.take k)
theorem DmAll.drop {n : List (Addr × Obj)} : ∀ (k : Nat) {vs ds}, DmAll n vs ds → DmAll n (vs.drop k) (ds.drop k)
  | 0, _, _, h => by simpa using h
  | _ + 1, _, _, .nil => by simp only [List.drop_nil]; exact .nil
  | k + 1, _, _, .cons a b => by simp only [List.drop_succ_cons]; exact b.drop k
theorem rr_base {news : List (Addr × Obj)} {r : Addr} {op x ls : Str} {t tl tp ta : Tok} {ps : List Value} {ds : List PyData} {n pl : Nat} {ar : Int}
    (hpl : pl < 3) (hr : (r, tupO (.str op t :: ps) n) ∈ news) (hp : DmAll news ps ds) (eo : EntryOK op x ds ls) :
    CtrL w p loose mean mg mb 24 193 news [.ref r, .str ls tl, .int ((pl : Nat) : Int) tp, .int ar ta] (fun v tl => v = .bool true ∧ tl = []) := rr_law rfl hpl hr hp eo.base
theorem rr_mut {news : List (Addr × Obj)} {r : Addr} {op x ls : Str} {t tl tp ta : Tok} {ps : List Value} {ds : List PyData} {n pl v : Nat} {ar : Int} {pv : Value} {d : PyData}
    (hpl : pl < 3) (hr : (r, tupO ((List.take v (.str op t :: ps) ++ [pv]) ++ List.drop (v + 1) (.str op t :: ps)) n) ∈ news) (hp : DmAll news ps ds) (eo : EntryOK op x ds ls) (hv0 : 0 < ((v : Nat) : Int)) (hv : v < ls.cps.size + 1) (po : PartOK d) (dm : Dm news pv d) :
    CtrL w p loose mean mg mb 24 193 news [.ref r, .str ls tl, .int ((pl : Nat) : Int) tp, .int ar ta] (fun v tl => v = .bool true ∧ tl = []) := by
  obtain ⟨k, rfl⟩ : ∃ k, v = k + 1 := ⟨v - 1, by omega⟩
  have hln := eo.len
  refine rr_law (ps := (ps.take k ++ [pv]) ++ ps.drop (k + 1)) (ds := putD ds k d) rfl hpl hr ?_ (eo.put k d (by omega) po)
  have e : putD ds k d = (ds.take k ++ [d]) ++ ds.drop (k + 1) := by unfold putD; simp
  rw [e]
  exact ((hp.take k).append (.cons dm .nil)).append (hp.drop (k + 1))
theorem tup_apart {h₀ h : Heap} {L D T : Addr} {vs : List Value} {n k : Nat} {a b c : Int} {ta tb tc : Tok} {news : List (Addr × Obj)} (N : News h₀ L h ((D, tupO vs n) :: news)) (hT : (T, lstO [.int a ta, .int b tb, .int c tc] k) ∈ news) : @Ne Nat D T :=
  news_apart N (.head _) (.tail _ hT) (by simp)
theorem rr_first {news : List (Addr × Obj)} {r : Addr} {t t1 t2 tl tp ta : Tok} {n : Nat} (hr : (r, tupO [.str (Str.ofString "move") t, .int 1 t1, .str (Str.ofString "2") t2] n) ∈ news) :
    CtrL w p loose mean mg mb 24 193 news [.ref r, .str (Str.ofString "rr") tl, .int 0 tp, .int 1 ta] (fun v tl => v = .bool true ∧ tl = []) :=
  rr_law (pl := 0) rfl (by decide) hr (.cons (.at (.int _ _)) (.cons (.at (.str _ _)) .nil)) ⟨.head _, chk_first⟩
theorem rr_second {news : List (Addr × Obj)} {r : Addr} {t t1 tl tp ta : Tok} {n : Nat} (hr : (r, tupO [.str (Str.ofString "goto") t, .str (Str.ofString "1") t1] n) ∈ news) :
    CtrL w p loose mean mg mb 24 193 news [.ref r, .str (Str.ofString "g") tl, .int 1 tp, .int 1 ta] (fun v tl => v = .bool true ∧ tl = []) :=
  rr_law (pl := 1) rfl (by decide) hr (.cons (.at (.str _ _)) .nil) ⟨List.mem_of_getElem? (i := 14) rfl, chk_second⟩
end
section
variable {w : World} {p : Program} {loose : List Str} {mean : ExcName → Option Value} {mg mb : Str → Option Value} {k : Nat} {f : Addr} {news : List (Addr × Obj)} {vs : List Value} {dp un : Nat} {gd : Option (List Code)} {cn : Str} {cs : Scope} {aa : Addr} {ccd : Value} {cl : List (Str × Addr)} {outer : List Env} {A₀ : Around} {base h₀ : Heap} {L : Addr} {m : Str → Option Value} {s : Shared} {Q E : Value → Shared → Prop}
theorem CtrL.same {v : Value} (B : Below A₀ h₀ outer h₀) (F : Fr h₀ L s.heap m) (X : (Mine.frame.heap_1 w.params).In h₀) (N : News h₀ L s.heap news) (T : Top p loose mean mg mb h₀) (hk : cs.kind = .function) (hd : dp + k < recursionLimit) (hu : un + 8 * k < cLine) (hg : gd = some [])
    (C : CtrL w p loose mean mg mb k f news vs fun r tl => r = v ∧ tl = []) (h : ∀ h' tk', Fr h₀ L h' m → News h₀ L h' news → True → Q v { s with heap := h', toks := tk' }) :
    wpAny (model prog w) (ktrTop dp un gd cn cs L aa ccd cl outer) (call (.ref f) vs) Q E s :=
  C dp un gd cn cs aa ccd cl outer A₀ h₀ L m s Q E B F X N T hk hd hu hg fun _ _ _ _ F' N' _ e => by obtain ⟨rfl, rfl⟩ := e; exact h _ _ F' N' trivial
end
def StopFor2 (p : Prop) : Prop := p
theorem stop_for2 {p : Prop} (h : StopFor2 p) : p := h
local macro_rules | `(tactic| walk_at "exec For Name Call cons nil") => `(tactic| (k_here; refine stop_for2 ?_))
section
variable {w : World} {A : Around} {E : Value → Shared → Prop} {s : Shared} {h₀ : Heap} {env : Env} {m₀ : Str → Option Value} {news : List (Addr × Obj)} {x z : Str} {vz : Value} {body : List Stmt} {Q : Flow → Shared → Prop}
/-- the end of a turn of the law's loop: the name z stands, the others may change -/
def TurnS (h₀ : Heap) (L : Addr) (z : Str) (vz : Value) (news : List (Addr × Obj)) (s₁ : Shared) (Qr : Value → Shared → Prop) (f : Flow) (s' : Shared) : Prop := match f with
  | .ret v => Qr v s'
  | .brk => False
  | _ => ∃ h' tk' m', s' = { s₁ with heap := h', toks := tk' } ∧ Fr h₀ L h' m' ∧ m' z = some vz ∧ News h₀ L h' news
theorem turn_next {L : Addr} {h h' : Heap} {g : _} {d : _} {tk tk' : _} {o : _} {m' : Str → Option Value} {l r9 : List (Addr × Obj)} {Qr : Value → Shared → Prop} (F : Fr h₀ L h' m') (hz : m' z = some vz) (N : News h₀ L h' l) (hs : ∀ q ∈ news, q ∈ r9) (hr : ∀ q ∈ r9, q ∈ l) :
    TurnS h₀ L z vz news ⟨h, g, d, tk, o⟩ Qr .next ⟨h', g, d, tk', o⟩ := ⟨_, _, _, rfl, F, hz, fun q hq => N q (hr q (hs q hq))⟩
theorem atLoopS {I : Addr} {fp : List Addr} {n : Nat} {Pv : Nat → Value → Prop} {St : Nat → Heap → Prop}
    (W : Walks prog w A I fp [I] n Pv St) (hIf : I ∈ fp) (hfp : ∀ b ∈ fp, b = I) (hLf : env.locals ∉ fp) (hI₀ : h₀.get? I = none) (hnw : ∀ p ∈ news, p.1 < I) (hSt : ∀ i h, St i h → ∃ o, h.get? I = some o) (hst : St 0 s.heap)
    (F : Fr h₀ env.locals s.heap m₀) (N : News h₀ env.locals s.heap news) (hz : m₀ z = some vz) (hzx : z ≠ x)
    (turn : ∀ i v h tk oI (m : Str → Option Value), i < n → Pv i v → Fr h₀ env.locals h (fun y => if y = x then some v else if y = z then some vz else m y) → News h₀ env.locals h ((I, oI) :: news) → (∀ p ∈ news, p.1 < I) →
      wpAny (model prog w) A (execs body env) (TurnS h₀ env.locals z vz ((I, oI) :: news) { s with heap := h, toks := tk } fun v s' => Q (.ret v) s') E { s with heap := h, toks := tk })
    (done : ∀ h tk m', Fr h₀ env.locals h m' → News h₀ env.locals h news → Q .next { s with heap := h, toks := tk }) :
    LoopAtV prog w A h₀ env x body Q E (.ref I) s := by
  let J : Nat → (Str → Option Value) → List (Addr × Obj) → Prop := fun _ m₁ news₁ => news₁ = news ∧ m₁ z = some vz
  refine ⟨I, fp, [I], n, Pv, St, m₀, news, J, rfl, W, hLf, ?_, ?_, hst, F, N, ⟨rfl, hz⟩, ?_, ?_⟩
  · intro b hb
    rw [List.mem_singleton.mp hb]
    exact hI₀
  · intro p hp hI
    exact absurd (hnw p hp) ((List.mem_singleton.mp hI) ▸ Nat.lt_irrefl _)
  · rintro i v m₁ news₁ s₁ own ⟨hh', tk', rfl⟩ hin hPv ⟨rfl, hJ⟩ hoff h5 _ h7 hs F₁ N₁
    have e : (fun y => if y = x then some v else m₁ y) = fun y => if y = x then some v else if y = z then some vz else m₁ y := by
      funext y
      by_cases h1 : y = x
      · simp [h1]
      · by_cases h2 : y = z
        · subst h2; simp [h1, hJ]
        · simp [h1, h2]
    rw [e] at F₁
    obtain ⟨oI, hoI⟩ := hSt _ _ hs
    have own1 : ∀ p ∈ own, p = (I, oI) := fun p hp => by
      have a := (N₁ p (List.mem_append.mpr (.inl hp))).1
      have q := hfp p.1 (h5 p hp)
      exact Prod.ext q (Option.some.inj (a.symm.trans (q ▸ hoI)))
    have NI : News h₀ env.locals hh' ((I, oI) :: news₁) := fun p hp => by
      rcases List.mem_cons.mp hp with rfl | hp
      · exact N₁ _ (List.mem_append.mpr (.inl (h7 I hIf hI₀ oI hoI)))
      · exact N₁ p (List.mem_append.mpr (.inr hp))
    refine wpAny_mono (turn i v hh' tk' oI m₁ hin hPv F₁ NI hnw) (fun f s₂ p => ?_) fun _ _ e => e
    have fin : (∃ h' tk'' m', s₂ = { s with heap := h', toks := tk'' } ∧ Fr h₀ env.locals h' m' ∧ m' z = some vz ∧ News h₀ env.locals h' ((I, oI) :: news₁)) → LoopStepU h₀ env.locals [I] own (J (i + 1)) { s with heap := hh', toks := tk' } .next s₂ := by
      rintro ⟨h', tk, m', e, F', hz', N'⟩
      refine ⟨rfl, h', tk, _, news₁, e, F', fun p hp => ?_, hoff, rfl, hz'⟩
      rcases List.mem_append.mp hp with hp | hp
      · rw [own1 p hp]; exact N' _ List.mem_cons_self
      · exact N' p (List.mem_cons_of_mem _ hp)
    cases f with
    | ret v => exact .ret p
    | brk => exact p.elim
    | next => exact .next (fin p)
    | cont => exact .cont (fin p)
  · rintro h' tk m' news' F' N' _ ⟨rfl, hJ⟩
    exact done h' tk m' F' N'
theorem rangeLoopS {r : Addr} {a b : Int} {n : Nat} {t u v : Tok} (hh : A.handled = none) (F : Fr h₀ env.locals s.heap m₀) (N : News h₀ env.locals s.heap news) (hz : m₀ z = some vz) (hzx : z ≠ x) (hr : IsRange s.heap r a b 1 t u v) (hsm : Builtin.Range.small a b 1 = true) (hn : Builtin.Range.rangeSize a b 1 = ((n : Nat) : Int))
    (turn : ∀ (i : Nat) t h tk I oI (m : Str → Option Value), i < n → Fr h₀ env.locals h (fun y => if y = x then some (.int (a + (i : Int)) t) else if y = z then some vz else m y) → News h₀ env.locals h ((I, oI) :: news) → (∀ p ∈ news, p.1 < I) →
      wpAny (model prog w) A (execs body env) (TurnS h₀ env.locals z vz ((I, oI) :: news) { s with heap := h, toks := tk } fun v s' => Q (.ret v) s') E { s with heap := h, toks := tk })
    (done : ∀ h tk m', Fr h₀ env.locals h m' → News h₀ env.locals h news → Q .next { s with heap := h, toks := tk }) :
    wpAny (model prog w) A (pyIter (.ref r)) (fun it s₂ => LoopAtV prog w A h₀ env x body Q E it s₂) E s := by
  refine wpAny_pyIter_range hr hsm ?_
  refine atLoopS (LCg.range_walks (prog := prog) (w := w) (I := s.heap.objs.size) hh a n) List.mem_cons_self (fun b hb => List.mem_singleton.mp hb) (fun hm => ?_) (next_is_new F) (fun p hp => Heap.lt_size (N p hp).1) (fun i h st => ⟨_, st⟩) (by show IsRangeIter _ _ _ _ _; rw [hn]; simpa using Heap.get?_push_size _ rfl) (F.push _) (fun p hp => ⟨Heap.get?_push_of_some _ (N p hp).1, (N p hp).2⟩) hz hzx ?_ ?_
  · exact absurd F.ns.lt ((List.mem_singleton.mp hm) ▸ Nat.lt_irrefl _)
  · rintro i v h tk oI m hin ⟨t, rfl⟩ F₁ N₁ l₁
    exact turn i t h tk _ oI m hin F₁ N₁ l₁
  · intro h tk m' F₁ N₁
    exact done h tk m' F₁ N₁
end
section
variable {w : World} {A : Around} {E : Value → Shared → Prop} {s : Shared} {h₀ : Heap} {env : Env} {m₀ : Str → Option Value} {news : List (Addr × Obj)} {x z : Str} {vz : Value} {body : List Stmt} {Q : Flow → Shared → Prop}
theorem rangeLoopB {r : Addr} {b : Int} {t u v : Tok} (hh : A.handled = none) (F : Fr h₀ env.locals s.heap m₀) (N : News h₀ env.locals s.heap news) (hz : m₀ z = some vz) (hzx : z ≠ x) (hr : IsRange s.heap r 0 b 1 t u v) (hb : b = 1 ∨ b = 2)
    (turn : ∀ (i : Nat) t h tk I oI (m : Str → Option Value), Fr h₀ env.locals h (fun y => if y = x then some (.int (0 + (i : Int)) t) else if y = z then some vz else m y) → News h₀ env.locals h ((I, oI) :: news) → (∀ p ∈ news, p.1 < I) →
      wpAny (model prog w) A (execs body env) (TurnS h₀ env.locals z vz ((I, oI) :: news) { s with heap := h, toks := tk } fun v s' => Q (.ret v) s') E { s with heap := h, toks := tk })
    (done : ∀ h tk m', Fr h₀ env.locals h m' → News h₀ env.locals h news → Q .next { s with heap := h, toks := tk }) :
    wpAny (model prog w) A (pyIter (.ref r)) (fun it s₂ => LoopAtV prog w A h₀ env x body Q E it s₂) E s := by
  rcases hb with rfl | rfl
  · exact rangeLoopS (n := 1) hh F N hz hzx hr (by decide) rfl (fun i t h tk I oI m _ => turn i t h tk I oI m) done
  · exact rangeLoopS (n := 2) hh F N hz hzx hr (by decide) rfl (fun i t h tk I oI m _ => turn i t h tk I oI m) done
end
theorem DmAll.tups {l l' : List (Addr × Obj)} (h : ∀ a vs n, (a, tupO vs n) ∈ l → (a, tupO vs n) ∈ l') : ∀ {ps ds}, DmAll l ps ds → ds.all noList = true → DmAll l' ps ds
  | _, _, .nil, _ => .nil
  | _, _, .cons a b, hn => by
    simp only [List.all_cons, Bool.and_eq_true] at hn
    refine .cons ?_ (b.tups h hn.2)
    cases a with
    | «at» c => exact .at c
    | tup m c => exact .tup (h _ _ _ m) c
    | lst m c => cases hn.1
theorem AllSort.to {l l' : List (Addr × Obj)} (h : ∀ a vs n, (a, tupO vs n) ∈ l → (a, tupO vs n) ∈ l') : ∀ {vs es}, AllSort l vs es → (∀ e ∈ es, e.2.1.all noList = true) → AllSort l' vs es
  | _, _, .nil, _ => .nil
  | _, _, .cons (e := e) ⟨P, R, t, tl, ps, n1, n2, a, b, c, d⟩ r, hn => .cons ⟨P, R, t, tl, ps, n1, n2, a, h _ _ _ b, h _ _ _ c, d.tups h (hn e (.head _))⟩ (r.to h fun e he => hn e (.tail _ he))
theorem sortT_len : sortT.length = 21 := by decide +kernel
theorem sort_facts {e : Str × List PyData × Str} (he : e ∈ sortT) : chkSort e = true := List.all_eq_true.mp chk_all e he
theorem sort_noList : ∀ e ∈ sortT, e.2.1.all noList = true := fun e he => by
  have h := sort_facts he
  unfold chkSort at h
  split at h
  · cases h
  · simp only [Bool.and_eq_true] at h; exact h.1
theorem len_cast (n : Nat) : (n : Int) + 1 = ((n + 1 : Nat) : Int) := rfl
structure SortsAre (l : List (Addr × Obj)) (vs : List Value) : Prop where
  all : AllSort l vs sortT
def SortAt (l : List (Addr × Obj)) (v : Value) (op : Str) (ds : List PyData) (ls : Str) : Prop := ∃ P R t tl ps n1 n2, v = .ref P ∧ (P, tupO [.ref R, .str ls tl] n1) ∈ l ∧ (R, tupO (.str op t :: ps) n2) ∈ l ∧ DmAll l ps ds
theorem entry_ok {e : Str × List PyData × Str} (he : e ∈ sortT) : ∃ x, EntryOK e.1 x e.2.1 e.2.2 := by
  have h := sort_facts he
  unfold chkSort at h
  split at h
  · cases h
  · rename_i x hx
    simp only [Bool.and_eq_true, decide_eq_true_eq, List.all_eq_true, List.mem_range] at h
    obtain ⟨h1, h2, h3, h4, h5⟩ := h
    exact ⟨x, ⟨lookup_mem hx, h4⟩, fun k d hk hd => ⟨lookup_mem hx, h5 k hk d hd.mem⟩, h2, h3⟩
section
variable {w : World} {p : Program} {loose : List Str} {mean : ExcName → Option Value} {mg mb : Str → Option Value}
/-- _law_sorts beside a tray -/
theorem sorts_law {tr : Addr} {a b c : Int} {ta tb tc : Tok} {k : Nat} {rest : List (Addr × Obj)} :
  ∀ (dp un : Nat) (gd : Option (List Code)) (cn : Str) (cs : Scope) (aa : Addr) (ccd : Value) (cl : List (Str × Addr)) (outer : List Env) (A₀ : Around) (base h₀ : Heap) (L : Addr) (m : Str → Option Value) (s : Shared)
    (Q E : Value → Shared → Prop), Below A₀ base outer h₀ → Fr h₀ L s.heap m → (Mine.frame.heap_1 w.params).In h₀ → News h₀ L s.heap ((tr, lstO [.int a ta, .int b tb, .int c tc] k) :: rest) → Top p loose mean mg mb h₀ → cs.kind = .function → dp + 2 < recursionLimit → un + 8 * 2 < cLine → (∀ q ∈ rest, q.1 ≠ tr) →
    (∀ S vs k9 rest' h' tk', Fr h₀ L h' m → News h₀ L h' ((tr, lstO [.int a ta, .int b tb, .int c tc] k) :: rest') → (∀ q ∈ rest, q ∈ rest') → (∀ q ∈ rest', q.1 ≠ tr) → (S, lstO vs k9) ∈ rest' → SortsAre rest' vs → Q (.ref S) { s with heap := h', toks := tk' }) →
    wpAny (model prog w) (ktrTop dp un gd cn cs L aa ccd cl outer) (call (.ref 174) []) Q E s := by
  intro dp un gd cn cs aa ccd cl outer A₀ base h₀ L m s Q E B F X N T hk hd hu hne hret
  refine sortsL_ctr dp un gd cn cs aa ccd cl outer A₀ base h₀ L m s Q E B F X N T hk hd hu fun r l h' tk' F' N' hsub hP => ?_
  obtain ⟨S, vs, k9, rfl, hS, hA⟩ := hP
  have hT := hsub _ (List.mem_cons_self ..)
  refine hret S vs k9 (l.filter fun q => !(q.1 == tr)) h' tk' F' (fun q hq => ?_) (fun q hq => ?_) (fun q hq => ?_) ?_ ?_
  · rcases List.mem_cons.mp hq with rfl | hq
    · exact N' _ hT
    · exact N' _ (List.mem_filter.mp hq).1
  · exact List.mem_filter.mpr ⟨hsub _ (.tail _ hq), by simp [hne q hq]⟩
  · have := (List.mem_filter.mp hq).2
    simpa using this
  · refine List.mem_filter.mpr ⟨hS, ?_⟩
    have hlen := hA.len
    have : S ≠ tr := fun e => by
      subst e
      have h1 := congrArg Obj.data (news_eq N' hS hT)
      simp only [Data.seq.injEq] at h1
      have h2 := congrArg Array.size h1.1
      simp only [List.size_toArray] at h2
      rw [hlen, sortT_len] at h2
      simp at h2
    simp [this]
  · refine ⟨hA.to (fun a vs n hm => List.mem_filter.mpr ⟨hm, ?_⟩) sort_noList⟩
    have : a ≠ tr := fun e => by
      subst e
      have h1 := congrArg Obj.cls (news_eq N' hm hT)
      simp at h1
    simp [this]
theorem trayI {l : Addr} {vs : List Value} {ns : List Int} {i : Nat} {K : Int} {ti : Tok} {news : List (Addr × Obj)} (hK : K = ((i : Nat) : Int)) :
  ∀ (dp un : Nat) (gd : Option (List Code)) (cn : Str) (cs : Scope) (aa : Addr) (ccd : Value) (cl : List (Str × Addr)) (outer : List Env) (A₀ : Around) (base h₀ : Heap) (L : Addr) (m : Str → Option Value) (s : Shared)
    (Q E : Value → Shared → Prop), Below A₀ base outer h₀ → Fr h₀ L s.heap m → (Mine.frame.heap_1 w.params).In h₀ → News h₀ L s.heap news → Top p loose mean mg mb h₀ → cs.kind = .function → dp + 2 < recursionLimit → un + 8 * 2 < cLine →
    h₀.IsList l vs.toArray → IntsAre vs ns → ns.length ≤ 63 →
    (∀ (tr : Addr) (a b c : Int) ta tb tc k h' tk', 0 ≤ a → 0 ≤ b → Fr h₀ L h' m → News h₀ L h' ((tr, lstO [.int a ta, .int b tb, .int c tc] k) :: news) → (∀ q ∈ news, q.1 < tr) → Q (.ref tr) { s with heap := h', toks := tk' }) →
    wpAny (model prog w) (ktrTop dp un gd cn cs L aa ccd cl outer) (call (.ref 160) [.ref l, .int K ti]) Q E s := by
  subst hK
  exact tray_ctr
theorem laidU {tr : Addr} {a b c K : Int} {ta tb tc tm : Tok} {k many : Nat} {news : List (Addr × Obj)} {g : Obj → List (Addr × Obj)} (hK : K = ((many : Nat) : Int)) (ha : 0 ≤ a) (hb : 0 ≤ b) (hm : 0 < many) (hm64 : many < 64) (U : UpdF tr (lstO [.int a ta, .int b tb, .int c tc] k) news g) :
  ∀ (dp un : Nat) (gd : Option (List Code)) (cn : Str) (cs : Scope) (aa : Addr) (ccd : Value) (cl : List (Str × Addr)) (outer : List Env) (A₀ : Around) (base h₀ : Heap) (L : Addr) (m : Str → Option Value) (s : Shared)
    (Q E : Value → Shared → Prop), Below A₀ base outer h₀ → Fr h₀ L s.heap m → (Mine.frame.heap_1 w.params).In h₀ → News h₀ L s.heap news → Top p loose mean mg mb h₀ → cs.kind = .function → dp + 2 < recursionLimit → un + 8 * 2 < cLine →
    (∀ (v : Nat) (a' b' : Int) tv ta' tb' k' h' tk', v < many → 0 ≤ a' → 0 ≤ b' → Fr h₀ L h' m → News h₀ L h' (g (lstO [.int a' ta', .int b' tb', .int c tc] k')) → Q (.int ((v : Nat) : Int) tv) { s with heap := h', toks := tk' }) →
    wpAny (model prog w) (ktrTop dp un gd cn cs L aa ccd cl outer) (call (.ref 167) [.ref tr, .int K tm]) Q E s := by
  subst hK
  obtain ⟨pre, post, rfl, hg, h1, h2⟩ := U.split
  intro dp un gd cn cs aa ccd cl outer A₀ base h₀ L m s Q E B F X N T hk hd hu hret
  have hN : ∀ {h : Heap} {T : Obj}, News h₀ L h (pre ++ (tr, T) :: post) → News h₀ L h ((tr, T) :: (pre ++ post)) := fun N q hq => N q (by
    simp only [List.mem_cons, List.mem_append] at hq ⊢
    rcases hq with h | h | h <;> simp [h])
  have hN' : ∀ {h : Heap} {T : Obj}, News h₀ L h ((tr, T) :: (pre ++ post)) → News h₀ L h (pre ++ (tr, T) :: post) := fun N q hq => N q (by
    simp only [List.mem_cons, List.mem_append] at hq ⊢
    rcases hq with h | h | h <;> simp [h])
  refine laid_ctr ha hb hm hm64 (rest := pre ++ post) (fun q hq => (List.mem_append.mp hq).elim (h1 q) (h2 q)) dp un gd cn cs aa ccd cl outer A₀ base h₀ L m s Q E B F X (hN N) T hk hd hu
    fun v a' b' tv ta' tb' k' h' tk' hv ha' hb' F' N' => hret v a' b' tv ta' tb' k' h' tk' hv ha' hb' F' (hg _ ▸ hN' N')
end
section
variable {w : World} {A : Around} {E : Value → Shared → Prop} {s : Shared} {h₀ : Heap} {L : Addr} {m : Str → Option Value} {news : List (Addr × Obj)}
theorem list_at {value slice : Expr} {S : Addr} {vs : List Value} {v : Value} {k j : Nat} {u : Tok} {Q : Value → Shared → Prop} (N : News h₀ L s.heap news) (hS : (S, lstO vs k) ∈ news) (hj : j < 1000) (hv : vs[j]? = some v) (h : Q v s)
    (hs : subscripted slice false (.ref S) (.int ((j : Nat) : Int) u) = operate [.ref S, .int ((j : Nat) : Int) u] (getItem (.ref S) (.int ((j : Nat) : Int) u)) := by with_unfolding_all rfl) (hg : ∀ r, letTemporaryGo value (.ref S) r = pure () := by intro _; with_unfolding_all rfl) :
    wpAny (model prog w) A (subscriptTail value slice (.ref S) (.int ((j : Nat) : Int) u)) Q E s :=
  PyProof.Rows.item_list (News.isList N hS) (by omega) (by omega) (by simpa using hv) h hs hg
theorem sort_at {value slice : Expr} {S : Addr} {vs : List Value} {k j : Nat} {u : Tok} {Q : Value → Shared → Prop} {l : List (Addr × Obj)} (N : News h₀ L s.heap news) (hS : (S, lstO vs k) ∈ news) (hA : SortsAre l vs) (hj : j < 21) (h : ∀ v op x ds ls, EntryOK op x ds ls → SortAt l v op ds ls → Q v s)
    (hs : subscripted slice false (.ref S) (.int ((j : Nat) : Int) u) = operate [.ref S, .int ((j : Nat) : Int) u] (getItem (.ref S) (.int ((j : Nat) : Int) u)) := by with_unfolding_all rfl) (hg : ∀ r, letTemporaryGo value (.ref S) r = pure () := by intro _; with_unfolding_all rfl) :
    wpAny (model prog w) A (subscriptTail value slice (.ref S) (.int ((j : Nat) : Int) u)) Q E s := by
  have hl : sortT.length = 21 := by decide +kernel
  obtain ⟨e, he⟩ : ∃ e, sortT[j]? = some e := ⟨_, List.getElem?_eq_getElem (by omega)⟩
  obtain ⟨v, hv, hS1⟩ := hA.all.get he
  obtain ⟨x, hx⟩ := entry_ok (List.mem_of_getElem? he)
  exact list_at N hS (by omega) hv (h v _ x _ _ hx hS1) hs hg
end
section
variable {w : World} {A : Around} {E : Value → Shared → Prop} {s : Shared} {h₀ : Heap} {L : Addr} {m : Str → Option Value} {news : List (Addr × Obj)}
theorem part_at {value slice : Expr} {PL P1 P2 P3 P4 : Addr} {u1 u2 u3 u4 u5 u6 u7 u8 u9 x1 x2 u : Tok} {k k1 k2 k3 k4 j : Nat} {Q : Value → Shared → Prop} (N : News h₀ L s.heap news)
    (hPL : (PL, lstO [.int 4 u1, .int (-1) u2, .str (Str.ofString "0") u3, .ref P1, .ref P2, .ref P3, .ref P4] k) ∈ news) (h1 : (P1, tupO [.int 0 u4, .int 1 u5] k1) ∈ news) (h2 : (P2, lstO [.int 0 u6] k2) ∈ news) (h3 : (P3, tupO [.int 0 u7, .str (Str.ofString "1") u8] k3) ∈ news) (h4 : (P4, tupO [.int 0 u9, .int 1 x1, .int 2 x2] k4) ∈ news)
    (hj : j < 7) (h : ∀ v d, PartOK d → Dm [(P1, tupO [.int 0 u4, .int 1 u5] k1), (P2, lstO [.int 0 u6] k2), (P3, tupO [.int 0 u7, .str (Str.ofString "1") u8] k3), (P4, tupO [.int 0 u9, .int 1 x1, .int 2 x2] k4)] v d → Q v s)
    (hs : subscripted slice false (.ref PL) (.int ((j : Nat) : Int) u) = operate [.ref PL, .int ((j : Nat) : Int) u] (getItem (.ref PL) (.int ((j : Nat) : Int) u)) := by with_unfolding_all rfl) (hg : ∀ r, letTemporaryGo value (.ref PL) r = pure () := by intro _; with_unfolding_all rfl) :
    wpAny (model prog w) A (subscriptTail value slice (.ref PL) (.int ((j : Nat) : Int) u)) Q E s := by
  obtain ⟨v, d, hv, hd, hm⟩ : ∃ v d, [Value.int 4 u1, .int (-1) u2, .str (Str.ofString "0") u3, .ref P1, .ref P2, .ref P3, .ref P4][j]? = some v ∧ PartOK d ∧ Dm [(P1, tupO [.int 0 u4, .int 1 u5] k1), (P2, lstO [.int 0 u6] k2), (P3, tupO [.int 0 u7, .str (Str.ofString "1") u8] k3), (P4, tupO [.int 0 u9, .int 1 x1, .int 2 x2] k4)] v d := by
    rcases (show j = 0 ∨ j = 1 ∨ j = 2 ∨ j = 3 ∨ j = 4 ∨ j = 5 ∨ j = 6 by omega) with rfl | rfl | rfl | rfl | rfl | rfl | rfl
    · exact ⟨_, _, rfl, ⟨List.mem_of_getElem? (i := 0) rfl⟩, .at (.int _ _)⟩
    · exact ⟨_, _, rfl, ⟨List.mem_of_getElem? (i := 1) rfl⟩, .at (.int _ _)⟩
    · exact ⟨_, _, rfl, ⟨List.mem_of_getElem? (i := 2) rfl⟩, .at (.str _ _)⟩
    · exact ⟨_, _, rfl, ⟨List.mem_of_getElem? (i := 3) rfl⟩, .tup (.head _) (.cons (.int _ _) (.cons (.int _ _) .nil))⟩
    · exact ⟨_, _, rfl, ⟨List.mem_of_getElem? (i := 4) rfl⟩, .lst (.tail _ (.head _)) (.cons (.int _ _) .nil)⟩
    · exact ⟨_, _, rfl, ⟨List.mem_of_getElem? (i := 5) rfl⟩, .tup (.tail _ (.tail _ (.head _))) (.cons (.int _ _) (.cons (.str _ _) .nil))⟩
    · exact ⟨_, _, rfl, ⟨List.mem_of_getElem? (i := 6) rfl⟩, .tup (.tail _ (.tail _ (.tail _ (.head _)))) (.cons (.int _ _) (.cons (.int _ _) (.cons (.int _ _) .nil)))⟩
  exact list_at N hPL (by omega) hv (h v d hd hm) hs hg
theorem six_at {value slice : Expr} {PL : Addr} {a1 a2 a3 a4 a5 a6 : Int} {u1 u2 u3 u4 u5 u6 u : Tok} {k j : Nat} {Q : Value → Shared → Prop} {rest : List (Addr × Obj)} (N : News h₀ L s.heap ((PL, lstO [.int a1 u1, .int a2 u2, .int a3 u3, .int a4 u4, .int a5 u5, .int a6 u6] k) :: rest)) (hj : j < 6) (h : ∀ i u, Q (.int i u) s)
    (hs : subscripted slice false (.ref PL) (.int ((j : Nat) : Int) u) = operate [.ref PL, .int ((j : Nat) : Int) u] (getItem (.ref PL) (.int ((j : Nat) : Int) u)) := by with_unfolding_all rfl) (hg : ∀ r, letTemporaryGo value (.ref PL) r = pure () := by intro _; with_unfolding_all rfl) :
    wpAny (model prog w) A (subscriptTail value slice (.ref PL) (.int ((j : Nat) : Int) u)) Q E s := by
  obtain ⟨i, t, hv⟩ : ∃ i t, [Value.int a1 u1, .int a2 u2, .int a3 u3, .int a4 u4, .int a5 u5, .int a6 u6][j]? = some (.int i t) := by
    rcases (show j = 0 ∨ j = 1 ∨ j = 2 ∨ j = 3 ∨ j = 4 ∨ j = 5 by omega) with rfl | rfl | rfl | rfl | rfl | rfl <;> exact ⟨_, _, rfl⟩
  exact list_at N (.head _) (by omega) hv (h i t) hs hg
end
section
variable {w : World} {p : Program} {loose : List Str} {mean : ExcName → Option Value} {mg mb : Str → Option Value} {k : Nat} {f : Addr} {news : List (Addr × Obj)} {vs : List Value} {dp un : Nat} {gd : Option (List Code)} {cn : Str} {cs : Scope} {aa : Addr} {ccd : Value} {cl : List (Str × Addr)} {outer : List Env} {A₀ : Around} {base h₀ : Heap} {L : Addr} {m : Str → Option Value} {s : Shared} {Q E : Value → Shared → Prop}
theorem laidA {tr : Addr} {a b c K : Int} {ta tb tc tm : Tok} {kk many : Nat} {g : Obj → List (Addr × Obj)} (B : Below A₀ base outer h₀) (F : Fr h₀ L s.heap m) (X : (Mine.frame.heap_1 w.params).In h₀) (N : News h₀ L s.heap news) (T : Top p loose mean mg mb h₀) (hk : cs.kind = .function) (hd : dp + 2 < recursionLimit) (hu : un + 8 * 2 < cLine)
    (U : UpdF tr (lstO [.int a ta, .int b tb, .int c tc] kk) news g) (hK : K = ((many : Nat) : Int)) (ha : 0 ≤ a) (hb : 0 ≤ b) (hm : 0 < many) (hm64 : many < 64)
    (h : ∀ (v : Nat) (a' b' : Int) tv ta' tb' k' h' tk', v < many → 0 ≤ a' → 0 ≤ b' → Fr h₀ L h' m → News h₀ L h' (g (lstO [.int a' ta', .int b' tb', .int c tc] k')) → Q (.int ((v : Nat) : Int) tv) { s with heap := h', toks := tk' }) :
    wpAny (model prog w) (ktrTop dp un gd cn cs L aa ccd cl outer) (call (.ref 167) [.ref tr, .int K tm]) Q E s :=
  laidU hK ha hb hm hm64 U dp un gd cn cs aa ccd cl outer A₀ base h₀ L m s Q E B F X N T hk hd hu h
theorem trayA {l : Addr} {ns : List Int} {i : Nat} {K : Int} {ti : Tok} (B : Below A₀ base outer h₀) (F : Fr h₀ L s.heap m) (X : (Mine.frame.heap_1 w.params).In h₀) (N : News h₀ L s.heap news) (T : Top p loose mean mg mb h₀) (hk : cs.kind = .function) (hd : dp + 2 < recursionLimit) (hu : un + 8 * 2 < cLine)
    (hK : K = ((i : Nat) : Int)) (h1 : h₀.IsList l vs.toArray) (h2 : IntsAre vs ns) (h3 : ns.length ≤ 63)
    (h : ∀ (tr : Addr) (a b c : Int) ta tb tc k h' tk', 0 ≤ a → 0 ≤ b → Fr h₀ L h' m → News h₀ L h' ((tr, lstO [.int a ta, .int b tb, .int c tc] k) :: news) → (∀ q ∈ news, q.1 < tr) → Q (.ref tr) { s with heap := h', toks := tk' }) :
    wpAny (model prog w) (ktrTop dp un gd cn cs L aa ccd cl outer) (call (.ref 160) [.ref l, .int K ti]) Q E s :=
  trayI hK dp un gd cn cs aa ccd cl outer A₀ base h₀ L m s Q E B F X N T hk hd hu h1 h2 h3 h
theorem sortsA {tr : Addr} {a b c : Int} {ta tb tc : Tok} {kk : Nat} {rest : List (Addr × Obj)} (B : Below A₀ base outer h₀) (F : Fr h₀ L s.heap m) (X : (Mine.frame.heap_1 w.params).In h₀) (N : News h₀ L s.heap ((tr, lstO [.int a ta, .int b tb, .int c tc] kk) :: rest)) (T : Top p loose mean mg mb h₀) (hk : cs.kind = .function) (hd : dp + 2 < recursionLimit) (hu : un + 8 * 2 < cLine) (hn : ∀ q ∈ rest, q.1 ≠ tr)
    (h : ∀ S vs k9 rest' h' tk', Fr h₀ L h' m → News h₀ L h' ((tr, lstO [.int a ta, .int b tb, .int c tc] kk) :: rest') → (∀ q ∈ rest, q ∈ rest') → (∀ q ∈ rest', q.1 ≠ tr) → (S, lstO vs k9) ∈ rest' → SortsAre rest' vs → Q (.ref S) { s with heap := h', toks := tk' }) :
    wpAny (model prog w) (ktrTop dp un gd cn cs L aa ccd cl outer) (call (.ref 174) []) Q E s :=
  sorts_law dp un gd cn cs aa ccd cl outer A₀ base h₀ L m s Q E B F X N T hk hd hu hn h
end
local macro_rules | `(tactic| k_all) => `(tactic| with_reducible assumption)
local macro_rules | `(tactic| walk_at "pyIter ref") => `(tactic| (k_here; refine stop_for2 ?_))
theorem whole : PySem.Challenge.rw_xm0678_01.Holds := by
  w_on
  refine holds_law wellTold fun said => ?_
  refine holds_open (q := hview) (loose := hloose) (Xt := fun s => xlAt hview [] s && recOk (RowW.records hrow.toRowW) s) (XP := XL hview []) (Yf := Hook.obs hhook) (Ya := Hook.val hhook) (YP := Hook.says hhook) (N := 3602) hleft (Hook.of hhook) (Hook.keeps hhook) (fun s e => xl_of s (Bool.and_eq_true_iff.mp e).1) XL.keeps (by rfl) (by rfl) (by rfl) (fun s e => recFacts_of (Bool.and_eq_true_iff.mp e).2) (by rfl) said (by kernel_rfl) ⟨rfl, rfl, rfl, rfl, rfl, by kernel_rfl⟩ ?hw ?_
  case hw => w_witness2
  clear said
  k_go0
  (repeat' (first | (k_unfold; (try dsimp only)) | (k_end; wrow_close) | ((fail_if_success (fail_if_success (with_reducible show wpAny _ _ (call _ _ _) _ _ _))); first | (with_reducible (k_here; (fail_if_success (fail_if_success (with_reducible show wpAny _ _ (call (Value.ref 193) [_, _, _, _]) _ _ _))); (fail_if_success (with_reducible rename PartOK _ => po9)); k_dflt (refine CtrL.same (by k_asm) (by k_asm) (by k_asm) (by k_asm) (by k_asm) (by exact rfl) (by ktr_room) (by ktr_units) (by exact rfl) (rr_base (by with_reducible assumption) (by k_mem) (by ((with_reducible refine DmAll.mono ?_ (by with_reducible assumption)); intro _ hq9; repeat (first | (with_reducible exact hq9) | (with_reducible apply List.mem_cons_of_mem)))) (by with_reducible assumption)) ?_); (intro _ _ _ _ _); (try dsimp only); (try k_fold))) | (with_reducible (k_here; (fail_if_success (fail_if_success (with_reducible show wpAny _ _ (call (Value.ref 193) [_, _, _, _]) _ _ _))); (with_reducible rename PartOK _ => po9); k_dflt (refine CtrL.same (by k_asm) (by k_asm) (by k_asm) (by k_asm) (by k_asm) (by exact rfl) (by ktr_room) (by ktr_units) (by exact rfl) (rr_mut (by with_reducible assumption) (by k_mem) (by ((with_reducible refine DmAll.mono ?_ (by with_reducible assumption)); intro _ hq9; repeat (first | (with_reducible exact hq9) | (with_reducible apply List.mem_cons_of_mem)))) (by with_reducible assumption) (by with_reducible assumption) (by with_reducible assumption) (by with_reducible assumption) (by ((with_reducible refine Dm.mono ?_ (by with_reducible assumption)); (with_reducible refine List.forall_mem_cons.mpr ⟨?_, List.forall_mem_cons.mpr ⟨?_, List.forall_mem_cons.mpr ⟨?_, List.forall_mem_cons.mpr ⟨?_, List.forall_mem_nil _⟩⟩⟩⟩); all_goals (repeat (first | (k_dflt exact List.mem_cons_self) | (with_reducible apply List.mem_cons_of_mem)))))) ?_); (intro _ _ _ _ _); (try dsimp only); (try k_fold))) | (with_reducible (k_here; (fail_if_success (fail_if_success (with_reducible show wpAny _ _ (call (Value.builtin _) [Value.str _ _]) _ _ _))); k_dflt (refine len_sx (by assumption) ?_); intro _ _; (try dsimp only))) | (with_reducible (k_here; (fail_if_success (fail_if_success (with_reducible show wpAny _ _ (call (Value.ref 167) [_, Value.int 6 _]) _ _ _))); k_dflt (refine laidA (by k_asm) (by k_asm) (by k_asm) (by k_asm) (by k_asm) (by exact rfl) (by ktr_room) (by ktr_units) (by k_updF) (by first | assumption | exact (rfl : _ = ((21 : Nat) : Int)) | exact (rfl : _ = ((7 : Nat) : Int)) | exact (rfl : _ = ((3 : Nat) : Int)) | exact (rfl : _ = ((6 : Nat) : Int))) (by assumption) (by assumption) (by omega) (by omega) ?_); (intro _ _ _ _ _ _ _ _ _ _ _ _ _ N9); (try dsimp only at N9); (try dsimp only); (try k_fold); walk_at "last subscriptTail"; k_here; k_dflt (refine six_at N9 (by with_reducible assumption) ?_ (by with_unfolding_all rfl) (by (intro _; with_unfolding_all rfl))); intro _ _)) | (with_reducible (k_here; (fail_if_success (fail_if_success (with_reducible show wpAny _ _ (call (Value.ref 167) [_, _]) _ _ _))); k_dflt (refine laidA (by k_asm) (by k_asm) (by k_asm) (by k_asm) (by k_asm) (by exact rfl) (by ktr_room) (by ktr_units) (by k_updF) (by first | assumption | exact (rfl : _ = ((21 : Nat) : Int)) | exact (rfl : _ = ((7 : Nat) : Int)) | exact (rfl : _ = ((3 : Nat) : Int)) | exact (rfl : _ = ((6 : Nat) : Int))) (by assumption) (by assumption) (by omega) (by omega) ?_); (intro _ _ _ _ _ _ _ _ _ _ _ _ _ N9); (try dsimp only at N9); (try dsimp only); (try k_fold))) | (with_reducible (k_here; (fail_if_success (fail_if_success (with_reducible show wpAny _ _ (call (Value.ref 174) _ _) _ _ _))); (k_dflt (show wpAny _ _ (call (Value.ref 174) []) _ _ _)); k_dflt (refine sortsA (by k_asm) (by k_asm) (by k_asm) (by k_asm) (by k_asm) (by exact rfl) (by ktr_room) (by ktr_units) (by k_all) ?_); (intro _ _ _ _ _ _ _ _ _ _ _ _); (try dsimp only); (try k_fold))) | (with_reducible (k_here; (fail_if_success (fail_if_success (with_reducible show wpAny _ _ (call (Value.ref 160) [_, _]) _ _ _))); k_dflt (refine trayA (by k_asm) (by k_asm) (by k_asm) (by k_asm) (by k_asm) (by exact rfl) (by ktr_room) (by ktr_units) (by assumption) (by assumption) (by assumption) (by assumption) ?_); (intro _ _ _ _ _ _ _ _ _ _ _ _ _ _ l9); (try k_lt l9); (try dsimp only); (try k_fold))) | (with_reducible (k_here; (fail_if_success (fail_if_success (with_reducible show wpAny _ _ (call (Value.ref 193) [_, Value.str (Str.ofString "g") _, Value.int 1 _, Value.int 1 _]) _ _ _))); k_dflt (refine CtrL.same (by k_asm) (by k_asm) (by k_asm) (by k_asm) (by k_asm) (by exact rfl) (by ktr_room) (by ktr_units) (by exact rfl) (rr_second (by k_mem)) ?_); (intro _ _ _ _ _); (try dsimp only); (try k_fold))) | (with_reducible (k_here; (fail_if_success (fail_if_success (with_reducible show wpAny _ _ (call (Value.ref 193) [_, Value.str (Str.ofString "rr") _, Value.int 0 _, Value.int 1 _]) _ _ _))); k_dflt (refine CtrL.same (by k_asm) (by k_asm) (by k_asm) (by k_asm) (by k_asm) (by exact rfl) (by ktr_room) (by ktr_units) (by exact rfl) (rr_first (by k_mem)) ?_); (intro _ _ _ _ _); (try dsimp only); (try k_fold)))) | ((fail_if_success (fail_if_success (with_reducible show wpAny _ _ (subscriptTail _ _ _ _) _ _ _))); first | (with_reducible (k_here; (fail_if_success (fail_if_success (with_reducible show wpAny _ _ (subscriptTail _ (PySem.Expr.Slice (some _) none none _) (Value.ref _) (Value.ref _)) _ _ _))); k_dflt (refine tup_from (len_cast _) (by k_asm) (by k_asm) (by k_mem) (by omega) (by (simp only [List.length_cons]; omega)) (by (simp only [List.length_cons]; omega)) ?_ (by with_unfolding_all rfl) (by (intro _; with_unfolding_all rfl))); intro _ _ _ _ l9; (try k_lt l9))) | (with_reducible (k_here; (fail_if_success (fail_if_success (with_reducible show wpAny _ _ (subscriptTail _ (PySem.Expr.Slice none (some _) none _) (Value.ref _) (Value.ref _)) _ _ _))); k_dflt (refine tup_to (by k_asm) (by k_asm) (by k_mem) (by (simp only [List.length_cons]; omega)) (by (simp only [List.length_cons]; omega)) ?_ (by with_unfolding_all rfl) (by (intro _; with_unfolding_all rfl))); intro _ _ _ _ l9; (try k_lt l9))) | (with_reducible (k_here; (fail_if_success (fail_if_success (fail_if_success (with_reducible show wpAny _ _ (subscriptTail (PySem.Expr.Name _ _) _ _ _) _ _ _)))); walk_at "last subscriptTail")) | (with_reducible (k_here; (fail_if_success (fail_if_success (with_reducible show wpAny _ _ (subscriptTail _ _ (Value.ref _) (Value.int (Nat.cast _) _)) _ _ _))); k_dflt (refine sort_at (by k_asm) (by k_mem) (by with_reducible assumption) (by with_reducible assumption) ?_ (by with_unfolding_all rfl) (by (intro _; with_unfolding_all rfl))); (intro _ _ _ _ ls9 eo9 so9; k_dflt (obtain ⟨P9, R9, t9, tl9, ps9, n9, m9, e8, hP9, hR9, hD9⟩ := so9); subst e8; have hsm60 := eo9.sm; have hsm100 := Nat.lt_trans hsm60 (by decide : 60 < 100); have hkl9 := len_cast ls9.cps.size; have hpl9 := hD9.len.trans eo9.len.symm))) | (with_reducible (k_here; (fail_if_success (fail_if_success (with_reducible show wpAny _ _ (subscriptTail _ _ (Value.ref _) (Value.int (Nat.cast _) _)) _ _ _))); k_dflt (refine part_at (by k_asm) (by k_mem) (by k_mem) (by k_mem) (by k_mem) (by k_mem) (by with_reducible assumption) ?_ (by with_unfolding_all rfl) (by (intro _; with_unfolding_all rfl))); (intro _ _ _ _))) | (with_reducible (k_here; (fail_if_success (fail_if_success (with_reducible show wpAny _ _ (subscriptTail _ _ (Value.ref _) (Value.int (Nat.cast _) _)) _ _ _))); k_dflt (refine six_at (by ((with_reducible rename News _ _ _ _ => N8); exact N8)) (by with_reducible assumption) ?_ (by with_unfolding_all rfl) (by (intro _; with_unfolding_all rfl))); (intro _ _)))) | ((fail_if_success (fail_if_success (with_reducible show wpAny _ _ (binaryOp _ _ _) _ _ _))); first | ((fail_if_success (fail_if_success (with_reducible show wpAny _ _ (binaryOp .Add (Value.ref _) (Value.ref _)) _ _ _))); with_reducible (k_here; k_dflt (refine tup_add (by k_asm) (by k_asm) (by k_mem) (by k_mem) (by first | (simp; done) | (intro e9; have e8 := congrArg List.length e9; simp only [List.length_take, List.length_cons, List.length_nil] at e8; omega)) (by (simp only [List.length_take, List.length_drop, List.length_append, List.length_cons, List.length_nil]; omega)) ?_); intro _ _ _ _ N9; (have q9 := tup_apart N9 (by with_reducible k_mem))))) | walk1 | (dsimp only; walk1) | (leave1; walk_say "STEP leave1"; try dsimp only) | fail "no step"))
  show wpAny _ _ _ _ _ _
  (rename Fr _ _ _ _ => lF')
  (with_unfolding_all refine' For_invVF lF' ?_ ?_ ?_)
  · exact rfl
  · exact rfl
  (repeat' (first | (k_unfold; (try dsimp only)) | (k_end; wrow_close) | ((fail_if_success (fail_if_success (with_reducible show wpAny _ _ (call _ _ _) _ _ _))); first | (with_reducible (k_here; (fail_if_success (fail_if_success (with_reducible show wpAny _ _ (call (Value.ref 193) [_, _, _, _]) _ _ _))); (fail_if_success (with_reducible rename PartOK _ => po9)); k_dflt (refine CtrL.same (by k_asm) (by k_asm) (by k_asm) (by k_asm) (by k_asm) (by exact rfl) (by ktr_room) (by ktr_units) (by exact rfl) (rr_base (by with_reducible assumption) (by k_mem) (by ((with_reducible refine DmAll.mono ?_ (by with_reducible assumption)); intro _ hq9; repeat (first | (with_reducible exact hq9) | (with_reducible apply List.mem_cons_of_mem)))) (by with_reducible assumption)) ?_); (intro _ _ _ _ _); (try dsimp only); (try k_fold))) | (with_reducible (k_here; (fail_if_success (fail_if_success (with_reducible show wpAny _ _ (call (Value.ref 193) [_, _, _, _]) _ _ _))); (with_reducible rename PartOK _ => po9); k_dflt (refine CtrL.same (by k_asm) (by k_asm) (by k_asm) (by k_asm) (by k_asm) (by exact rfl) (by ktr_room) (by ktr_units) (by exact rfl) (rr_mut (by with_reducible assumption) (by k_mem) (by ((with_reducible refine DmAll.mono ?_ (by with_reducible assumption)); intro _ hq9; repeat (first | (with_reducible exact hq9) | (with_reducible apply List.mem_cons_of_mem)))) (by with_reducible assumption) (by with_reducible assumption) (by with_reducible assumption) (by with_reducible assumption) (by ((with_reducible refine Dm.mono ?_ (by with_reducible assumption)); (with_reducible refine List.forall_mem_cons.mpr ⟨?_, List.forall_mem_cons.mpr ⟨?_, List.forall_mem_cons.mpr ⟨?_, List.forall_mem_cons.mpr ⟨?_, List.forall_mem_nil _⟩⟩⟩⟩); all_goals (repeat (first | (k_dflt exact List.mem_cons_self) | (with_reducible apply List.mem_cons_of_mem)))))) ?_); (intro _ _ _ _ _); (try dsimp only); (try k_fold))) | (with_reducible (k_here; (fail_if_success (fail_if_success (with_reducible show wpAny _ _ (call (Value.builtin _) [Value.str _ _]) _ _ _))); k_dflt (refine len_sx (by assumption) ?_); intro _ _; (try dsimp only))) | (with_reducible (k_here; (fail_if_success (fail_if_success (with_reducible show wpAny _ _ (call (Value.ref 167) [_, Value.int 6 _]) _ _ _))); k_dflt (refine laidA (by k_asm) (by k_asm) (by k_asm) (by k_asm) (by k_asm) (by exact rfl) (by ktr_room) (by ktr_units) (by k_updF) (by first | assumption | exact (rfl : _ = ((21 : Nat) : Int)) | exact (rfl : _ = ((7 : Nat) : Int)) | exact (rfl : _ = ((3 : Nat) : Int)) | exact (rfl : _ = ((6 : Nat) : Int))) (by assumption) (by assumption) (by omega) (by omega) ?_); (intro _ _ _ _ _ _ _ _ _ _ _ _ _ N9); (try dsimp only at N9); (try dsimp only); (try k_fold); walk_at "last subscriptTail"; k_here; k_dflt (refine six_at N9 (by with_reducible assumption) ?_ (by with_unfolding_all rfl) (by (intro _; with_unfolding_all rfl))); intro _ _)) | (with_reducible (k_here; (fail_if_success (fail_if_success (with_reducible show wpAny _ _ (call (Value.ref 167) [_, _]) _ _ _))); k_dflt (refine laidA (by k_asm) (by k_asm) (by k_asm) (by k_asm) (by k_asm) (by exact rfl) (by ktr_room) (by ktr_units) (by k_updF) (by first | assumption | exact (rfl : _ = ((21 : Nat) : Int)) | exact (rfl : _ = ((7 : Nat) : Int)) | exact (rfl : _ = ((3 : Nat) : Int)) | exact (rfl : _ = ((6 : Nat) : Int))) (by assumption) (by assumption) (by omega) (by omega) ?_); (intro _ _ _ _ _ _ _ _ _ _ _ _ _ N9); (try dsimp only at N9); (try dsimp only); (try k_fold))) | (with_reducible (k_here; (fail_if_success (fail_if_success (with_reducible show wpAny _ _ (call (Value.ref 174) _ _) _ _ _))); (k_dflt (show wpAny _ _ (call (Value.ref 174) []) _ _ _)); k_dflt (refine sortsA (by k_asm) (by k_asm) (by k_asm) (by k_asm) (by k_asm) (by exact rfl) (by ktr_room) (by ktr_units) (by k_all) ?_); (intro _ _ _ _ _ _ _ _ _ _ _ _); (try dsimp only); (try k_fold))) | (with_reducible (k_here; (fail_if_success (fail_if_success (with_reducible show wpAny _ _ (call (Value.ref 160) [_, _]) _ _ _))); k_dflt (refine trayA (by k_asm) (by k_asm) (by k_asm) (by k_asm) (by k_asm) (by exact rfl) (by ktr_room) (by ktr_units) (by assumption) (by assumption) (by assumption) (by assumption) ?_); (intro _ _ _ _ _ _ _ _ _ _ _ _ _ _ l9); (try k_lt l9); (try dsimp only); (try k_fold))) | (with_reducible (k_here; (fail_if_success (fail_if_success (with_reducible show wpAny _ _ (call (Value.ref 193) [_, Value.str (Str.ofString "g") _, Value.int 1 _, Value.int 1 _]) _ _ _))); k_dflt (refine CtrL.same (by k_asm) (by k_asm) (by k_asm) (by k_asm) (by k_asm) (by exact rfl) (by ktr_room) (by ktr_units) (by exact rfl) (rr_second (by k_mem)) ?_); (intro _ _ _ _ _); (try dsimp only); (try k_fold))) | (with_reducible (k_here; (fail_if_success (fail_if_success (with_reducible show wpAny _ _ (call (Value.ref 193) [_, Value.str (Str.ofString "rr") _, Value.int 0 _, Value.int 1 _]) _ _ _))); k_dflt (refine CtrL.same (by k_asm) (by k_asm) (by k_asm) (by k_asm) (by k_asm) (by exact rfl) (by ktr_room) (by ktr_units) (by exact rfl) (rr_first (by k_mem)) ?_); (intro _ _ _ _ _); (try dsimp only); (try k_fold)))) | ((fail_if_success (fail_if_success (with_reducible show wpAny _ _ (subscriptTail _ _ _ _) _ _ _))); first | (with_reducible (k_here; (fail_if_success (fail_if_success (with_reducible show wpAny _ _ (subscriptTail _ (PySem.Expr.Slice (some _) none none _) (Value.ref _) (Value.ref _)) _ _ _))); k_dflt (refine tup_from (len_cast _) (by k_asm) (by k_asm) (by k_mem) (by omega) (by (simp only [List.length_cons]; omega)) (by (simp only [List.length_cons]; omega)) ?_ (by with_unfolding_all rfl) (by (intro _; with_unfolding_all rfl))); intro _ _ _ _ l9; (try k_lt l9))) | (with_reducible (k_here; (fail_if_success (fail_if_success (with_reducible show wpAny _ _ (subscriptTail _ (PySem.Expr.Slice none (some _) none _) (Value.ref _) (Value.ref _)) _ _ _))); k_dflt (refine tup_to (by k_asm) (by k_asm) (by k_mem) (by (simp only [List.length_cons]; omega)) (by (simp only [List.length_cons]; omega)) ?_ (by with_unfolding_all rfl) (by (intro _; with_unfolding_all rfl))); intro _ _ _ _ l9; (try k_lt l9))) | (with_reducible (k_here; (fail_if_success (fail_if_success (fail_if_success (with_reducible show wpAny _ _ (subscriptTail (PySem.Expr.Name _ _) _ _ _) _ _ _)))); walk_at "last subscriptTail")) | (with_reducible (k_here; (fail_if_success (fail_if_success (with_reducible show wpAny _ _ (subscriptTail _ _ (Value.ref _) (Value.int (Nat.cast _) _)) _ _ _))); k_dflt (refine sort_at (by k_asm) (by k_mem) (by with_reducible assumption) (by with_reducible assumption) ?_ (by with_unfolding_all rfl) (by (intro _; with_unfolding_all rfl))); (intro _ _ _ _ ls9 eo9 so9; k_dflt (obtain ⟨P9, R9, t9, tl9, ps9, n9, m9, e8, hP9, hR9, hD9⟩ := so9); subst e8; have hsm60 := eo9.sm; have hsm100 := Nat.lt_trans hsm60 (by decide : 60 < 100); have hkl9 := len_cast ls9.cps.size; have hpl9 := hD9.len.trans eo9.len.symm))) | (with_reducible (k_here; (fail_if_success (fail_if_success (with_reducible show wpAny _ _ (subscriptTail _ _ (Value.ref _) (Value.int (Nat.cast _) _)) _ _ _))); k_dflt (refine part_at (by k_asm) (by k_mem) (by k_mem) (by k_mem) (by k_mem) (by k_mem) (by with_reducible assumption) ?_ (by with_unfolding_all rfl) (by (intro _; with_unfolding_all rfl))); (intro _ _ _ _))) | (with_reducible (k_here; (fail_if_success (fail_if_success (with_reducible show wpAny _ _ (subscriptTail _ _ (Value.ref _) (Value.int (Nat.cast _) _)) _ _ _))); k_dflt (refine six_at (by ((with_reducible rename News _ _ _ _ => N8); exact N8)) (by with_reducible assumption) ?_ (by with_unfolding_all rfl) (by (intro _; with_unfolding_all rfl))); (intro _ _)))) | ((fail_if_success (fail_if_success (with_reducible show wpAny _ _ (binaryOp _ _ _) _ _ _))); first | ((fail_if_success (fail_if_success (with_reducible show wpAny _ _ (binaryOp .Add (Value.ref _) (Value.ref _)) _ _ _))); with_reducible (k_here; k_dflt (refine tup_add (by k_asm) (by k_asm) (by k_mem) (by k_mem) (by first | (simp; done) | (intro e9; have e8 := congrArg List.length e9; simp only [List.length_take, List.length_cons, List.length_nil] at e8; omega)) (by (simp only [List.length_take, List.length_drop, List.length_append, List.length_cons, List.length_nil]; omega)) ?_); intro _ _ _ _ N9; (have q9 := tup_apart N9 (by with_reducible k_mem))))) | walk1 | (dsimp only; walk1) | (leave1; walk_say "STEP leave1"; try dsimp only) | fail "no step"))
  show wpAny _ _ _ _ _ _
  (with_reducible rename IsRange _ _ _ _ _ _ _ _ => hr9)
  (with_reducible rename Fr _ _ _ _ => F9)
  (with_reducible rename News _ _ _ _ => N9)
  (with_reducible rename IntsAre _ _ => hI9)
  (with_reducible rename ¬ _ < _ => hc9)
  (with_reducible rename Heap.IsList _ _ _ => hL9)
  have h63 : _ ≤ 63 := Nat.le_of_not_lt (fun h => hc9 (Int.ofNat_lt.mpr h))
  refine rangeLoopB (z := Str.ofString "script") rfl F9 N9 rfl (by decide) hr9 (by repeat' split <;> omega) ?_ ?_
  · intro i t h tk I oI m F2 N2 lt2
    have hk0 : (0 : Int) + (i : Int) = ((i : Nat) : Int) := Int.zero_add _
    (repeat' (first | (k_unfold; (try dsimp only)) | (k_end; wrow_close) | ((fail_if_success (fail_if_success (with_reducible show wpAny _ _ (call _ _ _) _ _ _))); first | (with_reducible (k_here; (fail_if_success (fail_if_success (with_reducible show wpAny _ _ (call (Value.ref 193) [_, _, _, _]) _ _ _))); (fail_if_success (with_reducible rename PartOK _ => po9)); k_dflt (refine CtrL.same (by k_asm) (by k_asm) (by k_asm) (by k_asm) (by k_asm) (by exact rfl) (by ktr_room) (by ktr_units) (by exact rfl) (rr_base (by with_reducible assumption) (by k_mem) (by ((with_reducible refine DmAll.mono ?_ (by with_reducible assumption)); intro _ hq9; repeat (first | (with_reducible exact hq9) | (with_reducible apply List.mem_cons_of_mem)))) (by with_reducible assumption)) ?_); (intro _ _ _ _ _); (try dsimp only); (try k_fold))) | (with_reducible (k_here; (fail_if_success (fail_if_success (with_reducible show wpAny _ _ (call (Value.ref 193) [_, _, _, _]) _ _ _))); (with_reducible rename PartOK _ => po9); k_dflt (refine CtrL.same (by k_asm) (by k_asm) (by k_asm) (by k_asm) (by k_asm) (by exact rfl) (by ktr_room) (by ktr_units) (by exact rfl) (rr_mut (by with_reducible assumption) (by k_mem) (by ((with_reducible refine DmAll.mono ?_ (by with_reducible assumption)); intro _ hq9; repeat (first | (with_reducible exact hq9) | (with_reducible apply List.mem_cons_of_mem)))) (by with_reducible assumption) (by with_reducible assumption) (by with_reducible assumption) (by with_reducible assumption) (by ((with_reducible refine Dm.mono ?_ (by with_reducible assumption)); (with_reducible refine List.forall_mem_cons.mpr ⟨?_, List.forall_mem_cons.mpr ⟨?_, List.forall_mem_cons.mpr ⟨?_, List.forall_mem_cons.mpr ⟨?_, List.forall_mem_nil _⟩⟩⟩⟩); all_goals (repeat (first | (k_dflt exact List.mem_cons_self) | (with_reducible apply List.mem_cons_of_mem)))))) ?_); (intro _ _ _ _ _); (try dsimp only); (try k_fold))) | (with_reducible (k_here; (fail_if_success (fail_if_success (with_reducible show wpAny _ _ (call (Value.builtin _) [Value.str _ _]) _ _ _))); k_dflt (refine len_sx (by assumption) ?_); intro _ _; (try dsimp only))) | (with_reducible (k_here; (fail_if_success (fail_if_success (with_reducible show wpAny _ _ (call (Value.ref 167) [_, Value.int 6 _]) _ _ _))); k_dflt (refine laidA (by k_asm) (by k_asm) (by k_asm) (by k_asm) (by k_asm) (by exact rfl) (by ktr_room) (by ktr_units) (by k_updF) (by first | assumption | exact (rfl : _ = ((21 : Nat) : Int)) | exact (rfl : _ = ((7 : Nat) : Int)) | exact (rfl : _ = ((3 : Nat) : Int)) | exact (rfl : _ = ((6 : Nat) : Int))) (by assumption) (by assumption) (by omega) (by omega) ?_); (intro _ _ _ _ _ _ _ _ _ _ _ _ _ N9); (try dsimp only at N9); (try dsimp only); (try k_fold); walk_at "last subscriptTail"; k_here; k_dflt (refine six_at N9 (by with_reducible assumption) ?_ (by with_unfolding_all rfl) (by (intro _; with_unfolding_all rfl))); intro _ _)) | (with_reducible (k_here; (fail_if_success (fail_if_success (with_reducible show wpAny _ _ (call (Value.ref 167) [_, _]) _ _ _))); k_dflt (refine laidA (by k_asm) (by k_asm) (by k_asm) (by k_asm) (by k_asm) (by exact rfl) (by ktr_room) (by ktr_units) (by k_updF) (by first | assumption | exact (rfl : _ = ((21 : Nat) : Int)) | exact (rfl : _ = ((7 : Nat) : Int)) | exact (rfl : _ = ((3 : Nat) : Int)) | exact (rfl : _ = ((6 : Nat) : Int))) (by assumption) (by assumption) (by omega) (by omega) ?_); (intro _ _ _ _ _ _ _ _ _ _ _ _ _ N9); (try dsimp only at N9); (try dsimp only); (try k_fold))) | (with_reducible (k_here; (fail_if_success (fail_if_success (with_reducible show wpAny _ _ (call (Value.ref 174) _ _) _ _ _))); (k_dflt (show wpAny _ _ (call (Value.ref 174) []) _ _ _)); k_dflt (refine sortsA (by k_asm) (by k_asm) (by k_asm) (by k_asm) (by k_asm) (by exact rfl) (by ktr_room) (by ktr_units) (by k_all) ?_); (intro _ _ _ _ _ _ _ _ _ _ _ _); (try dsimp only); (try k_fold))) | (with_reducible (k_here; (fail_if_success (fail_if_success (with_reducible show wpAny _ _ (call (Value.ref 160) [_, _]) _ _ _))); k_dflt (refine trayA (by k_asm) (by k_asm) (by k_asm) (by k_asm) (by k_asm) (by exact rfl) (by ktr_room) (by ktr_units) (by assumption) (by assumption) (by assumption) (by assumption) ?_); (intro _ _ _ _ _ _ _ _ _ _ _ _ _ _ l9); (try k_lt l9); (try dsimp only); (try k_fold))) | (with_reducible (k_here; (fail_if_success (fail_if_success (with_reducible show wpAny _ _ (call (Value.ref 193) [_, Value.str (Str.ofString "g") _, Value.int 1 _, Value.int 1 _]) _ _ _))); k_dflt (refine CtrL.same (by k_asm) (by k_asm) (by k_asm) (by k_asm) (by k_asm) (by exact rfl) (by ktr_room) (by ktr_units) (by exact rfl) (rr_second (by k_mem)) ?_); (intro _ _ _ _ _); (try dsimp only); (try k_fold))) | (with_reducible (k_here; (fail_if_success (fail_if_success (with_reducible show wpAny _ _ (call (Value.ref 193) [_, Value.str (Str.ofString "rr") _, Value.int 0 _, Value.int 1 _]) _ _ _))); k_dflt (refine CtrL.same (by k_asm) (by k_asm) (by k_asm) (by k_asm) (by k_asm) (by exact rfl) (by ktr_room) (by ktr_units) (by exact rfl) (rr_first (by k_mem)) ?_); (intro _ _ _ _ _); (try dsimp only); (try k_fold)))) | ((fail_if_success (fail_if_success (with_reducible show wpAny _ _ (subscriptTail _ _ _ _) _ _ _))); first | (with_reducible (k_here; (fail_if_success (fail_if_success (with_reducible show wpAny _ _ (subscriptTail _ (PySem.Expr.Slice (some _) none none _) (Value.ref _) (Value.ref _)) _ _ _))); k_dflt (refine tup_from (len_cast _) (by k_asm) (by k_asm) (by k_mem) (by omega) (by (simp only [List.length_cons]; omega)) (by (simp only [List.length_cons]; omega)) ?_ (by with_unfolding_all rfl) (by (intro _; with_unfolding_all rfl))); intro _ _ _ _ l9; (try k_lt l9))) | (with_reducible (k_here; (fail_if_success (fail_if_success (with_reducible show wpAny _ _ (subscriptTail _ (PySem.Expr.Slice none (some _) none _) (Value.ref _) (Value.ref _)) _ _ _))); k_dflt (refine tup_to (by k_asm) (by k_asm) (by k_mem) (by (simp only [List.length_cons]; omega)) (by (simp only [List.length_cons]; omega)) ?_ (by with_unfolding_all rfl) (by (intro _; with_unfolding_all rfl))); intro _ _ _ _ l9; (try k_lt l9))) | (with_reducible (k_here; (fail_if_success (fail_if_success (fail_if_success (with_reducible show wpAny _ _ (subscriptTail (PySem.Expr.Name _ _) _ _ _) _ _ _)))); walk_at "last subscriptTail")) | (with_reducible (k_here; (fail_if_success (fail_if_success (with_reducible show wpAny _ _ (subscriptTail _ _ (Value.ref _) (Value.int (Nat.cast _) _)) _ _ _))); k_dflt (refine sort_at (by k_asm) (by k_mem) (by with_reducible assumption) (by with_reducible assumption) ?_ (by with_unfolding_all rfl) (by (intro _; with_unfolding_all rfl))); (intro _ _ _ _ ls9 eo9 so9; k_dflt (obtain ⟨P9, R9, t9, tl9, ps9, n9, m9, e8, hP9, hR9, hD9⟩ := so9); subst e8; have hsm60 := eo9.sm; have hsm100 := Nat.lt_trans hsm60 (by decide : 60 < 100); have hkl9 := len_cast ls9.cps.size; have hpl9 := hD9.len.trans eo9.len.symm))) | (with_reducible (k_here; (fail_if_success (fail_if_success (with_reducible show wpAny _ _ (subscriptTail _ _ (Value.ref _) (Value.int (Nat.cast _) _)) _ _ _))); k_dflt (refine part_at (by k_asm) (by k_mem) (by k_mem) (by k_mem) (by k_mem) (by k_mem) (by with_reducible assumption) ?_ (by with_unfolding_all rfl) (by (intro _; with_unfolding_all rfl))); (intro _ _ _ _))) | (with_reducible (k_here; (fail_if_success (fail_if_success (with_reducible show wpAny _ _ (subscriptTail _ _ (Value.ref _) (Value.int (Nat.cast _) _)) _ _ _))); k_dflt (refine six_at (by ((with_reducible rename News _ _ _ _ => N8); exact N8)) (by with_reducible assumption) ?_ (by with_unfolding_all rfl) (by (intro _; with_unfolding_all rfl))); (intro _ _)))) | ((fail_if_success (fail_if_success (with_reducible show wpAny _ _ (binaryOp _ _ _) _ _ _))); first | ((fail_if_success (fail_if_success (with_reducible show wpAny _ _ (binaryOp .Add (Value.ref _) (Value.ref _)) _ _ _))); with_reducible (k_here; k_dflt (refine tup_add (by k_asm) (by k_asm) (by k_mem) (by k_mem) (by first | (simp; done) | (intro e9; have e8 := congrArg List.length e9; simp only [List.length_take, List.length_cons, List.length_nil] at e8; omega)) (by (simp only [List.length_take, List.length_drop, List.length_append, List.length_cons, List.length_nil]; omega)) ?_); intro _ _ _ _ N9; (have q9 := tup_apart N9 (by with_reducible k_mem))))) | walk1 | (dsimp only; walk1) | (leave1; walk_say "STEP leave1"; try dsimp only) | fail "no step"))
    all_goals (
      (with_reducible rename Fr _ _ _ _ => F10)
      (with_reducible rename News _ _ _ _ => N10)
      refine turn_next F10 ?_ N10 (by with_reducible assumption) ?_
      exact rfl
      intro q9 hq9
      repeat (first | (with_reducible exact hq9) | (with_reducible apply List.mem_cons_of_mem)))
  · intro h tk m' F2 N2
    (repeat' (first | (k_unfold; (try dsimp only)) | (k_end; wrow_close) | ((fail_if_success (fail_if_success (with_reducible show wpAny _ _ (call _ _ _) _ _ _))); first | (with_reducible (k_here; (fail_if_success (fail_if_success (with_reducible show wpAny _ _ (call (Value.ref 193) [_, _, _, _]) _ _ _))); (fail_if_success (with_reducible rename PartOK _ => po9)); k_dflt (refine CtrL.same (by k_asm) (by k_asm) (by k_asm) (by k_asm) (by k_asm) (by exact rfl) (by ktr_room) (by ktr_units) (by exact rfl) (rr_base (by with_reducible assumption) (by k_mem) (by ((with_reducible refine DmAll.mono ?_ (by with_reducible assumption)); intro _ hq9; repeat (first | (with_reducible exact hq9) | (with_reducible apply List.mem_cons_of_mem)))) (by with_reducible assumption)) ?_); (intro _ _ _ _ _); (try dsimp only); (try k_fold))) | (with_reducible (k_here; (fail_if_success (fail_if_success (with_reducible show wpAny _ _ (call (Value.ref 193) [_, _, _, _]) _ _ _))); (with_reducible rename PartOK _ => po9); k_dflt (refine CtrL.same (by k_asm) (by k_asm) (by k_asm) (by k_asm) (by k_asm) (by exact rfl) (by ktr_room) (by ktr_units) (by exact rfl) (rr_mut (by with_reducible assumption) (by k_mem) (by ((with_reducible refine DmAll.mono ?_ (by with_reducible assumption)); intro _ hq9; repeat (first | (with_reducible exact hq9) | (with_reducible apply List.mem_cons_of_mem)))) (by with_reducible assumption) (by with_reducible assumption) (by with_reducible assumption) (by with_reducible assumption) (by ((with_reducible refine Dm.mono ?_ (by with_reducible assumption)); (with_reducible refine List.forall_mem_cons.mpr ⟨?_, List.forall_mem_cons.mpr ⟨?_, List.forall_mem_cons.mpr ⟨?_, List.forall_mem_cons.mpr ⟨?_, List.forall_mem_nil _⟩⟩⟩⟩); all_goals (repeat (first | (k_dflt exact List.mem_cons_self) | (with_reducible apply List.mem_cons_of_mem)))))) ?_); (intro _ _ _ _ _); (try dsimp only); (try k_fold))) | (with_reducible (k_here; (fail_if_success (fail_if_success (with_reducible show wpAny _ _ (call (Value.builtin _) [Value.str _ _]) _ _ _))); k_dflt (refine len_sx (by assumption) ?_); intro _ _; (try dsimp only))) | (with_reducible (k_here; (fail_if_success (fail_if_success (with_reducible show wpAny _ _ (call (Value.ref 167) [_, Value.int 6 _]) _ _ _))); k_dflt (refine laidA (by k_asm) (by k_asm) (by k_asm) (by k_asm) (by k_asm) (by exact rfl) (by ktr_room) (by ktr_units) (by k_updF) (by first | assumption | exact (rfl : _ = ((21 : Nat) : Int)) | exact (rfl : _ = ((7 : Nat) : Int)) | exact (rfl : _ = ((3 : Nat) : Int)) | exact (rfl : _ = ((6 : Nat) : Int))) (by assumption) (by assumption) (by omega) (by omega) ?_); (intro _ _ _ _ _ _ _ _ _ _ _ _ _ N9); (try dsimp only at N9); (try dsimp only); (try k_fold); walk_at "last subscriptTail"; k_here; k_dflt (refine six_at N9 (by with_reducible assumption) ?_ (by with_unfolding_all rfl) (by (intro _; with_unfolding_all rfl))); intro _ _)) | (with_reducible (k_here; (fail_if_success (fail_if_success (with_reducible show wpAny _ _ (call (Value.ref 167) [_, _]) _ _ _))); k_dflt (refine laidA (by k_asm) (by k_asm) (by k_asm) (by k_asm) (by k_asm) (by exact rfl) (by ktr_room) (by ktr_units) (by k_updF) (by first | assumption | exact (rfl : _ = ((21 : Nat) : Int)) | exact (rfl : _ = ((7 : Nat) : Int)) | exact (rfl : _ = ((3 : Nat) : Int)) | exact (rfl : _ = ((6 : Nat) : Int))) (by assumption) (by assumption) (by omega) (by omega) ?_); (intro _ _ _ _ _ _ _ _ _ _ _ _ _ N9); (try dsimp only at N9); (try dsimp only); (try k_fold))) | (with_reducible (k_here; (fail_if_success (fail_if_success (with_reducible show wpAny _ _ (call (Value.ref 174) _ _) _ _ _))); (k_dflt (show wpAny _ _ (call (Value.ref 174) []) _ _ _)); k_dflt (refine sortsA (by k_asm) (by k_asm) (by k_asm) (by k_asm) (by k_asm) (by exact rfl) (by ktr_room) (by ktr_units) (by k_all) ?_); (intro _ _ _ _ _ _ _ _ _ _ _ _); (try dsimp only); (try k_fold))) | (with_reducible (k_here; (fail_if_success (fail_if_success (with_reducible show wpAny _ _ (call (Value.ref 160) [_, _]) _ _ _))); k_dflt (refine trayA (by k_asm) (by k_asm) (by k_asm) (by k_asm) (by k_asm) (by exact rfl) (by ktr_room) (by ktr_units) (by assumption) (by assumption) (by assumption) (by assumption) ?_); (intro _ _ _ _ _ _ _ _ _ _ _ _ _ _ l9); (try k_lt l9); (try dsimp only); (try k_fold))) | (with_reducible (k_here; (fail_if_success (fail_if_success (with_reducible show wpAny _ _ (call (Value.ref 193) [_, Value.str (Str.ofString "g") _, Value.int 1 _, Value.int 1 _]) _ _ _))); k_dflt (refine CtrL.same (by k_asm) (by k_asm) (by k_asm) (by k_asm) (by k_asm) (by exact rfl) (by ktr_room) (by ktr_units) (by exact rfl) (rr_second (by k_mem)) ?_); (intro _ _ _ _ _); (try dsimp only); (try k_fold))) | (with_reducible (k_here; (fail_if_success (fail_if_success (with_reducible show wpAny _ _ (call (Value.ref 193) [_, Value.str (Str.ofString "rr") _, Value.int 0 _, Value.int 1 _]) _ _ _))); k_dflt (refine CtrL.same (by k_asm) (by k_asm) (by k_asm) (by k_asm) (by k_asm) (by exact rfl) (by ktr_room) (by ktr_units) (by exact rfl) (rr_first (by k_mem)) ?_); (intro _ _ _ _ _); (try dsimp only); (try k_fold)))) | ((fail_if_success (fail_if_success (with_reducible show wpAny _ _ (subscriptTail _ _ _ _) _ _ _))); first | (with_reducible (k_here; (fail_if_success (fail_if_success (with_reducible show wpAny _ _ (subscriptTail _ (PySem.Expr.Slice (some _) none none _) (Value.ref _) (Value.ref _)) _ _ _))); k_dflt (refine tup_from (len_cast _) (by k_asm) (by k_asm) (by k_mem) (by omega) (by (simp only [List.length_cons]; omega)) (by (simp only [List.length_cons]; omega)) ?_ (by with_unfolding_all rfl) (by (intro _; with_unfolding_all rfl))); intro _ _ _ _ l9; (try k_lt l9))) | (with_reducible (k_here; (fail_if_success (fail_if_success (with_reducible show wpAny _ _ (subscriptTail _ (PySem.Expr.Slice none (some _) none _) (Value.ref _) (Value.ref _)) _ _ _))); k_dflt (refine tup_to (by k_asm) (by k_asm) (by k_mem) (by (simp only [List.length_cons]; omega)) (by (simp only [List.length_cons]; omega)) ?_ (by with_unfolding_all rfl) (by (intro _; with_unfolding_all rfl))); intro _ _ _ _ l9; (try k_lt l9))) | (with_reducible (k_here; (fail_if_success (fail_if_success (fail_if_success (with_reducible show wpAny _ _ (subscriptTail (PySem.Expr.Name _ _) _ _ _) _ _ _)))); walk_at "last subscriptTail")) | (with_reducible (k_here; (fail_if_success (fail_if_success (with_reducible show wpAny _ _ (subscriptTail _ _ (Value.ref _) (Value.int (Nat.cast _) _)) _ _ _))); k_dflt (refine sort_at (by k_asm) (by k_mem) (by with_reducible assumption) (by with_reducible assumption) ?_ (by with_unfolding_all rfl) (by (intro _; with_unfolding_all rfl))); (intro _ _ _ _ ls9 eo9 so9; k_dflt (obtain ⟨P9, R9, t9, tl9, ps9, n9, m9, e8, hP9, hR9, hD9⟩ := so9); subst e8; have hsm60 := eo9.sm; have hsm100 := Nat.lt_trans hsm60 (by decide : 60 < 100); have hkl9 := len_cast ls9.cps.size; have hpl9 := hD9.len.trans eo9.len.symm))) | (with_reducible (k_here; (fail_if_success (fail_if_success (with_reducible show wpAny _ _ (subscriptTail _ _ (Value.ref _) (Value.int (Nat.cast _) _)) _ _ _))); k_dflt (refine part_at (by k_asm) (by k_mem) (by k_mem) (by k_mem) (by k_mem) (by k_mem) (by with_reducible assumption) ?_ (by with_unfolding_all rfl) (by (intro _; with_unfolding_all rfl))); (intro _ _ _ _))) | (with_reducible (k_here; (fail_if_success (fail_if_success (with_reducible show wpAny _ _ (subscriptTail _ _ (Value.ref _) (Value.int (Nat.cast _) _)) _ _ _))); k_dflt (refine six_at (by ((with_reducible rename News _ _ _ _ => N8); exact N8)) (by with_reducible assumption) ?_ (by with_unfolding_all rfl) (by (intro _; with_unfolding_all rfl))); (intro _ _)))) | ((fail_if_success (fail_if_success (with_reducible show wpAny _ _ (binaryOp _ _ _) _ _ _))); first | ((fail_if_success (fail_if_success (with_reducible show wpAny _ _ (binaryOp .Add (Value.ref _) (Value.ref _)) _ _ _))); with_reducible (k_here; k_dflt (refine tup_add (by k_asm) (by k_asm) (by k_mem) (by k_mem) (by first | (simp; done) | (intro e9; have e8 := congrArg List.length e9; simp only [List.length_take, List.length_cons, List.length_nil] at e8; omega)) (by (simp only [List.length_take, List.length_drop, List.length_append, List.length_cons, List.length_nil]; omega)) ?_); intro _ _ _ _ N9; (have q9 := tup_apart N9 (by with_reducible k_mem))))) | walk1 | (dsimp only; walk1) | (leave1; walk_say "STEP leave1"; try dsimp only) | fail "no step"))
end Mine
end
theorem PySem.Challenge.cw_xm0678_01_holds : PySem.Challenge.rw_xm0678_01.Holds := by
  exact Mine.whole
