import PyProof.Rows.All
import Wide.All
import OpenK.AllK
import Wide.FinOn
import PySem.Challenge.RW_rh0063_01
set_option Elab.async false
set_option linter.unusedVariables false
local macro_rules | `(tactic| walk_at $s:str) => `(tactic| k_extra $s)
/- Hd -/
section
open PySem PySem.W PyProof.Rows
set_option maxRecDepth 100000
set_option maxHeartbeats 8000000
namespace Mine
open_top hd for PySem.Challenge.rw_rh0063_01
theorem top_off : True := by
  w_top off
  trivial
end Mine
end
/- Rev -/
noncomputable section
open PySem PySem.W PyProof.Rows
set_option maxRecDepth 100000
namespace Mine
open PySem.Calls
section facts
theorem owner_rev : Manifest.owners.lookup (String.ofList ['d', 'e', 's', 'r', 'e', 'v', 'e', 'r'].reverse) = some Manifest.sig_reversed := by kernel_rfl
theorem slot_rev_next : Slot "reversed" "__next__" "reversed.__next__" :=
  .of (owner := "reversed") (n := "__next__") (by rw [typeLookup_type, builtinLookup_eq_fast]; kernel_rfl) (by decide +kernel) (by decide +kernel) (by decide +kernel)
    (by first | exact .inl (by decide +kernel) | exact .inr (by decide +kernel)) (by rw [isSubtype_type]; kernel_rfl)
theorem entry_rev_next : entryFor table "reversed.__next__" = some Builtin.«reversed.__next__» := entryFor_of_tree (by kernel_rfl)
theorem args_rev_next (a : Value) : argsOk "reversed.__next__" ⟨[a], []⟩ := by
  unfold argsOk; rw [signature?_of (id := "reversed.__next__") (n := ['_', '_', 't', 'x', 'e', 'n', '_', '_']) (o := ['d', 'e', 's', 'r', 'e', 'v', 'e', 'r']) (by kernel_rfl) owner_rev]; kernel_rfl
theorem slot_rev_iter : Slot "reversed" "__iter__" "reversed.__iter__" :=
  .of (owner := "reversed") (n := "__iter__") (by rw [typeLookup_type, builtinLookup_eq_fast]; kernel_rfl) (by decide +kernel) (by decide +kernel) (by decide +kernel)
    (by first | exact .inl (by decide +kernel) | exact .inr (by decide +kernel)) (by rw [isSubtype_type]; kernel_rfl)
theorem args_rev_iter (a : Value) : argsOk "reversed.__iter__" ⟨[a], []⟩ := by
  unfold argsOk; rw [signature?_of (id := "reversed.__iter__") (n := ['_', '_', 'r', 'e', 't', 'i', '_', '_']) (o := ['d', 'e', 's', 'r', 'e', 'v', 'e', 'r']) (by kernel_rfl) owner_rev]; kernel_rfl
theorem slot_rev_init : Slot "reversed" "__init__" "object.__init__" :=
  .of (owner := "object") (n := "__init__") (by rw [typeLookup_type, builtinLookup_eq_fast]; kernel_rfl) (by decide +kernel) (by decide +kernel) (by decide +kernel)
    (by first | exact .inl (by decide +kernel) | exact .inr (by decide +kernel)) (by rw [isSubtype_type]; kernel_rfl)
theorem slot_rev_hint : Slot "reversed" "__length_hint__" "reversed.__length_hint__" :=
  .of (owner := "reversed") (n := "__length_hint__") (by rw [typeLookup_type, builtinLookup_eq_fast]; kernel_rfl) (by decide +kernel) (by decide +kernel) (by decide +kernel)
    (by first | exact .inl (by decide +kernel) | exact .inr (by decide +kernel)) (by rw [isSubtype_type]; kernel_rfl)
theorem entry_rev_hint : entryFor table "reversed.__length_hint__" = some Builtin.«reversed.__length_hint__» := entryFor_of_tree (by kernel_rfl)
theorem args_rev_hint (a : Value) : argsOk "reversed.__length_hint__" ⟨[a], []⟩ := by
  unfold argsOk; rw [signature?_of (id := "reversed.__length_hint__") (n := ['_', '_', 't', 'n', 'i', 'h', '_', 'h', 't', 'g', 'n', 'e', 'l', '_', '_']) (o := ['d', 'e', 's', 'r', 'e', 'v', 'e', 'r']) (by kernel_rfl) owner_rev]; kernel_rfl
theorem nolen_rev : typeLookup (.type "reversed") "__len__" = pure none := by rw [typeLookup_type, builtinLookup_eq_fast]; kernel_rfl
theorem norev_tuple : typeLookup (.type "tuple") "__reversed__" = pure none := by rw [typeLookup_type, builtinLookup_eq_fast]; kernel_rfl
theorem called_rev : TypeCalled "reversed" "reversed.__new__" "object.__init__" :=
  ⟨by decide +kernel, PySem.F.create_reversed, ⟨_, _, PySem.F.mro_reversed⟩, PySem.F.made_reversed, PySem.F.plain_reversed_new, PySem.F.sub_reversed_self, slot_rev_init⟩
theorem sub_tuple_dict : isSubtype (.type "tuple") (.type "dict") = pure false := by rw [isSubtype_type]; kernel_rfl
end facts
end Mine
end
/- Rev2 -/
noncomputable section
open PySem PySem.W PyProof.Rows
set_option maxRecDepth 100000
namespace Mine
open PySem.Calls
def revT (t : Addr) (i : Int) : Obj := { cls := .type "reversed", data := .fields #[.ref t, rawInt i] }
section
variable {prog : Program} {w : World} {A : Around} {E : Value → Shared → Prop} {s : Shared}

theorem code_rev_new {t : Addr} {items : Array Value} {Q₁ : Value → Shared → Prop} (ht : IsTup s.heap t items) (hz : items.size ≤ 1000)
    (h : ∀ tk, Q₁ (.ref s.heap.objs.size) { s with heap := s.heap.push (revT t ((items.size : Int) - 1)), toks := tk }) :
    codeAny (model prog w) A (.call (.builtin "reversed.__new__") ⟨[.type "reversed", .ref t], []⟩) (wants Q₁ E) s := by
  refine codeAny_of_tree ?_
  show wpAny _ A.in1 (do checkBuiltinCall "reversed.__new__" ⟨[.type "reversed", .ref t], []⟩; again (.builtin "reversed.__new__" ⟨[.type "reversed", .ref t], []⟩)) _ _ s
  refine wpAny_bind (wpAny_of_eq (PySem.F.newCall_reversed_1 _) (wpAny_pure ⟨plainId_quiet PySem.F.plain_reversed_new _, codeAny_builtin PySem.F.entry_reversed_new ?_⟩))
  rw [Around.under_plainId PySem.F.plain_reversed_new _]
  unfold Builtin.«reversed.__new__»
  refine wpAny_bind (wpAny_of_eq (newClass_reversed _) ?_)
  try dsimp only
  refine wpAny_bind (wpAny_of_eq (a := ()) (by first | rfl | kernel_rfl) ?_)
  refine wpAny_bind (wpAny_of_eq (a := ()) (by first | rfl | kernel_rfl) ?_)
  try dsimp only
  refine wpAny_bind (wpAny_specialOf ht.typeIs norev_tuple ?_)
  try dsimp only
  refine wpAny_bind ?_
  wp_delta
  refine wpAny_bind (wpAny_isInstance (T := "tuple") (b := false) ht.typeIs sub_tuple_dict ?_)
  refine wpAny_ite_split (fun hab => absurd hab (by decide)) (fun _ => ?_)
  refine wpAny_bind (wpAny_specialOf ht.typeIs slot_tuple_getitem.lookup ?_)
  try dsimp only
  refine wpAny_ite_split (fun _ => wpAny_pure ?_) (fun hab => absurd (by decide +kernel) hab)
  refine wpAny_ite_split (fun hab => absurd hab (by decide)) (fun _ => ?_)
  refine wpAny_bind (len_tuple ht (by omega) ?_)
  refine wpAny_bind (wpAny_of_eq (a := some (items.size : Int)) rfl ?_)
  try dsimp only
  refine wpAny_bind (m := Builtin.SmallTypes.newRecord (Value.type "reversed") [Value.ref t, rawInt ((items.size : Int) - 1)]) ?_
  unfold Builtin.SmallTypes.newRecord
  refine wpAny_newObj_type ?_ (by size_fits)
  exact wpAny_pure (h _)

theorem call_rev {t : Addr} {items : Array Value} {Q : Value → Shared → Prop} (ht : IsTup s.heap t items) (hz : items.size ≤ 1000)
    (h : ∀ tk, Q (.ref s.heap.objs.size) { s with heap := s.heap.push (revT t ((items.size : Int) - 1)), toks := tk }) : wpAny (model prog w) A (call (.type "reversed") [.ref t]) Q E s := by
  refine callType_codes (Q₁ := fun obj s₁ => obj = .ref s.heap.objs.size ∧ ∃ tk, s₁ = { s with heap := s.heap.push (revT t ((items.size : Int) - 1)), toks := tk }) called_rev (PySem.F.typeCall_reversed_1 _) PySem.F.entry_object_init (code_rev_new ht hz fun tk => ⟨rfl, _, rfl⟩) ?_
  rintro obj s₁ ⟨rfl, tk, rfl⟩
  refine ⟨⟨_, Heap.get?_push_size _ rfl, rfl⟩, PySem.F.args_object_init_2 _ _, ?_⟩
  exact object_init_meets slot_rev_init.lookup PySem.F.made_reversed (by decide) prog w A.in1 _ _ ⟨⟨_, Heap.get?_push_size _ rfl, rfl⟩, rfl, h _⟩

theorem rev_next_item {it t : Addr} {i : Nat} {items : Array Value} {x : Value} {Q : Option Value → Shared → Prop} (ho : s.heap.get? it = some (revT t (i : Int))) (ht : IsTup s.heap t items) (hx : items[i]? = some x) (hi : i < 1000)
    (hQ : ∀ h' tk, h'.get? it = some (revT t ((i : Int) - 1)) → Heap.SameBut it s.heap h' → Q (some x) { s with heap := h', toks := tk }) : wpAny (model prog w) A (pyNext (.ref it)) Q E s := by
  have hT : s.TypeIs (.ref it) "reversed" := ⟨_, ho, rfl⟩
  unfold pyNext
  refine wpAny_bind (wpAny_attempt (wpAny_callSpecial?_slot (name := Str.ofString "__next__") hT slot_rev_next
    (wpAny_call_entry slot_rev_next hT entry_rev_next ?_ (args_rev_next _))))
  unfold Builtin.«reversed.__next__»
  refine wpAny_bind (wpAny_of_eq (a := (Value.ref it, [])) rfl ?_)
  try dsimp only
  refine wpAny_bind (wpAny_field ho rfl (x := .ref t) rfl ?_)
  refine wpAny_bind (wpAny_field ho rfl (x := rawInt (i : Int)) rfl ?_)
  try dsimp only [rawInt]
  refine wpAny_ite_split (fun hab => absurd hab (by omega)) (fun _ => ?_)
  refine wpAny_bind (wpAny_specialOf ht.typeIs slot_tuple_getitem.lookup ?_)
  refine wpAny_ite_split (fun hab => absurd hab (by decide)) (fun _ => ?_)
  refine wpAny_bind (wpAny_mkInt ?_)
  refine wpAny_bind (wpAny_attempt (getItem_tuple (j := i) (x := x) ht (by omega) (by omega) ?_ hx ?_))
  · have hlt : i < items.size := by
      rcases Nat.lt_or_ge i items.size with h | h
      · exact h
      · rw [Array.getElem?_eq_none h] at hx; cases hx
    unfold seqIndex?
    dsimp only
    rw [if_neg (show ¬ (i : Int) < 0 by omega), if_pos (by simp; omega)]
    simp
  try dsimp only
  refine wpAny_bind (wpAny_field ho rfl (x := rawInt (i : Int)) rfl ?_)
  try dsimp only [rawInt]
  refine wpAny_bind (wpAny_setField ho rfl (by simp) ?_)
  refine wpAny_pure ⟨x, rfl, wpAny_pure (hQ _ _ ?_ (Heap.SameBut.update ..))⟩
  exact Heap.get?_update_self _ ho rfl

theorem rev_next_end {it t : Addr} {Q : Option Value → Shared → Prop} (hh : A.handled = none) (ho : s.heap.get? it = some (revT t (-1)))
    (hQ : ∀ h' tk, Heap.ExtBut it s.heap h' → Q none { s with heap := h', toks := tk }) : wpAny (model prog w) A (pyNext (.ref it)) Q E s := by
  have hT : s.TypeIs (.ref it) "reversed" := ⟨_, ho, rfl⟩
  unfold pyNext
  refine wpAny_bind (wpAny_attempt (wpAny_callSpecial?_slot (name := Str.ofString "__next__") hT slot_rev_next
    (wpAny_call_entry slot_rev_next hT entry_rev_next ?_ (args_rev_next _))))
  unfold Builtin.«reversed.__next__»
  refine wpAny_bind (wpAny_of_eq (a := (Value.ref it, [])) rfl ?_)
  try dsimp only
  refine wpAny_bind (wpAny_field ho rfl (x := .ref t) rfl ?_)
  refine wpAny_bind (wpAny_field ho rfl (x := rawInt (-1)) rfl ?_)
  try dsimp only [rawInt]
  refine wpAny_ite_split (fun _ => ?_) (fun hab => absurd (by decide) hab)
  refine wpAny_bind (wpAny_rule ?_)
  refine wpAny_bind ?_
  wp_delta
  refine wpAny_bind (wpAny_setField ho rfl (by simp) ?_)
  have ho₁ := Heap.get?_update_self (Obj.mapFields (·.setIfInBounds 1 (rawInt (-1)))) ho rfl
  refine wpAny_setField ho₁ rfl (by simp) ?_
  first
  | show wpAny _ _ (newExc (.type "StopIteration") [] >>= _) _ _ _
  | (refine wpAny_bind ?_; show wpAny _ _ (newExc (.type "StopIteration") [] >>= _) _ _ _)
  refine wpAny_bind ?_
  simp only [newExc, newTuple]
  refine wpAny_bind (wpAny_newObj_type ?_ (by size_fits))
  refine wpAny_bind (m := firstArgMember _ _) (wpAny_of_eq (a := Value.none) (by first | rfl | (simp only [firstArgMember]; rfl)) ?_)
  refine wpAny_newObj_type ?_ (by size_fits)
  simp only [raiseNew]
  refine wpAny_bind (wpAny_handled ?_)
  first | rw [show A.in1.handled = none from hh] | rw [hh]
  refine wpAny_bind (wpAny_pure (wpAny_throw ?_))
  refine wpAny_bind (wpAny_isInstance (T := "StopIteration") (b := true) ⟨_, Heap.get?_push_size _ rfl, rfl⟩ isSubtype_stop ?_)
  exact wpAny_pure (hQ _ _ (((((Heap.SameBut.update ..).trans (Heap.SameBut.update ..)).extBut).push _).push _))

theorem entry_rev_iter : entryFor table "reversed.__iter__" = some Builtin.«dict_keyiterator.__iter__» :=
  entryFor_alias (id' := "dict_keyiterator.__iter__") (by kernel_rfl) (by first | rfl | decide +kernel | (unfold String.splitOn; simp +decide [String.splitOnAux])) (by decide +kernel) (by kernel_rfl)
theorem rev_iter {it t : Addr} {i : Int} {Q : Value → Shared → Prop} (ho : s.heap.get? it = some (revT t i)) (h : Q (.ref it) s) : wpAny (model prog w) A (pyIter (.ref it)) Q E s := by
  have hT : s.TypeIs (.ref it) "reversed" := ⟨_, ho, rfl⟩
  refine wpAny_pyIter_slot hT slot_rev_iter (wpAny_call_entry slot_rev_iter hT entry_rev_iter ?_ (args_rev_iter _))
  show wpAny _ _ (ret (.ref it)) _ _ s
  exact wpAny_pure ⟨_, rfl, "reversed", _, hT, slot_rev_next.lookup, h⟩
theorem walks_rev (hh : A.handled = none) (I t : Addr) (items : Array Value) (hne : t ≠ I) (hz : items.size ≤ 1000) :
    Walks prog w A I [I, t] [I] items.size (fun i v => items[items.size - 1 - i]? = some v) (fun i h => i ≤ items.size ∧ h.get? I = some (revT t ((items.size : Int) - 1 - (i : Int))) ∧ IsTup h t items) where
  sub := fun b hb => by simp at hb; simp [hb]
  frame := fun _ _ _ x hk => ⟨x.1, hk I (by simp) _ x.2.1, let ⟨o, ho, r⟩ := x.2.2; ⟨o, hk t (by simp) o ho, r⟩⟩
  item := fun i s Q E hi x hQ => by
    have e : (items.size : Int) - 1 - (i : Int) = ((items.size - 1 - i : Nat) : Int) := by omega
    have hit := x.2.1
    rw [e] at hit
    have hx : items[items.size - 1 - i]? = some (items[items.size - 1 - i]'(by omega)) := Array.getElem?_eq_getElem (by omega)
    refine rev_next_item hit x.2.2 hx (by omega) fun h' tk hit' hs' => ?_
    have e2 : ((items.size - 1 - i : Nat) : Int) - 1 = (items.size : Int) - 1 - ((i + 1 : Nat) : Int) := by omega
    rw [e2] at hit'
    exact hQ _ h' tk hx ⟨hi, hit', x.2.2.extBut hs'.extBut hne⟩ fun b o hb eo => hs'.extBut b o (fun h => hb (by simp [h])) eo
  done := fun s Q E x hQ => by
    have e : (items.size : Int) - 1 - (items.size : Int) = -1 := by omega
    have hit := x.2.1
    rw [e] at hit
    exact rev_next_end hh hit fun h' tk he' => hQ h' tk fun b o hb eo => he' b o (fun h => hb (by simp [h])) eo
  self := fun _ _ _ _ x hQ => rev_iter x.2.1 hQ

theorem rev_hint {it t : Addr} {i : Int} {items : Array Value} {Q : Bool → Shared → Prop} (ho : s.heap.get? it = some (revT t i)) (ht : IsTup s.heap t items) (hz : items.size ≤ 1000) (hi : i = (items.size : Int) - 1)
    (h : ∀ tk, Q (items.size != 0) { s with toks := tk }) : wpAny (model prog w) A (Builtin.List.listLengthHint (.ref it)) Q E s := by
  have hT : s.TypeIs (.ref it) "reversed" := ⟨_, ho, rfl⟩
  unfold Builtin.List.listLengthHint
  refine wpAny_bind (wpAny_specialOf hT nolen_rev ?_)
  show wpAny _ _ (specialOf (Value.ref it) (Str.ofString "__length_hint__") >>= _) _ _ _
  refine wpAny_bind (wpAny_specialOf hT slot_rev_hint.lookup ?_)
  generalize hid : ("reversed.__length_hint__" : String) = id0
  wp_delta
  rw [show splitId id0 = some ("reversed", "__length_hint__") from by subst hid; decide +kernel]
  subst hid
  refine wpAny_bind (wpAny_isInstance (T := "reversed") (b := true) hT PySem.F.sub_reversed_self ?_)
  refine wpAny_ite_split (fun hab => absurd hab (by decide)) (fun _ => ?_)
  try dsimp only
  refine wpAny_ite_split (fun hab => absurd hab (by decide +kernel)) (fun _ => ?_)
  refine wpAny_bind (wpAny_rule ?_)
  refine wpAny_bind (wpAny_of_eq (slot_rev_hint.bind _) ?_)
  try dsimp only
  refine wpAny_bind (wpAny_attempt (wpAny_call_entry slot_rev_hint hT entry_rev_hint ?_ (args_rev_hint _)))
  unfold Builtin.«reversed.__length_hint__»
  refine wpAny_bind (wpAny_of_eq (a := Value.ref it) rfl ?_)
  refine wpAny_bind (wpAny_field ho rfl (x := .ref t) rfl ?_)
  refine wpAny_ite_split (fun hab => absurd hab (by simp)) (fun _ => ?_)
  try dsimp only
  refine wpAny_bind (len_tuple ht (by omega) ?_)
  refine wpAny_bind (wpAny_of_eq (a := some (items.size : Int)) rfl ?_)
  try dsimp only
  refine wpAny_bind (wpAny_field ho rfl (x := rawInt i) rfl ?_)
  try dsimp only [rawInt]
  refine wpAny_ite_split (fun hab => absurd hab (by omega)) (fun _ => ?_)
  refine wpAny_bind (wpAny_mkInt (wpAny_pure ⟨_, rfl, ?_⟩))
  try dsimp only
  refine wpAny_bind (wpAny_of_eq (a := some (i + 1)) rfl ?_)
  try dsimp only
  have e : i + 1 = (items.size : Int) := by omega
  rw [e]
  have hf : Builtin.List.listFitsIndex (items.size : Int) = true := by unfold Builtin.List.listFitsIndex; simp; omega
  have hl : Builtin.List.listTooLong ((items.size : Int).toNat) = false := decide_eq_false (by rw [sizeLine_eq]; omega)
  rw [hf, hl]
  refine wpAny_ite_split (fun hab => absurd hab (by decide)) (fun _ => ?_)
  refine wpAny_ite_split (fun hab => absurd hab (by omega)) (fun _ => ?_)
  refine wpAny_ite_split (fun hab => absurd hab (by decide)) (fun _ => ?_)
  refine wpAny_pure ?_
  have e2 : ((items.size : Int) != 0) = (items.size != 0) := by
    generalize items.size = k
    rw [Bool.eq_iff_iff, bne_iff_ne, bne_iff_ne]
    omega
  rw [e2]
  exact h _
end
end Mine
end
/- Rev3 -/
noncomputable section
open PySem PySem.W PyProof.Rows
set_option maxRecDepth 100000
namespace Mine
open PySem.Calls
section
variable {prog : Program} {w : World} {A : Around} {E : Value → Shared → Prop} {s : Shared}

theorem ext_loop {R : Result → Shared → Prop} {I : Addr} {fp wr : List Addr} {n : Nat} {P : Nat → Value → Prop} {St : Nat → Heap → Prop} (W : Walks prog w A.in1 I fp wr n P St) (S : Addr) (hSf : S ∉ fp) (res : Value) :
    ∀ (k i : Nat) (s : Shared) (acc : List Value) (c : Nat), n - i = k → i ≤ n → St i s.heap → s.heap.get? S = some (listOf acc.toArray c) → acc.length + k ≤ sizeLine →
    (∀ h' tk (ys : List Value) c', ys.length = k → (∀ j v, ys[j]? = some v → P (i + j) v) → (∀ b o, b ∉ S :: wr → s.heap.get? b = some o → h'.get? b = some o) →
      h'.get? S = some (listOf (acc ++ ys).toArray c') → R (.ok (.ret res)) { s with heap := h', toks := tk }) →
    codeAny (model prog w) A (.builtin "list.extend.loop" ⟨[.ref S, .ref I, res], []⟩) R s := by
  have hSw : S ∉ wr := fun h => hSf (W.sub _ h)
  intro k
  induction k with
  | zero =>
    intro i s acc c hk hi hst hS hz hR
    have hin : i = n := by omega
    subst hin
    refine codeAny_builtin PySem.F.entry_extend_loop ?_
    rw [Around.under_plainId PySem.F.plain_extend_loop _]
    show wpAny _ A.in1 (pyNext (.ref I) >>= _) _ _ s
    refine wpAny_bind (W.done s _ _ hst fun h' tk hm => ?_)
    refine wpAny_pure (hR h' tk [] c rfl (fun j v h => by simp at h) (fun b o hb e => hm b o (fun hh => hb (List.mem_cons_of_mem _ hh)) e) ?_)
    rw [List.append_nil]
    exact hm S _ hSw hS
  | succ k ih =>
    intro i s acc c hk hi hst hS hz hR
    have hlt : i < n := by omega
    refine codeAny_builtin PySem.F.entry_extend_loop ?_
    rw [Around.under_plainId PySem.F.plain_extend_loop _]
    show wpAny _ A.in1 (pyNext (.ref I) >>= _) _ _ s
    refine wpAny_bind (W.item i s _ _ hlt hst fun v h' tk hP hst' hm => ?_)
    have hS' := hm S _ hSw hS
    show wpAny _ A.in1 (updateSeq S (·.push v) >>= _) _ _ _
    refine wpAny_bind ?_
    refine wpAny_updateSeq hS' rfl (wpAny_pure ⟨plainId_quiet PySem.F.plain_extend_loop _, ih (i + 1) _ (acc ++ [v]) (c + 1) (by omega) hlt (W.frame _ _ _ hst' fun b hb o e => ?_) ?_ ?_ fun h'' tk'' ys c'' hl hys hk'' hS'' => ?_⟩) ?_ ?_
    · exact (Heap.get?_update_other _ _ (fun h : S = b => hSf (by rw [h]; exact hb))).trans e
    · rw [Heap.get?_update_self _ hS' rfl]
      simp [Obj.mapSeq]
    · rw [List.length_append, List.length_singleton]; omega
    · refine hR h'' tk'' (v :: ys) c'' (by rw [List.length_cons, hl]) (fun j x hx => ?_) (fun b o hb e => ?_) ?_
      · cases j with
        | zero => simp at hx; subst hx; exact hP
        | succ j => simp at hx; have := hys j x hx; rwa [show i + (j + 1) = i + 1 + j by omega]
      · refine hk'' b o hb ?_
        exact (Heap.get?_update_other _ _ (fun h : S = b => hb (by rw [h]; exact List.mem_cons_self))).trans (hm b o (fun hh => hb (List.mem_cons_of_mem _ hh)) e)
      · rw [hS'']; simp
    · rw [List.size_toArray]; omega
    · simp only [Array.size_push, List.size_toArray]; omega

theorem ext_rev {R : Result → Shared → Prop} {it t S : Addr} {items : Array Value} {acc : List Value} {c : Nat} {res : Value} (hh : A.handled = none) (ho : s.heap.get? it = some (revT t ((items.size : Int) - 1))) (ht : IsTup s.heap t items) (hz : items.size ≤ 1000) (hne : t ≠ it)
    (hSi : S ≠ it) (hSt : S ≠ t) (hS : s.heap.get? S = some (listOf acc.toArray c)) (hl : acc.length ≤ 1000000)
    (hR : ∀ h' tk c', (∀ b o, b ≠ S → b ≠ it → s.heap.get? b = some o → h'.get? b = some o) → h'.get? S = some (listOf (acc ++ items.toList.reverse).toArray c') → R (.ok (.ret res)) { s with heap := h', toks := tk }) :
    wpAny (model prog w) A.in1 (Builtin.List.listExtendWith (.ref S) (.ref it) res)
      (fun fin s' => match fin with | .done f => R (.ok f) s' | .again c' => c'.quiet = true ∧ codeAny (model prog w) A c' R s') (fun e s' => R (.error e) s') s := by
  have hT : s.TypeIs (.ref it) "reversed" := ⟨_, ho, rfl⟩
  have hSf : S ∉ [it, t] := by simp only [List.mem_cons, List.not_mem_nil, or_false, not_or]; exact ⟨hSi, hSt⟩
  have W := walks_rev (prog := prog) (w := w) (A := A.in1) hh it t items hne hz
  have key : ∀ (h : Heap) (c₁ tk : Nat), h.get? it = some (revT t ((items.size : Int) - 1)) → IsTup h t items → (∀ b o, b ≠ S → b ≠ it → s.heap.get? b = some o → h.get? b = some o) →
      h.get? S = some (listOf acc.toArray c₁) → codeAny (model prog w) A (.builtin "list.extend.loop" ⟨[.ref S, .ref it, res], []⟩) R { s with heap := h, toks := tk } := by
    intro h c₁ tk ho₁ ht₁ hk hS₁
    refine ext_loop W S hSf res items.size 0 _ acc c₁ rfl (Nat.zero_le _) ⟨Nat.zero_le _, by simpa using ho₁, ht₁⟩ hS₁ (by rw [sizeLine_eq]; omega) fun h' tk' ys c' hlen hys hk' hS' => ?_
    refine hR h' tk' c' (fun b o h1 h2 e => hk' b o (by simp only [List.mem_cons, List.not_mem_nil, or_false, not_or]; exact ⟨h1, h2⟩) (hk b o h1 h2 e)) ?_
    have e : ys = items.toList.reverse := by
      refine List.ext_getElem? fun j => ?_
      rcases Nat.lt_or_ge j ys.length with hj | hj
      · have h1 := hys j ys[j] (List.getElem?_eq_getElem hj)
        rw [List.getElem?_eq_getElem hj, ← h1]
        rw [List.getElem?_reverse (by rw [Array.length_toList]; omega), Array.length_toList, ← Array.getElem?_toList]
        congr 1; omega
      · rw [List.getElem?_eq_none hj, List.getElem?_eq_none (by rw [List.length_reverse, Array.length_toList]; omega)]
    rw [← e]; exact hS'
  unfold Builtin.List.listExtendWith
  refine wpAny_bind (wpAny_typeOf (T := "reversed") hT ?_)
  have h1 : Builtin.List.listSameRef (.ref S) (.ref it) = false := by simp [Builtin.List.listSameRef, hSi]
  have h2 : (Value.type "reversed" == Value.type "list") = false := by decide
  have h3 : (Value.type "reversed" == Value.type "tuple") = false := by decide
  simp only [h1, h2, h3, Bool.or_false, Bool.false_eq_true, if_false]
  refine wpAny_bind (rev_iter ho ?_)
  refine wpAny_bind (wpAny_holding (rev_hint ho ht hz rfl fun tk => ?_))
  refine wpAny_ite_split (fun _ => ?_) (fun _ => wpAny_pure ⟨plainId_quiet PySem.F.plain_extend_loop _, key _ c _ ho ht (fun _ _ _ _ e => e) hS⟩)
  refine wpAny_bind (wpAny_rule ?_)
  refine wpAny_bind ?_
  show wpAny _ _ (updateSeq S (·.push .none) >>= fun _ => updateSeq S (·.pop)) _ _ _
  have hz0 : acc.toArray.size ≤ sizeLine := by rw [List.size_toArray, sizeLine_eq]; omega
  refine wpAny_bind (wpAny_updateSeq hS rfl ?_ hz0 (by rw [Array.size_push]; omega))
  have hS₂ := Heap.get?_update_self (Obj.mapSeq (·.push Value.none)) hS rfl
  refine wpAny_updateSeq hS₂ rfl ?_ (by rw [List.size_toArray] at hz0; rw [sizeLine_eq] at *; simp; omega) (by rw [List.size_toArray] at hz0; simp; omega)
  have hS₃ := Heap.get?_update_self (Obj.mapSeq (·.pop)) hS₂ rfl
  have oth : ∀ b o, b ≠ S → s.heap.get? b = some o → ((s.heap.update S (Obj.mapSeq (·.push Value.none))).update S (Obj.mapSeq (·.pop))).get? b = some o :=
    fun b o hb e => (Heap.get?_update_other _ _ (Ne.symm hb)).trans ((Heap.get?_update_other _ _ (Ne.symm hb)).trans e)
  refine wpAny_pure ⟨plainId_quiet PySem.F.plain_extend_loop _, key _ (c + 2) _ (oth it _ hSi.symm ho) ?_ (fun b o hb _ e => oth b o hb e) ?_⟩
  · obtain ⟨o, e, r⟩ := ht
    exact ⟨o, oth t o hSt.symm e, r⟩
  · rw [hS₃]; simp [Obj.mapSeq]
end
end Mine
end
/- Rev4 -/
noncomputable section
open PySem PySem.W PyProof.Rows
set_option maxRecDepth 100000
namespace Mine
open PySem.Calls
section
variable {prog : Program} {w : World} {A : Around} {E : Value → Shared → Prop} {s : Shared} {h₀ : Heap} {L : Addr} {m : Str → Option Value} {news : List (Addr × Obj)} {news' : Nat → List (Addr × Obj)}

/-- list(reversed(t)) -/
theorem list_rev {it t : Addr} {items : Array Value} {Q : Value → Shared → Prop} (hh : A.handled = none) (ho : s.heap.get? it = some (revT t ((items.size : Int) - 1))) (ht : IsTup s.heap t items) (hz : items.size ≤ 1000) (hne : t ≠ it)
    (F : Fr h₀ L s.heap m) (N : News h₀ L s.heap ((it, revT t ((items.size : Int) - 1)) :: news)) (hlt : ∀ q ∈ news, q.1 ≠ it)
    (h : ∀ S c h' tk, Fr h₀ L h' m → News h₀ L h' ((S, listOf items.toList.reverse.toArray c) :: news) → (∀ q ∈ news, q.1 < S) → Q (.ref S) { s with heap := h', toks := tk }) :
    wpAny (model prog w) A (call (.type "list") [.ref it]) Q E s := by
  refine callType_codes (Q₁ := fun obj s₁ => obj = .ref s.heap.objs.size ∧ s₁ = { s with heap := s.heap.push { cls := .type "list", data := .seq #[] } }) PySem.F.called_list (PySem.F.typeCall_list_1 _) PySem.F.entry_list_init
    (code_list_new _ ⟨rfl, rfl⟩) fun obj s₁ h₁ => ?_
  obtain ⟨rfl, rfl⟩ := h₁
  have hS : (s.heap.push { cls := .type "list", data := .seq #[] }).get? s.heap.objs.size = some { cls := .type "list", data := .seq #[] } := Heap.get?_push_size _ rfl
  refine ⟨⟨_, hS, rfl⟩, PySem.F.args_list_init_2 _ _, ?_⟩
  show wpAny _ _ (do let old ← Builtin.List.listItems (.ref s.heap.objs.size); Builtin.List.listUpdate (.ref s.heap.objs.size) (fun _ => #[]); letGo old.toList.reverse; Builtin.List.listExtendWith (.ref s.heap.objs.size) (.ref it) .none) _ _ _
  refine wpAny_bind ?_
  unfold Builtin.List.listItems
  refine wpAny_bind (wpAny_seqItems hS rfl (wpAny_pure ?_))
  show wpAny _ _ (updateSeq s.heap.objs.size (fun _ => #[]) >>= fun _ => letGo (#[] : Array Value).toList.reverse >>= fun _ => Builtin.List.listExtendWith (.ref s.heap.objs.size) (.ref it) .none) _ _ _
  refine wpAny_bind (wpAny_updateSeq hS rfl ?_)
  have hS₂ := Heap.get?_update_self (Obj.mapSeq (fun _ => (#[] : Array Value))) hS rfl
  have oth : ∀ b o, b ≠ s.heap.objs.size → s.heap.get? b = some o → ((s.heap.push { cls := .type "list", data := .seq #[] }).update s.heap.objs.size (Obj.mapSeq (fun _ => (#[] : Array Value)))).get? b = some o :=
    fun b o hb e => (Heap.get?_update_other _ _ (Ne.symm hb)).trans (Heap.get?_push_of_some _ e)
  refine wpAny_bind (wpAny_letGo ?_)
  have hit := Heap.lt_size ho
  obtain ⟨ot, het, rt⟩ := id ht
  have htt := Heap.lt_size het
  have ne : ∀ b o, s.heap.get? b = some o → b ≠ s.heap.objs.size := fun b o e => Nat.ne_of_lt (Heap.lt_size e)
  refine ext_rev (acc := []) hh (oth it _ (Nat.ne_of_lt hit) ho) ⟨ot, oth t _ (Nat.ne_of_lt htt) het, rt⟩ hz hne (Nat.ne_of_gt hit) (Nat.ne_of_gt htt) hS₂ (by simp) fun h' tk c' hk hS' => ?_
  have hk' : ∀ b o, b ≠ it → s.heap.get? b = some o → h'.get? b = some o := fun b o hb e => hk b o (ne b o e) hb (oth b o (ne b o e) e)
  have Z := N (it, _) (.head _)
  obtain ⟨oL, es, ep, hL, hr⟩ := F.ns
  refine ⟨rfl, h _ c' h' tk ⟨⟨oL, es, ep, hk' L oL (Ne.symm Z.2.1) hL, hr⟩, fun b o e => hk' b o (fun q => ?_) (F.keep b o e), F.above⟩ (fun q hq => ?_) fun q hq => Heap.lt_size (N q (.tail _ hq)).1⟩
  · have := Z.2.2; rw [← q, e] at this; cases this
  · rcases List.mem_cons.mp hq with rfl | hq
    · refine ⟨by rw [List.nil_append] at hS'; exact hS', Nat.ne_of_gt (Heap.lt_size hL), ?_⟩
      cases q : h₀.get? s.heap.objs.size with
      | none => rfl
      | some o => exact absurd (Heap.lt_size (F.keep _ _ q)) (Nat.lt_irrefl _)
    · exact ⟨hk' _ _ (hlt q hq) (N q (.tail _ hq)).1, (N q (.tail _ hq)).2⟩

/-- S.extend(reversed(t)) -/
theorem extend_rev {it t S : Addr} {items : Array Value} {acc : List Value} {c : Nat} {Q : Value → Shared → Prop} (hh : A.handled = none) (ho : s.heap.get? it = some (revT t ((items.size : Int) - 1))) (ht : IsTup s.heap t items) (hz : items.size ≤ 1000) (hne : t ≠ it) (hSt : S ≠ t)
    (F : Fr h₀ L s.heap m) (N : News h₀ L s.heap ((it, revT t ((items.size : Int) - 1)) :: news)) (hlt : ∀ q ∈ news, q.1 ≠ it) (hl : acc.length ≤ 1000000)
    (U : ∀ c', Upd S (listOf acc.toArray c) (listOf (acc ++ items.toList.reverse).toArray c') news (news' c'))
    (h : ∀ c h' tk, Fr h₀ L h' m → News h₀ L h' (news' c) → Q .none { s with heap := h', toks := tk }) :
    wpAny (model prog w) A (call (.builtin "list.extend") [.ref S, .ref it]) Q E s := by
  obtain ⟨pre, post, e1, -, a, b⟩ := (U 0).split
  have hm : (S, listOf acc.toArray c) ∈ news := by rw [e1]; simp
  have z := N (S, listOf acc.toArray c) (.tail _ hm)
  have Z := N (it, _) (.head _)
  obtain ⟨ot, het, rt⟩ := id ht
  refine wpAny_call (codeAny_call_builtin PySem.F.slot_list_extend.plain PySem.F.entry_list_extend (PySem.F.slot_list_extend.check _ _ _ _ _ _ _ _ ⟨_, z.1, rfl⟩ (PySem.F.args_list_extend_2 _ _) ?_))
  show wpAny _ _ (Builtin.List.listExtendWith (.ref S) (.ref it) .none) _ _ _
  have hSi : S ≠ it := hlt _ hm
  refine ext_rev (R := wants Q E) hh ho ht hz hne hSi hSt z.1 hl fun h' tk c' hk hS' => ?_
  show Q _ _
  obtain ⟨pre', post', e3, e4, a', b'⟩ := (U c').split
  obtain ⟨oL, es, ep, hL, hr⟩ := F.ns
  refine h c' h' tk ⟨⟨oL, es, ep, hk L oL (Ne.symm z.2.1) (Ne.symm Z.2.1) hL, hr⟩, fun b o e => hk b o (fun q => ?_) (fun q => ?_) (F.keep b o e), F.above⟩ (fun q hq => ?_)
  · have := z.2.2; rw [← q, e] at this; cases this
  · have := Z.2.2; rw [← q, e] at this; cases this
  · rw [e4] at hq
    have old : ∀ p ∈ news, p.1 ≠ S → h'.get? p.1 = some p.2 ∧ p.1 ≠ L ∧ h₀.get? p.1 = none := fun p hp hne => ⟨hk _ _ hne (hlt p hp) (N p (.tail _ hp)).1, (N p (.tail _ hp)).2⟩
    rcases List.mem_append.mp hq with hq | hq
    · exact old q (by rw [e3]; exact List.mem_append_left _ hq) (a' q hq)
    · rcases List.mem_cons.mp hq with rfl | hq
      · exact ⟨hS', z.2⟩
      · exact old q (by rw [e3]; exact List.mem_append_right _ (.tail _ hq)) (b' q hq)
theorem mk_rev {t : Addr} {items : List Value} {news : List (Addr × Obj)} {Q : Value → Shared → Prop} (ht : IsTup s.heap t items.toArray) (hz : items.length ≤ 1000) (F : Fr h₀ L s.heap m) (N : News h₀ L s.heap news)
    (h : ∀ D h' tk, Fr h₀ L h' m → News h₀ L h' ((D, revT t ((items.length : Int) - 1)) :: news) → (∀ p ∈ news, p.1 < D) → t < D → Q (.ref D) { s with heap := h', toks := tk }) :
    wpAny (model prog w) A (call (.type "reversed") [.ref t]) Q E s := by
  refine call_rev ht (by rw [List.size_toArray]; exact hz) fun tk => ?_
  have e : ((items.toArray.size : Nat) : Int) - 1 = (items.length : Int) - 1 := by simp
  rw [e]
  exact h _ _ tk (F.push _) (N.push F _) (fun p hp => Heap.lt_size (N p hp).1) ht.lt
theorem list_revL {it t : Addr} {items : List Value} {news : List (Addr × Obj)} {Q : Value → Shared → Prop} (hh : A.handled = none) (ht : IsTup s.heap t items.toArray) (hz : items.length ≤ 1000) (hne : t < it)
    (F : Fr h₀ L s.heap m) (N : News h₀ L s.heap ((it, revT t ((items.length : Int) - 1)) :: news)) (hlt : ∀ q ∈ news, q.1 ≠ it)
    (h : ∀ S c h' tk, Fr h₀ L h' m → News h₀ L h' ((S, listOf items.reverse.toArray c) :: news) → (∀ q ∈ news, q.1 < S) → Q (.ref S) { s with heap := h', toks := tk }) :
    wpAny (model prog w) A (call (.type "list") [.ref it]) Q E s := by
  have e : ((items.toArray.size : Nat) : Int) - 1 = (items.length : Int) - 1 := by simp
  rw [← e] at N
  exact list_rev hh (N _ (.head _)).1 ht (by rw [List.size_toArray]; exact hz) (Nat.ne_of_lt hne) F N hlt h
theorem extend_revL {it t S : Addr} {items : List Value} {acc : List Value} {c : Nat} {news : List (Addr × Obj)} {news' : Nat → List (Addr × Obj)} {Q : Value → Shared → Prop} (hh : A.handled = none) (F : Fr h₀ L s.heap m) (N : News h₀ L s.heap ((it, revT t ((items.length : Int) - 1)) :: news)) (ht : IsTup h₀ t items.toArray) (hz : items.length ≤ 1000) (hne : t < it)
    (hlt : ∀ q ∈ news, q.1 ≠ it)
    (U : ∀ c', Upd S (listOf acc.toArray c) (listOf (acc ++ items.reverse).toArray c') news (news' c')) (hl : acc.length ≤ 1000000)
    (h : ∀ c h' tk, Fr h₀ L h' m → News h₀ L h' (news' c) → Q .none { s with heap := h', toks := tk }) :
    wpAny (model prog w) A (call (.builtin "list.extend") [.ref S, .ref it]) Q E s := by
  have e : ((items.toArray.size : Nat) : Int) - 1 = (items.length : Int) - 1 := by simp
  rw [← e] at N
  obtain ⟨pre, post, e1, -, a, b⟩ := (U 0).split
  have hm : (S, listOf acc.toArray c) ∈ news := by rw [e1]; simp
  have z := N (S, listOf acc.toArray c) (.tail _ hm)
  have hSt : S ≠ t := fun q => by
    obtain ⟨o, ho, _⟩ := ht
    have := z.2.2
    rw [q] at this
    rw [this] at ho; cases ho
  exact extend_rev hh (N _ (.head _)).1 (F.tup ht) (by rw [List.size_toArray]; exact hz) (Nat.ne_of_lt hne) hSt F N hlt hl U h
end
end Mine
end
/- Dat -/
noncomputable section
open PySem PySem.W PyProof.Rows
namespace Mine
/-- everything is kept -/
def Keeps (h h' : Heap) : Prop := ∀ b o, h.get? b = some o → h'.get? b = some o
theorem Keeps.refl {h : Heap} : Keeps h h := fun _ _ e => e
theorem Keeps.trans {h h' h'' : Heap} (a : Keeps h h') (b : Keeps h' h'') : Keeps h h'' := fun c o e => b c o (a c o e)

inductive All2 {α β : Type} (R : α → β → Prop) : List α → List β → Prop where
  | nil : All2 R [] []
  | cons {a b l m} : R a b → All2 R l m → All2 R (a :: l) (b :: m)
theorem All2.length {α β : Type} {R : α → β → Prop} {l : List α} {m : List β} (h : All2 R l m) : l.length = m.length := by
  induction h with
  | nil => rfl
  | cons _ _ ih => simp [ih]
theorem All2.append {α β : Type} {R : α → β → Prop} {l l' : List α} {m m' : List β} (h : All2 R l m) (h' : All2 R l' m') : All2 R (l ++ l') (m ++ m') := by
  induction h with
  | nil => exact h'
  | cons a _ ih => exact .cons a ih
theorem All2.one {α β : Type} {R : α → β → Prop} {a : α} {b : β} (h : R a b) : All2 R [a] [b] := .cons h .nil
theorem All2.reverse {α β : Type} {R : α → β → Prop} {l : List α} {m : List β} (h : All2 R l m) : All2 R l.reverse m.reverse := by
  induction h with
  | nil => exact .nil
  | cons a _ ih => rw [List.reverse_cons, List.reverse_cons]; exact ih.append (.one a)
theorem All2.mono {α β : Type} {R S : α → β → Prop} {l : List α} {m : List β} (h : All2 R l m) (hs : ∀ a b, R a b → S a b) : All2 S l m := by
  induction h with
  | nil => exact .nil
  | cons a _ ih => exact .cons (hs _ _ a) ih
theorem All2.snoc_inv {α β : Type} {R : α → β → Prop} {l : List α} {a : α} : ∀ {m : List β}, All2 R (l ++ [a]) m → ∃ m' b, m = m' ++ [b] ∧ All2 R l m' ∧ R a b := by
  induction l with
  | nil =>
    intro m h
    cases h with
    | cons x r => cases r with | nil => exact ⟨[], _, rfl, .nil, x⟩
  | cons y l ih =>
    intro m h
    cases h with
    | cons x r =>
      obtain ⟨m', b, e, h1, h2⟩ := ih r
      exact ⟨_ :: m', b, by rw [e]; rfl, .cons x h1, h2⟩
theorem All2.get {α β : Type} {R : α → β → Prop} {l : List α} {m : List β} (h : All2 R l m) : ∀ {i : Nat} {a : α}, l[i]? = some a → ∃ b, m[i]? = some b ∧ R a b := by
  induction h with
  | nil => intro i a e; simp at e
  | cons x _ ih =>
    intro i a e
    cases i with
    | zero => simp at e; subst e; exact ⟨_, rfl, x⟩
    | succ i => simp at e; simpa using ih e
theorem All2.get' {α β : Type} {R : α → β → Prop} {l : List α} {m : List β} (h : All2 R l m) : ∀ {i : Nat} {b : β}, m[i]? = some b → ∃ a, l[i]? = some a ∧ R a b := by
  induction h with
  | nil => intro i a e; simp at e
  | cons x _ ih =>
    intro i a e
    cases i with
    | zero => simp at e; subst e; exact ⟨_, rfl, x⟩
    | succ i => simp at e; simpa using ih e
theorem All2.take {α β : Type} {R : α → β → Prop} {l : List α} {m : List β} (h : All2 R l m) : ∀ n, All2 R (l.take n) (m.take n) := by
  induction h with
  | nil => intro n; simp; exact .nil
  | cons x _ ih => intro n; cases n with
    | zero => exact .nil
    | succ n => exact .cons x (ih n)
theorem All2.drop {α β : Type} {R : α → β → Prop} {l : List α} {m : List β} (h : All2 R l m) : ∀ n, All2 R (l.drop n) (m.drop n) := by
  induction h with
  | nil => intro n; simp; exact .nil
  | cons x r ih => intro n; cases n with
    | zero => exact .cons x r
    | succ n => exact ih n
theorem snoc_cases {α : Type} (l : List α) : l = [] ∨ ∃ p y, l = p ++ [y] := by
  rcases List.eq_nil_or_concat l with h | ⟨p, y, h⟩
  · exact .inl h
  · exact .inr ⟨p, y, by simpa using h⟩

/-- terms -/
inductive Tm where
  | v (n : Int)
  | c
  | s (n : Int)
def VarAt (h : Heap) (x : Value) (n : Int) : Prop := ∃ a t u, x = .ref a ∧ IsTup h a [.str "v" t, .int n u].toArray
def CstAt (h : Heap) (x : Value) : Prop := ∃ a t y k, x = .ref a ∧ (k = ("a" : Str) ∨ k = ("i" : Str)) ∧ IsTup h a [.str k t, y].toArray
def TmAt (h : Heap) : Value → Tm → Prop
  | x, .v n => VarAt h x n
  | x, .c => CstAt h x
  | x, .s n => ∃ a t y b e1 e2, x = .ref a ∧ IsTup h a [.str "s" t, y, .ref b].toArray ∧ IsTup h b [e1, e2].toArray ∧ VarAt h e1 n ∧ CstAt h e2
theorem VarAt.keeps {h h' : Heap} (k : Keeps h h') {x : Value} {n : Int} (e : VarAt h x n) : VarAt h' x n := let ⟨a, t, u, e1, e2⟩ := e; ⟨a, t, u, e1, e2.keeps k⟩
theorem CstAt.keeps {h h' : Heap} (k : Keeps h h') {x : Value} (e : CstAt h x) : CstAt h' x := let ⟨a, t, u, y, e1, e2, e3⟩ := e; ⟨a, t, u, y, e1, e2, e3.keeps k⟩
theorem TmAt.keeps {h h' : Heap} (k : Keeps h h') : ∀ {x : Value} {t : Tm}, TmAt h x t → TmAt h' x t
  | _, .v _, e => VarAt.keeps k e
  | _, .c, e => CstAt.keeps k e
  | _, .s _, e => let ⟨a, t, y, b, e1, e2, h1, h2, h3, h4, h5⟩ := e; ⟨a, t, y, b, e1, e2, h1, h2.keeps k, h3.keeps k, h4.keeps k, h5.keeps k⟩
def flatV : Tm → List Int
  | .v n => [n]
  | .c => []
  | .s n => [n]
def flatsV (l : List Tm) : List Int := l.flatMap flatV
def addv (r : List Int) (n : Int) : List Int := if n ∈ r then r else r ++ [n]
def varsOf (l : List Tm) : List Int := (flatsV l).foldl addv []
def wt : Tm → Nat
  | .v _ => 1
  | .c => 1
  | .s _ => 3
def wts (l : List Tm) : Nat := (l.map wt).sum
theorem wts_append (a b : List Tm) : wts (a ++ b) = wts a + wts b := by simp [wts]
theorem wts_one (a : Tm) : wts [a] = wt a := by simp [wts]
theorem flatsV_append (a b : List Tm) : flatsV (a ++ b) = flatsV a ++ flatsV b := by simp [flatsV]
theorem wts_pos (a : Tm) : 0 < wt a := by cases a <;> simp [wt]
theorem len_le_wts (l : List Tm) : l.length ≤ wts l := by
  induction l with
  | nil => simp [wts]
  | cons a r ih => have := wts_pos a; simp [wts] at *; omega
theorem addv_len (r : List Int) (n : Int) : (addv r n).length ≤ r.length + 1 := by
  unfold addv; split <;> simp
end Mine
namespace Mine
theorem tgt_v (us : List Tm) (n : Int) (rs : List Int) : (flatsV (us ++ [Tm.v n]).reverse).foldl addv rs = (flatsV us.reverse).foldl addv (addv rs n) := by
  rw [List.reverse_append, flatsV_append, List.foldl_append]; rfl
theorem tgt_c (us : List Tm) (rs : List Int) : (flatsV (us ++ [Tm.c]).reverse).foldl addv rs = (flatsV us.reverse).foldl addv rs := by
  rw [List.reverse_append, flatsV_append, List.foldl_append]; rfl
theorem tgt_s (us : List Tm) (n : Int) (rs : List Int) : (flatsV (us ++ [Tm.s n]).reverse).foldl addv rs = (flatsV (us ++ [Tm.c, Tm.v n]).reverse).foldl addv rs := by
  rw [List.reverse_append, List.reverse_append, flatsV_append, flatsV_append, List.foldl_append, List.foldl_append]; rfl
theorem addv_in {r : List Int} {n : Int} (h : n ∈ r) : addv r n = r := if_pos h
theorem addv_out {r : List Int} {n : Int} (h : ¬ n ∈ r) : addv r n = r ++ [n] := if_neg h
end Mine
namespace Mine
/-- the tuples are kept -/
def KeepsT (h h' : Heap) : Prop := ∀ b o, h.get? b = some o → o.cls = .type "tuple" → h'.get? b = some o
theorem Keeps.toT {h h' : Heap} (k : Keeps h h') : KeepsT h h' := fun b o e _ => k b o e
theorem tup_keepsT {h h' : Heap} (k : KeepsT h h') {a : Addr} {its : Array Value} (x : IsTup h a its) : IsTup h' a its := let ⟨o, ho, hc, r⟩ := x; ⟨o, k a o ho hc, hc, r⟩
theorem VarAt.keepsT {h h' : Heap} (k : KeepsT h h') {x : Value} {n : Int} (e : VarAt h x n) : VarAt h' x n := let ⟨a, t, u, e1, e2⟩ := e; ⟨a, t, u, e1, tup_keepsT k e2⟩
theorem CstAt.keepsT {h h' : Heap} (k : KeepsT h h') {x : Value} (e : CstAt h x) : CstAt h' x := let ⟨a, t, u, y, e1, e2, e3⟩ := e; ⟨a, t, u, y, e1, e2, tup_keepsT k e3⟩
theorem TmAt.keepsT {h h' : Heap} (k : KeepsT h h') : ∀ {x : Value} {t : Tm}, TmAt h x t → TmAt h' x t
  | _, .v _, e => VarAt.keepsT k e
  | _, .c, e => CstAt.keepsT k e
  | _, .s _, e => let ⟨a, t, y, b, e1, e2, h1, h2, h3, h4, h5⟩ := e; ⟨a, t, y, b, e1, e2, h1, tup_keepsT k h2, tup_keepsT k h3, h4.keepsT k, h5.keepsT k⟩
end Mine
end
/- Base -/
noncomputable section
open PySem PySem.W PyProof.Rows
set_option maxRecDepth 100000
set_option maxHeartbeats 8000000
namespace Mine
abbrev AK (d u : Nat) : Around := { handled := none, depth := d, frames := none, guards := none, units := u }
theorem weaken {α : Type} {M : Model} {A : Around} {t : Sem α} {Q : α → Shared → Prop} {E : Value → Shared → Prop} {s : Shared} (d u : Nat)
    (h : wpAny M (AK d u) t Q E s) (h1 : A.handled = none) (h2 : A.depth ≤ d) (h3 : A.units ≤ u) : wpAny M A t Q E s :=
  fun Γ p hΓ => h Γ p ⟨hΓ.1.trans h1, Nat.le_trans hΓ.2.1 h2, (fun _ hl => by injection hl), (fun _ hg => by injection hg), Nat.le_trans hΓ.2.2.2.2 h3⟩

theorem call_ro {prog : Program} {w : World} {A : Around} {s : Shared} {K : Frag} {p : Program} {loose : List Str} {mean : ExcName → Option Value} {mg mb : Str → Option Value}
    {Q : Value → Shared → Prop} {E : Value → Shared → Prop} {name qual : Str} {params : Arguments} {body : List Stmt} {scope : Scope} {dV kV doc pm cdv ct oc : Value} {an od : Option Addr} {osl : Array (Option Value)} {f : Addr} {args : List Value} {binds : List (Str × Value)}
    (X : K.In s.heap) (T : Top p loose mean mg mb s.heap)
    (ho : K.lookup f = some ⟨oc, od, .func (fnOf name qual params body scope dV kV doc pm an cdv ct), osl⟩) (hcd : codeIn K cdv qual = true) (hroom : A.depth < recursionLimit)
    (hbind : BindsTo s (fnOf name qual params body scope dV kV doc pm an cdv ct) ⟨args, []⟩ binds) (hloc : ∀ y ∈ binds, scope.names.lookup y.1 = some .local)
    (hco : scope.isCoroutine = false) (hgen : scope.isGenerator = false) (hk : scope.kind = .function) (hcell : ∀ x ∈ scope.names, x.2 ≠ .cell)
    (h : ∀ h₁ L', L' = s.heap.objs.size → Fr s.heap L' h₁ (fun y => binds.reverse.lookup y) → News s.heap L' h₁ [] →
      wpAny (model prog w) (A.deeper (envOf qual scope L' f cdv)) (execs body (envOf qual scope L' f cdv))
        (fun fl s' => Q (match fl with | .ret v => v | _ => .none) s') (fun _ _ => False)
        { s with heap := h₁, toks := s.toks + binds.length }) : wpAny (model prog w) A (call (.ref f) args) Q E s := by
  refine wpAny_call (codeAny_call_def (fd := fnOf name qual params body scope dV kV doc pm an cdv ct) (body := body) (binds := binds) hroom (X _ _ ho) rfl T.nolimit (codeRec_of X hcd) rfl hbind hcell hloc (fun h₁ hns hk₁ => ?_) hco hgen hk)
  exact wpAny_mono (h h₁ _ rfl ⟨hns, hk₁, Nat.le_refl _⟩ News.nil) (fun _ _ x => x) (fun _ _ x => x.elim)

theorem filled (P : Params) (h : Heap) : (hd.heap_39 P).In h → PySem.Challenge.rw_rh0063_01.Holds → True := by
  k_fill
  exact fun _ _ => trivial

/-- a list of the ledger, read -/
theorem News.isL {h₀ h : Heap} {L a : Addr} {its : Array Value} {n : Nat} {news : List (Addr × Obj)} (N : News h₀ L h news) (hm : (a, W.listOf its n) ∈ news) : h.IsList a its := ⟨_, (N _ hm).1, rfl, n, rfl⟩
theorem stored_keys (kvs : List (Int × Value)) (k : Int) (v : Value) : (stored kvs k v).map (·.1) = addv (kvs.map (·.1)) k := by
  have e : (kvs.any fun kv => decide (kv.1 = k)) = decide (k ∈ kvs.map (·.1)) := by
    rw [Bool.eq_iff_iff]
    simp only [List.any_eq_true, decide_eq_true_eq, List.mem_map]
  unfold stored addv
  by_cases h : k ∈ kvs.map (·.1)
  · rw [if_pos (by rw [e]; exact decide_eq_true h), if_pos h, List.map_map]
    congr 1
    funext kv
    simp only [Function.comp]
    split <;> rfl
  · rw [if_neg (by rw [e]; simpa using h), if_neg h, List.map_append]
    rfl
theorem valueAt_isSome (kvs : List (Int × Value)) (k : Int) : (valueAt kvs k).isSome = decide (k ∈ kvs.map (·.1)) := by
  unfold valueAt
  rw [Option.isSome_map, Bool.eq_iff_iff, List.find?_isSome]
  simp
end Mine
end
/- Lst -/
noncomputable section
open PySem PySem.W PyProof.Rows
set_option maxRecDepth 100000
namespace Mine
section
variable {prog : Program} {w : World} {A : Around} {E : Value → Shared → Prop} {s : Shared} {h₀ : Heap} {L D : Addr} {m : Str → Option Value} {news news' : List (Addr × Obj)} {n : Nat} {vs : List Value} {x : Value}
theorem truthy_snoc {Q : Bool → Shared → Prop} (N : News h₀ L s.heap news) (hm : (D, W.listOf (vs ++ [x]).toArray n) ∈ news) (hz : vs.length ≤ 1000000) (h : Q true { s with toks := s.toks + 1 + 1 }) : wpAny (model prog w) A (truthy (.ref D)) Q E s := by
  refine wpAny_truthy_list (News.isL N hm) (by simp; omega) ?_
  have e : (!(vs ++ [x]).toArray.isEmpty) = true := by simp
  rw [e]; exact h
theorem truthy_nil {Q : Bool → Shared → Prop} (N : News h₀ L s.heap news) (hm : (D, W.listOf ([] : List Value).toArray n) ∈ news) (h : Q false { s with toks := s.toks + 1 + 1 }) : wpAny (model prog w) A (truthy (.ref D)) Q E s :=
  wpAny_truthy_list (News.isL N hm) (by simp) h
theorem pop_snoc {Q : Value → Shared → Prop} (F : Fr h₀ L s.heap m) (N : News h₀ L s.heap news) (U : Upd D (W.listOf (vs ++ [x]).toArray n) (W.listOf vs.toArray (n + 1)) news news') (hz : vs.length ≤ 1000000)
    (h : ∀ h', Fr h₀ L h' m → News h₀ L h' news' → Q x { s with heap := h' }) : wpAny (model prog w) A (call (.builtin "list.pop") [.ref D]) Q E s :=
  kl_pop F N (by simpa using kpa_last x vs) U (by rw [sizeLine_eq]; simp; omega) h
theorem append_L {Q : Value → Shared → Prop} (F : Fr h₀ L s.heap m) (N : News h₀ L s.heap news) (U : Upd D (W.listOf vs.toArray n) (W.listOf (vs ++ [x]).toArray (n + 1)) news news') (hz : vs.length ≤ 1000000)
    (h : ∀ h', Fr h₀ L h' m → News h₀ L h' news' → Q .none { s with heap := h' }) : wpAny (model prog w) A (call (.builtin "list.append") [.ref D, x]) Q E s :=
  append_K F N (its := vs.toArray) (by simpa using U) h (by rw [sizeLine_eq, List.size_toArray]; omega)
end
end Mine
namespace Mine
section
variable {prog : Program} {w : World} {A : Around} {E : Value → Shared → Prop} {s : Shared} {h₀ : Heap} {L D : Addr} {m : Str → Option Value} {news : List (Addr × Obj)} {n : Nat} {vs : List Value} {ns : List Int} {k : Int} {t : Tok}
theorem any_mem (ns : List Int) (k : Int) : (ns.any (· == k)) = decide (k ∈ ns) := by
  rw [Bool.eq_iff_iff]; simp
theorem notin_L {Q : Value → Shared → Prop} (N : News h₀ L s.heap news) (hm : (D, W.listOf vs.toArray n) ∈ news) (hi : IntsAre vs ns) (b : Bool) (hb : decide (k ∈ ns) = b) (h : Q (.bool (!b)) s) :
    wpAny (model prog w) A (compareOp .NotIn (.int k t) (.ref D)) Q E s := notin_list_ints (News.isL N hm) hi (by rw [any_mem, hb]; exact h)
theorem in_L {Q : Value → Shared → Prop} (N : News h₀ L s.heap news) (hm : (D, W.listOf vs.toArray n) ∈ news) (hi : IntsAre vs ns) (b : Bool) (hb : decide (k ∈ ns) = b) (h : Q (.bool b) s) :
    wpAny (model prog w) A (compareOp .In (.int k t) (.ref D)) Q E s := in_list_ints (News.isL N hm) hi (by rw [any_mem, hb]; exact h)
theorem isl_base {h : Heap} {a : Addr} {its : Array Value} (F : Fr h₀ L h m) (x : h₀.IsList a its) : h.IsList a its := x.at fun o e => F.keep a o e
theorem isl_keeps {h h' : Heap} {a : Addr} {its : Array Value} (k : Keeps h h') (x : h.IsList a its) : h'.IsList a its := x.at fun o e => k a o e
theorem mk_tuple {l : Addr} {vs : List Value} {Q : Value → Shared → Prop} (F : Fr h₀ L s.heap m) (N : News h₀ L s.heap news) (hl : s.heap.IsList l vs.toArray) (hz : vs.length ≤ 1000000)
    (h : ∀ D h', Fr h₀ L h' m → News h₀ L h' ((D, { cls := .type "tuple", data := .seq vs.toArray }) :: news) → (∀ p ∈ news, p.1 < D) → Q (.ref D) { s with heap := h' }) :
    wpAny (model prog w) A (call (.type "tuple") [.ref l]) Q E s := by
  refine call_tuple_list hl (fun h' hk => ?_) (by rw [sizeLine_eq, List.size_toArray]; omega)
  have F' : Fr h₀ L h' m := F.keeps hk
  have N' : News h₀ L h' news := fun p hp => ⟨hk _ _ (N p hp).1, (N p hp).2⟩
  exact h _ _ (F'.push _) (N'.push F' _) fun p hp => Heap.lt_size (N' p hp).1
end
end Mine
namespace Mine
section
variable {prog : Program} {w : World} {A : Around} {E : Value → Shared → Prop} {s : Shared} {l : Addr} {vs : List Value}
theorem len_L {Q : Value → Shared → Prop} (hl : s.heap.IsList l vs.toArray) (hz : vs.length ≤ 1000000) (h : Q (.int (vs.length : Int) (s.toks + 1)) { s with toks := s.toks + 1 + 1 }) :
    wpAny (model prog w) A (call (.builtin "len") [.ref l]) Q E s :=
  Calls.call_len_list hl (by rw [List.size_toArray]; omega) (by rw [List.size_toArray]; exact h)
end
end Mine
namespace Mine
section
variable {prog : Program} {w : World} {A : Around} {E : Value → Shared → Prop} {s : Shared} {h₀ : Heap} {L D : Addr} {m : Str → Option Value} {news news' : List (Addr × Obj)} {n : Nat} {vs : List Value}
theorem reverse_L {Q : Value → Shared → Prop} (F : Fr h₀ L s.heap m) (N : News h₀ L s.heap news) (U : Upd D (W.listOf vs.toArray n) (W.listOf vs.reverse.toArray n) news news') (hz : vs.length ≤ 1000000)
    (h : ∀ h', Fr h₀ L h' m → News h₀ L h' news' → Q .none { s with heap := h' }) : wpAny (model prog w) A (call (.builtin "list.reverse") [.ref D]) Q E s :=
  kl_reverse F N (its := vs.toArray) rfl U (by rw [sizeLine_eq]; simp; omega) h
end
end Mine
end
/- Loop -/
noncomputable section
open PySem PySem.W PyProof.Rows
set_option maxRecDepth 100000
namespace Mine
section
variable {prog : Program} {w : World} {A : Around} {E : Value → Shared → Prop} {Q : Flow → Shared → Prop} {s : Shared} {env : Env} {h₀ : Heap} {x : Str} {body : List Stmt}

/-- the map m₀, but the names as u has them -/
noncomputable def ovr : List Str → (Str → Option Value) → (Str → Option Value) → Str → Option Value
  | [], _, m₀ => m₀
  | n :: r, u, m₀ => fun y => if y = n then u n else ovr r u m₀ y
theorem ovr_eq {m₀ m : Str → Option Value} : ∀ {names : List Str}, (∀ z, z ∉ names → m z = m₀ z) → m = ovr names m m₀ := by
  suffices H : ∀ (names : List Str) (z : Str), (z ∉ names → m z = m₀ z) → m z = ovr names m m₀ z by
    intro names h; funext z; exact H names z (h z)
  intro names
  induction names with
  | nil => intro z h; exact h (by simp)
  | cons n r ih =>
    intro z h
    show m z = if z = n then m n else ovr r m m₀ z
    by_cases hz : z = n
    · rw [if_pos hz, hz]
    · rw [if_neg hz]; exact ih z fun hr => h (by simp [hz, hr])
theorem ovr_self {m₀ : Str → Option Value} {names : List Str} : m₀ = ovr names m₀ m₀ := ovr_eq fun _ _ => rfl
theorem ovr_out {u m₀ : Str → Option Value} : ∀ {names : List Str} {z : Str}, z ∉ names → ovr names u m₀ z = m₀ z
  | [], _, _ => rfl
  | n :: r, z, h => by
    show (if z = n then u n else ovr r u m₀ z) = m₀ z
    rw [if_neg fun e => h (by simp [e])]
    exact ovr_out fun hr => h (by simp [hr])
/-- a turn's end, to be shown: the ledger is what is fixed and the new rest -/
def TEnd (h₀ : Heap) (L : Addr) (names : List Str) (m₀ : Str → Option Value) (J : (Str → Option Value) → List (Addr × Obj) → Prop) (fix : List (Addr × Obj)) (adr : List Addr) (s₁ s₂ : Shared) : Prop :=
  ∃ h' tk m' news', s₂ = { s₁ with heap := h', toks := tk } ∧ Fr h₀ L h' m' ∧ News h₀ L h' (fix ++ news') ∧ (∀ z, z ∉ names → m' z = m₀ z) ∧ news'.map (·.1) = adr ∧ J m' news'
def TPost (h₀ : Heap) (L : Addr) (names : List Str) (m₀ : Str → Option Value) (J : (Str → Option Value) → List (Addr × Obj) → Prop) (fix : List (Addr × Obj)) (adr : List Addr) (s₁ : Shared) (Q : Flow → Shared → Prop) (f : Flow) (s₂ : Shared) : Prop :=
  match f with
  | .ret v => Q (.ret v) s₂
  | .brk => Q .next s₂
  | _ => TEnd h₀ L names m₀ J fix adr s₁ s₂
theorem TPost.next {L : Addr} {names : List Str} {m₀ : Str → Option Value} {J : (Str → Option Value) → List (Addr × Obj) → Prop} {fix news' : List (Addr × Obj)} {adr : List Addr} {s₁ : Shared} {h' : Heap} {tk : Nat} {m' : Str → Option Value}
    (F : Fr h₀ L h' m') (N : News h₀ L h' (fix ++ news')) (hm : ∀ z, z ∉ names → m' z = m₀ z) (ha : news'.map (·.1) = adr) (hj : J m' news') : TPost h₀ L names m₀ J fix adr s₁ Q .next { s₁ with heap := h', toks := tk } :=
  ⟨h', tk, m', news', rfl, F, N, hm, ha, hj⟩

theorem loop_gen {fp : List Addr} {n : Nat} {P : Nat → Value → Prop} {St : Nat → Heap → Prop} {I : Addr} {m₀ : Str → Option Value} {fix news : List (Addr × Obj)} (W : Walks prog w A I fp [I] n P St)
    (hL : env.locals ∉ fp) (hI0 : h₀.get? I = none) (hfp : ∀ b ∈ fp, b = I ∨ (∃ o, h₀.get? b = some o) ∨ ∃ o, (b, o) ∈ fix) (hIf : I ∈ fp) (hSt : ∀ i h, St i h → ∃ o, h.get? I = some o)
    (hst : St 0 s.heap) (F : Fr h₀ env.locals s.heap m₀) (N : News h₀ env.locals s.heap (fix ++ news)) (hnI : ∀ p ∈ fix ++ news, p.1 ≠ I)
    (names : List Str) (J : Nat → (Str → Option Value) → List (Addr × Obj) → Prop) (hj : J 0 m₀ news)
    (turn : ∀ i v u news₁ h tk oI, i < n → P i v → news₁.map (·.1) = news.map (·.1) → J i u news₁ → Fr h₀ env.locals h (fun y => if y = x then some v else ovr names u m₀ y) → News h₀ env.locals h ((I, oI) :: fix ++ news₁) →
      wpAny (model prog w) A (execs body env) (TPost h₀ env.locals (x :: names) m₀ (J (i + 1)) ((I, oI) :: fix) (news.map (·.1)) { s with heap := h, toks := tk } Q) E { s with heap := h, toks := tk })
    (done : ∀ u news₁ h tk, news₁.map (·.1) = news.map (·.1) → J n u news₁ → Fr h₀ env.locals h (ovr (x :: names) u m₀) → News h₀ env.locals h (fix ++ news₁) → Q .next { s with heap := h, toks := tk }) :
    LoopAtV prog w A h₀ env x body Q E (.ref I) s := by
  have adrs : ∀ news₁ : List (Addr × Obj), news₁.map (·.1) = news.map (·.1) → ∀ p ∈ fix ++ news₁, p.1 ≠ I := fun news₁ e p hp => by
    rcases List.mem_append.mp hp with hp | hp
    · exact hnI p (List.mem_append_left _ hp)
    · have h1 : p.1 ∈ news₁.map (·.1) := List.mem_map.mpr ⟨p, hp, rfl⟩
      rw [e] at h1
      obtain ⟨q, hq, e2⟩ := List.mem_map.mp h1
      rw [← e2]
      exact hnI q (List.mem_append_right _ hq)
  refine ⟨I, fp, [I], n, P, St, m₀, fix ++ news, fun i m nx => ∃ u news₁, m = ovr (x :: names) u m₀ ∧ nx = fix ++ news₁ ∧ news₁.map (·.1) = news.map (·.1) ∧ J i u news₁, rfl, W, hL, ?_, ?_, hst, F, N, ⟨m₀, news, ovr_self, rfl, rfl, hj⟩, ?_, ?_⟩
  · intro b hb; rw [List.mem_singleton.mp hb]; exact hI0
  · intro p hp hq; exact hnI p hp (List.mem_singleton.mp hq)
  · rintro i v m₁ nx s₁ own ⟨h, tk, rfl⟩ hi hP ⟨u, news₁, rfl, rfl, hadr, hJ⟩ hoff hown hget hall st F₁ N₁
    obtain ⟨oI, hoI⟩ := hSt _ _ st
    have N₂ : News h₀ env.locals h ((I, oI) :: fix ++ news₁) := by
      intro p hp
      rcases List.mem_cons.mp hp with rfl | hp
      · exact N₁ (I, oI) (List.mem_append_left _ (hall I hIf hI0 oI hoI))
      · exact N₁ p (List.mem_append_right _ hp)
    have em : (fun y => if y = x then some v else ovr (x :: names) u m₀ y) = fun y => if y = x then some v else ovr names u m₀ y := by
      funext y
      by_cases hy : y = x
      · rw [if_pos hy, if_pos hy]
      · rw [if_neg hy, if_neg hy]; show (if y = x then _ else _) = _; rw [if_neg hy]
    rw [em] at F₁
    refine wpAny_mono (turn i v u news₁ h tk oI hi hP hadr hJ F₁ N₂) (fun f s₂ p => ?_) fun _ _ e => e
    have fin : TEnd h₀ env.locals (x :: names) m₀ (J (i + 1)) ((I, oI) :: fix) (news.map (·.1)) { s with heap := h, toks := tk } s₂ →
        LoopStepU h₀ env.locals [I] own (fun m nx => ∃ u news₁, m = ovr (x :: names) u m₀ ∧ nx = fix ++ news₁ ∧ news₁.map (·.1) = news.map (·.1) ∧ J (i + 1) u news₁) { s with heap := h, toks := tk } .next s₂ := by
      rintro ⟨h', tk', m', news', e, F', N', hm', ha, hj'⟩
      refine ⟨rfl, h', tk', m', fix ++ news', e, F', fun p hp => ?_, fun p hp hq => adrs news' ha p hp (List.mem_singleton.mp hq), m', news', ovr_eq hm', rfl, ha, hj'⟩
      rcases List.mem_append.mp hp with hp | hp
      · have hpf := hown p hp
        have hpg := hget p hp
        rcases hfp p.1 hpf with e1 | ⟨o, e1⟩ | ⟨o, e1⟩
        · have e2 : p = (I, oI) := by
            obtain ⟨pa, po⟩ := p
            have e1' : pa = I := e1
            subst e1'
            have : some po = some oI := hpg.symm.trans hoI
            rw [Option.some.inj this]
          rw [e2]; exact N' _ (.head _)
        · have := (N₁ p (List.mem_append_left _ hp)).2.2
          rw [this] at e1; cases e1
        · have e2 : p = (p.1, o) := by
            have h1 := (N₁ (p.1, o) (List.mem_append_right _ (List.mem_append_left _ e1))).1
            obtain ⟨pa, po⟩ := p
            have : some po = some o := hpg.symm.trans h1
            rw [Option.some.inj this]
          rw [e2]; exact N' _ (.tail _ (List.mem_append_left _ e1))
      · exact N' p (.tail _ hp)
    cases f with
    | ret v => exact .ret p
    | brk => exact .brk p
    | next => exact .next (fin p)
    | cont => exact .cont (fin p)
  · rintro h' tk m' nx F' N' _ ⟨u, news₁, rfl, rfl, ha, hJ⟩
    exact done u news₁ h' tk ha hJ F' N'

theorem iter_tup {ax : Addr} {items : List Value} {m₀ : Str → Option Value} {news : List (Addr × Obj)} (names : List Str) (J : Nat → (Str → Option Value) → List (Addr × Obj) → Prop)
    (hh : A.handled = none) (ht : IsTup h₀ ax items.toArray) (F : Fr h₀ env.locals s.heap m₀) (N : News h₀ env.locals s.heap news) (hj : J 0 m₀ news)
    (turn : ∀ i v m₁ news₁ h tk I oI, items[i]? = some v → (∀ p ∈ news, p.1 < I) → news₁.map (·.1) = news.map (·.1) → J i m₁ news₁ → Fr h₀ env.locals h (fun y => if y = x then some v else ovr names m₁ m₀ y) → News h₀ env.locals h ((I, oI) :: news₁) →
      wpAny (model prog w) A (execs body env) (TPost h₀ env.locals (x :: names) m₀ (J (i + 1)) [(I, oI)] (news.map (·.1)) { s with heap := h, toks := tk } Q) E { s with heap := h, toks := tk })
    (done : ∀ m₁ news₁ h tk, news₁.map (·.1) = news.map (·.1) → J items.length m₁ news₁ → Fr h₀ env.locals h (ovr (x :: names) m₁ m₀) → News h₀ env.locals h news₁ → Q .next { s with heap := h, toks := tk }) :
    wpAny (model prog w) A (pyIter (.ref ax)) (fun it s₂ => LoopAtV prog w A h₀ env x body Q E it s₂) E s := by
  have hts := F.tup ht
  obtain ⟨ot, hot, hr⟩ := ht
  have hlt : ax < h₀.objs.size := Heap.lt_size hot
  have hne : ax ≠ s.heap.objs.size := Nat.ne_of_lt (Nat.lt_trans (Nat.lt_of_lt_of_le hlt F.above) F.ns.lt)
  refine wpAny_pyIter_tuple hts ?_
  have W := Walks.tuple (prog := prog) (w := w) hh s.heap.objs.size ax hne items.toArray
  refine loop_gen (fix := []) W ?_ (next_is_new F) ?_ (.head _) (fun i h st => let ⟨o, ho, _⟩ := st.1; ⟨o, ho⟩) ⟨⟨_, Heap.get?_push_size _ rfl, rfl, rfl⟩, ?_⟩ (F.push _) (fun p hp => ⟨Heap.get?_push_of_some _ (N p hp).1, (N p hp).2⟩) (fun p hp => Nat.ne_of_lt (Heap.lt_size (N p hp).1)) names J hj ?_ ?_
  · intro hm
    rcases List.mem_cons.mp hm with e | hm
    · exact absurd F.ns.lt (e ▸ Nat.lt_irrefl _)
    · exact absurd (Nat.lt_of_lt_of_le hlt F.above) ((List.mem_singleton.mp hm) ▸ Nat.lt_irrefl _)
  · intro b hb
    rcases List.mem_cons.mp hb with e | hb
    · exact .inl e
    · rw [List.mem_singleton.mp hb]; exact .inr (.inl ⟨ot, hot⟩)
  · obtain ⟨o, ho, r⟩ := hts
    exact ⟨o, Heap.get?_push_of_some _ ho, r⟩
  · intro i v m₁ news₁ h tk oI hi hP ha hJ F₁ N₁
    exact turn i v m₁ news₁ h tk _ oI (by simpa using hP) (fun p hp => Heap.lt_size (N p hp).1) ha hJ F₁ N₁
  · intro m₁ news₁ h tk ha hJ F₁ N₁
    exact done m₁ news₁ h tk ha (by simpa using hJ) F₁ N₁

/-- over a list of the ledger, which stays as it is -/
theorem iter_lst {ax : Addr} {c : Nat} {items : List Value} {m₀ : Str → Option Value} {news : List (Addr × Obj)} (names : List Str) (J : Nat → (Str → Option Value) → List (Addr × Obj) → Prop)
    (hh : A.handled = none) (F : Fr h₀ env.locals s.heap m₀) (N : News h₀ env.locals s.heap ((ax, W.listOf items.toArray c) :: news)) (hj : J 0 m₀ news)
    (turn : ∀ i v m₁ news₁ h tk I oI, items[i]? = some v → (∀ p ∈ news, p.1 < I) → ax < I → news₁.map (·.1) = news.map (·.1) → J i m₁ news₁ → Fr h₀ env.locals h (fun y => if y = x then some v else ovr names m₁ m₀ y) → News h₀ env.locals h ((I, oI) :: (ax, W.listOf items.toArray c) :: news₁) →
      wpAny (model prog w) A (execs body env) (TPost h₀ env.locals (x :: names) m₀ (J (i + 1)) [(I, oI), (ax, W.listOf items.toArray c)] (news.map (·.1)) { s with heap := h, toks := tk } Q) E { s with heap := h, toks := tk })
    (done : ∀ m₁ news₁ h tk, news₁.map (·.1) = news.map (·.1) → J items.length m₁ news₁ → Fr h₀ env.locals h (ovr (x :: names) m₁ m₀) → News h₀ env.locals h ((ax, W.listOf items.toArray c) :: news₁) → Q .next { s with heap := h, toks := tk }) :
    wpAny (model prog w) A (pyIter (.ref ax)) (fun it s₂ => LoopAtV prog w A h₀ env x body Q E it s₂) E s := by
  have hm := N _ (.head _)
  have hl : s.heap.IsList ax items.toArray := ⟨_, hm.1, rfl, c, rfl⟩
  have hlt : ax < s.heap.objs.size := Heap.lt_size hm.1
  have hne : ax ≠ s.heap.objs.size := Nat.ne_of_lt hlt
  refine wpAny_pyIter_list hl ?_
  have W := Walks.list (prog := prog) (w := w) hh s.heap.objs.size ax hne items.toArray
  refine loop_gen (fix := [(ax, PySem.W.listOf items.toArray c)]) W ?_ (next_is_new F) ?_ (.head _) (fun i h st => let ⟨o, ho, _⟩ := st.1; ⟨o, ho⟩) ⟨⟨_, Heap.get?_push_size _ rfl, rfl, rfl⟩, hl.at fun o e => Heap.get?_push_of_some _ e⟩ (F.push _) (fun p hp => ⟨Heap.get?_push_of_some _ (N p hp).1, (N p hp).2⟩) (fun p hp => Nat.ne_of_lt (Heap.lt_size (N p hp).1)) names J hj ?_ ?_
  · intro hmm
    rcases List.mem_cons.mp hmm with e | hmm
    · exact absurd F.ns.lt (e ▸ Nat.lt_irrefl _)
    · exact hm.2.1 (List.mem_singleton.mp hmm).symm
  · intro b hb
    rcases List.mem_cons.mp hb with e | hb
    · exact .inl e
    · rw [List.mem_singleton.mp hb]; exact .inr (.inr ⟨_, .head _⟩)
  · intro i v m₁ news₁ h tk oI hi hP ha hJ F₁ N₁
    exact turn i v m₁ news₁ h tk _ oI (by simpa using hP) (fun p hp => Heap.lt_size (N p (.tail _ hp)).1) hlt ha hJ F₁ N₁
  · intro m₁ news₁ h tk ha hJ F₁ N₁
    exact done m₁ news₁ h tk ha (by simpa using hJ) F₁ N₁

/-- over range(n) -/
theorem iter_rng {r : Addr} {n : Nat} {t₀ u₀ v₀ : Tok} {m₀ : Str → Option Value} {news : List (Addr × Obj)} (names : List Str) (J : Nat → (Str → Option Value) → List (Addr × Obj) → Prop)
    (hh : A.handled = none) (hr : IsRange s.heap r 0 (n : Int) 1 t₀ u₀ v₀) (hn : n ≤ 1000) (F : Fr h₀ env.locals s.heap m₀) (N : News h₀ env.locals s.heap news) (hj : J 0 m₀ news)
    (turn : ∀ (i : Nat) t m₁ news₁ h tk I oI, i < n → (∀ p ∈ news, p.1 < I) → news₁.map (·.1) = news.map (·.1) → J i m₁ news₁ → Fr h₀ env.locals h (fun y => if y = x then some (.int (i : Int) t) else ovr names m₁ m₀ y) → News h₀ env.locals h ((I, oI) :: news₁) →
      wpAny (model prog w) A (execs body env) (TPost h₀ env.locals (x :: names) m₀ (J (i + 1)) [(I, oI)] (news.map (·.1)) { s with heap := h, toks := tk } Q) E { s with heap := h, toks := tk })
    (done : ∀ m₁ news₁ h tk, news₁.map (·.1) = news.map (·.1) → J n m₁ news₁ → Fr h₀ env.locals h (ovr (x :: names) m₁ m₀) → News h₀ env.locals h news₁ → Q .next { s with heap := h, toks := tk }) :
    wpAny (model prog w) A (pyIter (.ref r)) (fun it s₂ => LoopAtV prog w A h₀ env x body Q E it s₂) E s := by
  have hs : Builtin.Range.small 0 (n : Int) 1 = true := small_one (by omega) (by omega) (by omega) (by omega)
  have hz : Builtin.Range.rangeSize 0 (n : Int) 1 = (n : Int) := by first | (have := rangeSize_nat 0 (n : Int); simpa using this) | (unfold Builtin.Range.rangeSize; simp; try omega)
  refine wpAny_pyIter_range hr hs ?_
  have W := Walks.range (prog := prog) (w := w) hh s.heap.objs.size 0 1 n
  refine loop_gen (fix := []) W ?_ (next_is_new F) ?_ (.head _) (fun i h st => ⟨_, st⟩) (by show IsRangeIter _ _ _ _ _; rw [hz]; simpa using Heap.get?_push_size _ rfl) (F.push _) (fun p hp => ⟨Heap.get?_push_of_some _ (N p hp).1, (N p hp).2⟩) (fun p hp => Nat.ne_of_lt (Heap.lt_size (N p hp).1)) names J hj ?_ ?_
  · intro hm
    exact absurd F.ns.lt ((List.mem_singleton.mp hm) ▸ Nat.lt_irrefl _)
  · intro b hb
    exact .inl (List.mem_singleton.mp hb)
  · intro i v m₁ news₁ h tk oI hi hP ha hJ F₁ N₁
    obtain ⟨t, rfl⟩ := hP
    have e : (0 : Int) + (i : Int) * 1 = (i : Int) := by omega
    rw [e] at F₁
    exact turn i t m₁ news₁ h tk _ oI hi (fun p hp => Heap.lt_size (N p hp).1) ha hJ F₁ N₁
  · intro m₁ news₁ h tk ha hJ F₁ N₁
    exact done m₁ news₁ h tk ha hJ F₁ N₁
end
end Mine
end
/- Chk -/
noncomputable section
open PySem PySem.W PyProof.Rows
namespace Mine
/-- goals -/
inductive Gl where
  | level (n : Int)
  | mark (n : Int)
  | cutto (n : Int)
  | cut
  | fail
  | call (p : Tm)
  | builtin (p : Tm)
  | unify (p : Tm)
def gSpecial : Gl → Int
  | .level n => n
  | .mark n => n
  | .cutto n => n
  | _ => -1
def gTerms : Gl → List Tm
  | .call p => [p]
  | .builtin p => [.c, p]
  | .unify p => [p, .c]
  | _ => []
structure Cs where
  order : List Int
  held : List Int
  called : Bool
def add0 (o : List Int) (n : Int) : List Int := if 0 ≤ n then addv o n else o
def ordNext (o : List Int) (g : Gl) : List Int := (varsOf (gTerms g)).foldl addv (add0 o (gSpecial g))
def gHolds : Gl → Option Int
  | .level n => some n
  | .mark n => some n
  | _ => none
def isCall : Gl → Bool
  | .call _ => true
  | _ => false
/-- does check_kernel go on at the goal? -/
def okAt (i : Nat) (σ : Cs) : Gl → Bool
  | .level n => decide (i = 0) && !decide (n ∈ σ.order)
  | .mark n => !decide (n ∈ σ.order)
  | .cutto n => decide (n ∈ σ.held)
  | .cut => !σ.called
  | _ => true
def next (σ : Cs) (g : Gl) : Cs := ⟨ordNext σ.order g, σ.held ++ (gHolds g).toList, σ.called || isCall g⟩
noncomputable def run : Nat → List Gl → Cs → Option Cs
  | _, [], σ => some σ
  | i, g :: r, σ => if okAt i σ g then run (i + 1) r (next σ g) else none
noncomputable def heldOf : List Tm → List Int
  | [] => []
  | .v n :: r => n :: heldOf r
  | _ :: r => heldOf r
def start (args : List Tm) : Cs := ⟨varsOf args, heldOf args, false⟩
def upTo (c : Nat) : List Int := (List.range c).map Int.ofNat
def check (args : List Tm) (goals : List Gl) (c : Nat) : Bool := match run 0 goals (start args) with
  | some σ => decide (σ.order = upTo c)
  | none => false
theorem heldOf_append (a b : List Tm) : heldOf (a ++ b) = heldOf a ++ heldOf b := by
  induction a with
  | nil => rfl
  | cons t r ih => cases t <;> simp [heldOf, ih]
theorem run_snoc (gs : List Gl) (g : Gl) : ∀ (i : Nat) (σ : Cs), run i (gs ++ [g]) σ = (run i gs σ).bind fun τ => if okAt (i + gs.length) τ g then some (next τ g) else none := by
  induction gs with
  | nil => intro i σ; simp [run]
  | cons h r ih =>
    intro i σ
    simp only [List.cons_append, run]
    split
    · rw [ih]; simp only [List.length_cons]; rw [show i + 1 + r.length = i + (r.length + 1) by omega]
    · rfl
theorem run_append (a b : List Gl) : ∀ (i : Nat) (σ : Cs), run i (a ++ b) σ = (run i a σ).bind fun τ => run (i + a.length) b τ := by
  induction a with
  | nil => intro i σ; simp [run]
  | cons h r ih =>
    intro i σ
    simp only [List.cons_append, run]
    split
    · rw [ih]; simp only [List.length_cons]; rw [show i + 1 + r.length = i + (r.length + 1) by omega]
    · rfl
theorem run_none_append {a b : List Gl} {i : Nat} {σ : Cs} (h : run i a σ = none) : run i (a ++ b) σ = none := by rw [run_append, h]; rfl
end Mine
namespace Mine
theorem foldl_addv_len (l o : List Int) : (l.foldl addv o).length ≤ o.length + l.length := by
  induction l generalizing o with
  | nil => simp
  | cons a r ih =>
    simp only [List.foldl_cons, List.length_cons]
    have h1 := ih (addv o a)
    have h2 := addv_len o a
    omega
theorem flatsV_len (l : List Tm) : (flatsV l).length ≤ l.length := by
  induction l with
  | nil => simp [flatsV]
  | cons t r ih =>
    have e : flatsV (t :: r) = flatV t ++ flatsV r := rfl
    rw [e, List.length_append, List.length_cons]
    have : (flatV t).length ≤ 1 := by cases t <;> simp [flatV]
    omega
theorem varsOf_len (l : List Tm) : (varsOf l).length ≤ l.length := by
  have h1 := foldl_addv_len (flatsV l) []
  have h2 := flatsV_len l
  unfold varsOf; rw [List.length_nil] at h1; omega
theorem gTerms_len (g : Gl) : (gTerms g).length ≤ 2 := by cases g <;> simp [gTerms]
theorem gTerms_wts (g : Gl) : wts (gTerms g) ≤ 1000 := by
  have h : ∀ p, wt p ≤ 3 := fun p => by cases p <;> simp [wt]
  have e1 : wt .c = 1 := rfl
  cases g <;> simp only [gTerms, wts, List.map_cons, List.map_nil, List.sum_cons, List.sum_nil, e1] <;> first | omega | (rename_i p; have := h p; omega)
theorem heldOf_len (l : List Tm) : (heldOf l).length ≤ l.length := by
  induction l with
  | nil => simp [heldOf]
  | cons t r ih => cases t <;> simp [heldOf] <;> omega
theorem ordNext_len (o : List Int) (g : Gl) : (ordNext o g).length ≤ o.length + 3 := by
  unfold ordNext
  have h1 := foldl_addv_len (varsOf (gTerms g)) (add0 o (gSpecial g))
  have h2 := varsOf_len (gTerms g)
  have h3 := gTerms_len g
  have h4 : (add0 o (gSpecial g)).length ≤ o.length + 1 := by unfold add0; split; exact addv_len _ _; omega
  omega
theorem next_len (σ : Cs) (g : Gl) : (next σ g).order.length ≤ σ.order.length + 3 ∧ (next σ g).held.length ≤ σ.held.length + 1 := by
  refine ⟨ordNext_len _ _, ?_⟩
  cases g <;> simp [next, gHolds]
theorem run_len : ∀ (gs : List Gl) (i : Nat) (σ τ : Cs), run i gs σ = some τ → τ.order.length ≤ σ.order.length + 3 * gs.length ∧ τ.held.length ≤ σ.held.length + gs.length
  | [], _, _, _, h => by simp [run] at h; subst h; simp
  | g :: r, i, σ, τ, h => by
    simp only [run] at h
    split at h
    · have h1 := run_len r _ _ _ h
      have h2 := next_len σ g
      simp only [List.length_cons]; omega
    · cases h
end Mine
namespace Mine
def gPos : Gl → Bool
  | .level n => decide (0 ≤ n)
  | .mark n => decide (0 ≤ n)
  | .cutto n => decide (0 ≤ n)
  | _ => true
theorem check_false {args : List Tm} {goals : List Gl} {c i : Nat} {σ : Cs} {g : Gl} (hr : run 0 (goals.take i) (start args) = some σ) (hg : goals[i]? = some g) (hok : okAt i σ g = false) : check args goals c = false := by
  have hi : i < goals.length := (List.getElem?_eq_some_iff.mp hg).1
  have e : goals = goals.take i ++ g :: goals.drop (i + 1) := by
    have h1 : goals[i] = g := (List.getElem?_eq_some_iff.mp hg).2
    rw [← h1, ← List.drop_eq_getElem_cons hi, List.take_append_drop]
  have hn : run 0 goals (start args) = none := by
    rw [e, run_append, hr]
    have hl : (goals.take i).length = i := by rw [List.length_take]; omega
    simp only [Option.bind_some, hl, Nat.zero_add, run, hok, Bool.false_eq_true, if_false]
  unfold check; rw [hn]
theorem add0_in {o : List Int} {n : Int} (h : n ∈ o) : add0 o n = o := by unfold add0; split; exact addv_in h; rfl
theorem add0_out {o : List Int} {n : Int} (h0 : 0 ≤ n) (h : ¬ n ∈ o) : add0 o n = o ++ [n] := by unfold add0; rw [if_pos h0, addv_out h]
end Mine
namespace Mine
theorem nx_held {σ : Cs} {q : Gl} (h : gHolds q = none) : (next σ q).held = σ.held := by unfold next; rw [h]; simp
theorem nx_called {σ : Cs} {q : Gl} (h : isCall q = false) : (next σ q).called = σ.called := by unfold next; rw [h]; simp
theorem nx_called_t {σ : Cs} {q : Gl} (h : isCall q = true) : (next σ q).called = true := by unfold next; rw [h]; simp
end Mine
namespace Mine
def gKind : Gl → Str
  | .level _ => "level"
  | .mark _ => "mark"
  | .cutto _ => "cutto"
  | .cut => "cut"
  | .fail => "fail"
  | .call _ => "call"
  | .builtin _ => "builtin"
  | .unify _ => "unify"
theorem gKind_call (q : Gl) : (gKind q == ("call" : Str)) = isCall q := by
  cases q <;> rfl
end Mine
end
/- Voc -/
noncomputable section
open PySem PySem.W PyProof.Rows
set_option maxRecDepth 100000
set_option maxHeartbeats 8000000
namespace Mine
section
variable {prog : Program} {w : World} {A : Around} {E : Value → Shared → Prop} {Q : Flow → Shared → Prop} {s : Shared} {env : Env} {h₀ : Heap} {L : Addr}
/-- between two turns of variables_of's loop -/
structure VSt (prog : Program) (w : World) (h₀ : Heap) (L : Addr) (m₀ : Str → Option Value) (T R D : Addr) (tgt : List Int) (B : Nat) (us : List Tm) (ws : List Value) (h : Heap) (m : Str → Option Value) (cT cR : Nat) (vs : List Value) (rs : List Int) (kvs : List (Int × Value)) (oD : Obj) : Prop where
  F : Fr h₀ L h m
  hm : ∀ z : Str, z ≠ "term" → m z = m₀ z
  N : News h₀ L h [(T, W.listOf ws.toArray cT), (R, W.listOf vs.toArray cR), (D, oD)]
  at_ : All2 (TmAt h₀) ws us
  isI : IntsAre vs rs
  dict : oD.IsDictOf (PySem.intKind prog w) kvs
  keys : kvs.map (·.1) = rs
  tgt : (flatsV us.reverse).foldl addv rs = tgt
  size : rs.length + wts us ≤ B

/-- a turn's end -/
def VEnd (prog : Program) (w : World) (h₀ : Heap) (L : Addr) (m₀ : Str → Option Value) (T R D : Addr) (tgt : List Int) (B : Nat) (k : Nat) (s : Shared) (f : Flow) (s₃ : Shared) : Prop :=
  f = .next ∧ ∃ h' tk' us' ws' m' cT' cR' vs' rs' kvs' oD', s₃ = { s with heap := h', toks := tk' } ∧ VSt prog w h₀ L m₀ T R D tgt B us' ws' h' m' cT' cR' vs' rs' kvs' oD' ∧ wts us' < k
theorem VEnd.intro {m₀ : Str → Option Value} {T R D : Addr} {tgt : List Int} {B k : Nat} {h' : Heap} {tk' : Nat} {us' : List Tm} {ws' : List Value} {m' : Str → Option Value} {cT' cR' : Nat} {vs' : List Value} {rs' : List Int} {kvs' : List (Int × Value)} {oD' : Obj}
    (V : VSt prog w h₀ L m₀ T R D tgt B us' ws' h' m' cT' cR' vs' rs' kvs' oD') (h : wts us' < k) : VEnd prog w h₀ L m₀ T R D tgt B k s .next { s with heap := h', toks := tk' } := ⟨rfl, h', tk', us', ws', m', cT', cR', vs', rs', kvs', oD', rfl, V, h⟩
def VDone (Q : Flow → Shared → Prop) (b : Bool) (s₂ : Shared) : Prop := b = false ∧ Q .next s₂
theorem while_vo {test : PySem.Expr} {body : List Stmt} {pos : Pos} {m₀ : Str → Option Value} {T R D : Addr} {tgt : List Int} {B : Nat} {us : List Tm} {ws : List Value} {cT cR : Nat} {vs : List Value} {rs : List Int} {kvs : List (Int × Value)} {oD : Obj}
    (V : VSt prog w h₀ L m₀ T R D tgt B us ws s.heap m₀ cT cR vs rs kvs oD)
    (turn : ∀ us u ws x h tk m cT cR vs rs kvs oD, VSt prog w h₀ L m₀ T R D tgt B (us ++ [u]) (ws ++ [x]) h m cT cR vs rs kvs oD → All2 (TmAt h₀) ws us → TmAt h₀ x u →
      Fr h₀ L h (fun z : Str => if z = "term" then m "term" else m₀ z) →
      wpAny (model prog w) A (isTrue test env (eval test env)) (fun b s₂ =>
        if b = true then wpAny (model prog w) A (execs body env) (VEnd prog w h₀ L m₀ T R D tgt B (wts (us ++ [u])) s) E s₂ else Q .next s₂) E { s with heap := h, toks := tk })
    (done : ∀ h tk m cT cR vs kvs oD, VSt prog w h₀ L m₀ T R D tgt B [] [] h m cT cR vs tgt kvs oD →
      Fr h₀ L h (fun z : Str => if z = "term" then m "term" else m₀ z) →
      wpAny (model prog w) A (isTrue test env (eval test env)) (VDone Q) E { s with heap := h, toks := tk })
    (hE : PassesOwn (model prog w) A env E) :
    wpAny (model prog w) A (exec (.While test body [] pos) env) Q E s := by
  have em : ∀ {h m us ws cT cR vs rs kvs oD}, VSt prog w h₀ L m₀ T R D tgt B us ws h m cT cR vs rs kvs oD → Fr h₀ L h (fun z : Str => if z = "term" then m "term" else m₀ z) := by
    intro h m us ws cT cR vs rs kvs oD V
    have e : (fun z : Str => if z = "term" then m "term" else m₀ z) = m := by
      funext z
      by_cases hz : z = "term"
      · subst hz; rw [if_pos rfl]
      · rw [if_neg hz]; exact (V.hm z hz).symm
    rw [e]; exact V.F
  refine While_inv (fun n m news => ∃ us ws cT cR vs rs kvs oD, n = wts us ∧ news = [(T, W.listOf ws.toArray cT), (R, W.listOf vs.toArray cR), (D, oD)] ∧ ∀ h, Fr h₀ L h m → News h₀ L h news → VSt prog w h₀ L m₀ T R D tgt B us ws h m cT cR vs rs kvs oD) (n₀ := wts us) V.F V.N
    ⟨us, ws, cT, cR, vs, rs, kvs, oD, rfl, rfl, fun h F N => { V with F := F, N := N }⟩ ?_ hE
  rintro n m₁ news₁ h₁ tk₁ F₁ N₁ ⟨us, ws, cT, cR, vs, rs, kvs, oD, rfl, rfl, hV⟩
  have V₁ := hV h₁ F₁ N₁
  rcases snoc_cases ws with rfl | ⟨ws', x, rfl⟩
  · have hu : us = [] := by have := V₁.at_.length; cases us with | nil => rfl | cons _ _ => simp at this
    subst hu
    have ht : rs = tgt := V₁.tgt
    subst ht
    refine wpAny_mono (done h₁ tk₁ m₁ cT cR vs kvs oD V₁ (em V₁)) (fun b s₂ h₂ => ?_) fun _ _ e => e
    rw [h₂.1]; simpa using h₂.2
  · obtain ⟨us', u, rfl, h1, h2⟩ := V₁.at_.snoc_inv
    refine wpAny_mono (turn us' u ws' x h₁ tk₁ m₁ cT cR vs rs kvs oD V₁ h1 h2 (em V₁)) (fun b s₂ h₂ => ?_) fun _ _ e => e
    cases b with
    | false => simpa using h₂
    | true =>
      simp only [if_true] at h₂ ⊢
      refine wpAny_mono h₂ (fun f s₃ h₃ => ?_) fun _ _ e => e
      obtain ⟨rfl, h', tk', us'', ws'', m'', cT', cR', vs', rs', kvs', oD', rfl, V', hlt⟩ := h₃
      exact WhileStep.intro V'.F V'.N hlt ⟨us'', ws'', cT', cR', vs', rs', kvs', oD', rfl, rfl, fun h F N => { V' with F := F, N := N }⟩
end
end Mine
end
/- Vo2 -/
noncomputable section
open PySem PySem.W PyProof.Rows
set_option maxRecDepth 100000
set_option maxHeartbeats 8000000
namespace Mine
theorem words_Vo2 : True := by
  k_with_none
  k_with "subscriptTail Name Constant ref int" => (((with_reducible show wpAny _ _ (subscriptTail _ _ (Value.ref _) (Value.int _ _)) _ _ _); k_dflt (refine item_tupleT (Fr.tup (by assumption) (by assumption)) (by decide) (by decide) (by rfl) (by rfl) ?_)))
  k_with "call type:reversed" => ((refine mk_rev (Fr.tup (by assumption) (by assumption)) (by first | assumption | (simp; done)) (by assumption) (by assumption) ?_; intro D' h' tk' F' N' l1 lt'; (try k_lt l1)))
  k_with "call type:list" => ((refine list_revL (by rfl) (Fr.tup (by assumption) (by assumption)) (by assumption) (by omega) (by assumption) (by assumption) (by k_all) ?_; intro S' c' h' tk' F' N' l1; (try k_lt l1)))
  k_with "my steps" => (repeat' ((fail_if_success (with_reducible show wpAny _ _ (exec (PySem.Stmt.While _ _ _ _) _) _ _ _)); (fail_if_success (with_reducible show wpAny _ _ (exec (PySem.Stmt.For _ _ _ _ _) _) _ _ _)); first | (k_unfold; (try dsimp only)) | walk1 | (dsimp only; walk1) | (leave1; walk_say "STEP leave1"; try dsimp only) | fail "no step"))
  k_with "truthy ref" => ((k_here; k_dflt (first | (refine truthy_snoc (by assumption) (by k_mem) (by omega) ?_) | (refine truthy_nil (by assumption) (by k_mem) ?_))))
  k_with "call builtin:list.pop" => (((with_reducible show wpAny _ _ (call (Value.builtin _) [Value.ref _]) _ _ _); (refine pop_snoc (by assumption) (by assumption) (by k_upd) (by omega) ?_); intro h' F' N'; (try k_sweep)))
  k_with "call builtin:list.append" => (((with_reducible show wpAny _ _ (call (Value.builtin _) [Value.ref _, _]) _ _ _); (refine append_L (by assumption) (by assumption) (by k_upd) (by omega) ?_); intro h' F' N'; (try k_sweep)))
  k_with "call builtin:list.extend" => (((with_reducible show wpAny _ _ (call (Value.builtin _) [Value.ref _, Value.ref _]) _ _ _); (refine extend_revL (by rfl) (by assumption) (by assumption) (by assumption) (by first | assumption | (simp; done)) (by omega) (by k_all) (by intro c'; k_upd) (by omega) ?_); intro c' h' tk' F' N'; (try k_sweep)))
  k_with "compareOp NotIn int ref" => ((refine kdg_notin (knd := PySem.intKind _ _) (by assumption) (by k_mem) (by assumption) (by assumption) (intKind_is _ _ _ _) _ (by assumption) ?_))
  k_with "setItem ref int" => (((refine kda_set (knd := PySem.intKind _ _) (by assumption) (by assumption) (by k_updF) (by assumption) (intKind_is _ _ _ _) (by rw [PySem.sizeLine_eq]; omega) ?_); intro h' o' F' N' hd'; (try dsimp only at N'); (try k_sweep)))
  trivial
section
variable {w : World} {s : Shared} {loose : List Str} {mean : ExcName → Option Value} {mg mb : Str → Option Value} {Q : Value → Shared → Prop} {E : Value → Shared → Prop}
theorem vo_spec (X : (hd.heap_39 w.params).In s.heap) (T : Top hd.view_39 loose mean mg mb s.heap) {a : Addr} {its : List Value} {us : List Tm} (ht : IsTup s.heap a its.toArray) (hts : All2 (TmAt s.heap) its us) (hB : wts us ≤ 1000)
    (hq : ∀ r n vs h' tk, Keeps s.heap h' → s.heap.get? r = none → h'.get? r = some (W.listOf vs.toArray n) → IntsAre vs (varsOf us) → Q (.ref r) { s with heap := h', toks := tk }) :
    wpAny (model PySem.Challenge.rw_rh0063_01.row.prog w) (AK 500 100) (call (.ref 21) [.ref a]) Q E s := by
  have hl : its.length ≤ 1000 := by have := hts.length; have := len_le_wts us; omega
  have hl2 : its.toArray.size ≤ 1000 := by rw [List.size_toArray]; exact hl
  have hr := hts.reverse
  have e1 : (flatsV us.reverse.reverse).foldl addv [] = varsOf us := by rw [List.reverse_reverse]; rfl
  have e2 : ([] : List Int).length + wts us.reverse ≤ 1000 := by unfold wts at *; rw [List.map_reverse, List.sum_reverse]; simpa using hB
  refine call_ro X T (by rfl) (by kernel_rfl) (by decide) (BindsTo.of_eq rfl) (locs rfl) rfl rfl rfl (by decide) ?_
  intro h₁ L hL F N
  walk_at "my steps"
  refine while_vo ⟨by assumption, fun _ _ => rfl, by assumption, hr, .nil, by assumption, rfl, e1, e2⟩ ?_ ?_ PassesOwn.never
  · intro us u ws x h tk m cT cR vs rs kvs oD V hts hx F'
    have N' := V.N
    have hdict := V.dict
    have hsz := V.size
    have hlw := hts.length
    have hlu := len_le_wts us
    have hlv := V.isI.length
    have hlk : kvs.length = rs.length := by rw [← V.keys, List.length_map]
    rw [wts_append, wts_one] at hsz
    have hk := valueAt_isSome kvs
    rw [V.keys] at hk
    cases u with
    | v n =>
      obtain ⟨a, t, u, rfl, hta⟩ := hx
      have hkn := hk n
      have ht := V.tgt
      rw [tgt_v] at ht
      by_cases hin : n ∈ rs
      · rw [decide_eq_true hin] at hkn
        rw [addv_in hin] at ht
        walk_at "my steps"
        refine VEnd.intro ⟨by assumption, fun z hz => ?_, by assumption, hts, V.isI, hdict, V.keys, ht, by omega⟩ (by rw [wts_append, wts_one]; have := wts_pos (.v n); omega)
        (dsimp only; simp only [if_neg hz])
      · rw [decide_eq_false hin] at hkn
        have hq := addv_out hin
        walk_at "my steps"
        refine VEnd.intro ⟨by assumption, fun z hz => ?_, by assumption, hts, V.isI.append (.cons n _ .nil), by assumption, by rw [stored_keys, V.keys, hq], by rw [← hq]; exact ht, ?_⟩ (by rw [wts_append, wts_one]; have := wts_pos (.v n); omega)
        · (dsimp only; simp only [if_neg hz])
        · rw [List.length_append, List.length_singleton]; simp only [wt] at hsz; omega
    | c =>
      have ht := V.tgt
      rw [tgt_c] at ht
      obtain ⟨a, t, y, k, rfl, rfl | rfl, hta⟩ := hx
      · walk_at "my steps"
        refine VEnd.intro ⟨by assumption, fun z hz => ?_, by assumption, hts, V.isI, hdict, V.keys, ht, by omega⟩ (by rw [wts_append, wts_one]; have := wts_pos .c; omega)
        (dsimp only; simp only [if_neg hz])
      · walk_at "my steps"
        refine VEnd.intro ⟨by assumption, fun z hz => ?_, by assumption, hts, V.isI, hdict, V.keys, ht, by omega⟩ (by rw [wts_append, wts_one]; have := wts_pos .c; omega)
        (dsimp only; simp only [if_neg hz])
    | s n =>
      have ht := V.tgt
      rw [tgt_s] at ht
      obtain ⟨a, t, y, b, e1, e2, rfl, hta, htb, he1, he2⟩ := hx
      walk_at "my steps"
      have hcv : All2 (TmAt _) [e2, e1] [.c, .v n] := .cons he2 (.cons he1 .nil)
      refine VEnd.intro (us' := us ++ [.c, .v n]) ⟨by assumption, fun z hz => ?_, by assumption, hts.append hcv, V.isI, hdict, V.keys, ht, ?_⟩ ?_
      · (dsimp only; simp only [if_neg hz])
      · rw [wts_append]; simp only [wt, wts, List.map_cons, List.map_nil, List.sum_cons, List.sum_nil] at hsz ⊢; omega
      · rw [wts_append, wts_append]; simp only [wt, wts, List.map_cons, List.map_nil, List.sum_cons, List.sum_nil]; omega
  · intro h tk m cT cR vs kvs oD V F'
    have N' := V.N
    walk_at "my steps"
    refine ⟨rfl, ?_⟩
    walk_at "my steps"
    dsimp only
    refine hq _ _ _ _ _ F'.keep ?_ (N' _ (.tail _ (.head _))).1 V.isI
    exact (N' _ (.tail _ (.head _))).2.2
end
end Mine
end
/- Gl -/
noncomputable section
open PySem PySem.W PyProof.Rows
set_option maxRecDepth 100000
set_option maxHeartbeats 8000000
namespace Mine
def GlAt (h : Heap) (x : Value) : Gl → Prop
  | .level n => ∃ a t u, x = .ref a ∧ IsTup h a [.str "level" t, .int n u].toArray
  | .mark n => ∃ a t u, x = .ref a ∧ IsTup h a [.str "mark" t, .int n u].toArray
  | .cutto n => ∃ a t u, x = .ref a ∧ IsTup h a [.str "cutto" t, .int n u].toArray
  | .cut => ∃ a t, x = .ref a ∧ IsTup h a [.str "cut" t].toArray
  | .fail => ∃ a t, x = .ref a ∧ IsTup h a [.str "fail" t].toArray
  | .call p => ∃ a t y b e, x = .ref a ∧ IsTup h a [.str "call" t, y, .ref b].toArray ∧ IsTup h b [e].toArray ∧ TmAt h e p
  | .builtin p => ∃ a t y b e1 e2, x = .ref a ∧ IsTup h a [.str "builtin" t, y, .ref b].toArray ∧ IsTup h b [e1, e2].toArray ∧ CstAt h e1 ∧ TmAt h e2 p
  | .unify p => ∃ a t e1 e2, x = .ref a ∧ IsTup h a [.str "unify" t, e1, e2].toArray ∧ TmAt h e1 p ∧ CstAt h e2
theorem GlAt.keeps {h h' : Heap} (k : Keeps h h') {x : Value} : ∀ {g : Gl}, GlAt h x g → GlAt h' x g
  | .level _, ⟨a, t, u, e, e1⟩ => ⟨a, t, u, e, e1.keeps k⟩
  | .mark _, ⟨a, t, u, e, e1⟩ => ⟨a, t, u, e, e1.keeps k⟩
  | .cutto _, ⟨a, t, u, e, e1⟩ => ⟨a, t, u, e, e1.keeps k⟩
  | .cut, ⟨a, t, e, e1⟩ => ⟨a, t, e, e1.keeps k⟩
  | .fail, ⟨a, t, e, e1⟩ => ⟨a, t, e, e1.keeps k⟩
  | .call _, ⟨a, t, y, b, e, e1, e2, e3, e4⟩ => ⟨a, t, y, b, e, e1, e2.keeps k, e3.keeps k, TmAt.keeps k e4⟩
  | .builtin _, ⟨a, t, y, b, x1, x2, e1, e2, e3, e4, e5⟩ => ⟨a, t, y, b, x1, x2, e1, e2.keeps k, e3.keeps k, e4.keeps k, TmAt.keeps k e5⟩
  | .unify _, ⟨a, t, x1, x2, e1, e2, e3, e4⟩ => ⟨a, t, x1, x2, e1, e2.keeps k, TmAt.keeps k e3, e4.keeps k⟩
theorem words_Gl : True := by
  k_with_none
  k_with "subscriptTail Name Constant ref int" => (((with_reducible show wpAny _ _ (subscriptTail _ _ (Value.ref _) (Value.int _ _)) _ _ _); k_dflt (refine item_tupleT (Fr.tup (by assumption) (by assumption)) (by decide) (by decide) (by rfl) (by rfl) ?_)))
  k_with "ite" => ((k_closed; k_dflt (first | refine PySem.W.ite_pos (by decide +kernel) ?_ | refine PySem.W.ite_neg (by decide +kernel) ?_)))
  k_with "my steps" => (repeat' ((fail_if_success (with_reducible show wpAny _ _ (exec (PySem.Stmt.While _ _ _ _) _) _ _ _)); (fail_if_success (with_reducible show wpAny _ _ (exec (PySem.Stmt.For _ _ _ _ _) _) _ _ _)); first | (k_unfold; (try dsimp only)) | walk1 | (dsimp only; walk1) | (leave1; walk_say "STEP leave1"; try dsimp only) | fail "no step"))
  trivial
section
variable {w : World} {s : Shared} {loose : List Str} {mean : ExcName → Option Value} {mg mb : Str → Option Value} {Q : Value → Shared → Prop} {E : Value → Shared → Prop}
theorem gs_spec (X : (hd.heap_39 w.params).In s.heap) (T : Top hd.view_39 loose mean mg mb s.heap) {x : Value} {g : Gl} (hg : GlAt s.heap x g)
   (hq : ∀ h' tk u, Keeps s.heap h' → Q (.int (gSpecial g) u) { s with heap := h', toks := tk }) :
    wpAny (model PySem.Challenge.rw_rh0063_01.row.prog w) (AK 500 100) (call (.ref 56) [x]) Q E s := by
  cases g with
  | level n | mark n | cutto n =>
    obtain ⟨a, t, u, rfl, ht⟩ := hg
    refine call_ro X T (by rfl) (by kernel_rfl) (by decide) (BindsTo.of_eq rfl) (locs rfl) rfl rfl rfl (by decide) ?_
    intro h₁ L hL F N
    walk_at "my steps"
    dsimp only
    exact hq _ _ _ F.keep
  | cut | fail =>
    obtain ⟨a, t, rfl, ht⟩ := hg
    refine call_ro X T (by rfl) (by kernel_rfl) (by decide) (BindsTo.of_eq rfl) (locs rfl) rfl rfl rfl (by decide) ?_
    intro h₁ L hL F N
    walk_at "my steps"
    dsimp only
    exact hq _ _ _ F.keep
  | call p =>
    obtain ⟨a, t, y, b, e, rfl, ht, hr⟩ := hg
    refine call_ro X T (by rfl) (by kernel_rfl) (by decide) (BindsTo.of_eq rfl) (locs rfl) rfl rfl rfl (by decide) ?_
    intro h₁ L hL F N
    walk_at "my steps"
    dsimp only
    exact hq _ _ _ F.keep
  | builtin p =>
    obtain ⟨a, t, y, b, e, e2, rfl, ht, hr⟩ := hg
    refine call_ro X T (by rfl) (by kernel_rfl) (by decide) (BindsTo.of_eq rfl) (locs rfl) rfl rfl rfl (by decide) ?_
    intro h₁ L hL F N
    walk_at "my steps"
    dsimp only
    exact hq _ _ _ F.keep
  | unify p =>
    obtain ⟨a, t, e1, e2, rfl, ht, hr⟩ := hg
    refine call_ro X T (by rfl) (by kernel_rfl) (by decide) (BindsTo.of_eq rfl) (locs rfl) rfl rfl rfl (by decide) ?_
    intro h₁ L hL F N
    walk_at "my steps"
    dsimp only
    exact hq _ _ _ F.keep
theorem gt_spec (X : (hd.heap_39 w.params).In s.heap) (T : Top hd.view_39 loose mean mg mb s.heap) {x : Value} {g : Gl} (hg : GlAt s.heap x g)
   (hq : ∀ h' tk r vs, Keeps s.heap h' → IsTup h' r vs.toArray → All2 (TmAt h') vs (gTerms g) → Q (.ref r) { s with heap := h', toks := tk }) :
    wpAny (model PySem.Challenge.rw_rh0063_01.row.prog w) (AK 500 100) (call (.ref 49) [x]) Q E s := by
  cases g with
  | level n | mark n | cutto n =>
    obtain ⟨a, t, u, rfl, ht⟩ := hg
    refine call_ro X T (by rfl) (by kernel_rfl) (by decide) (BindsTo.of_eq rfl) (locs rfl) rfl rfl rfl (by decide) ?_
    intro h₁ L hL F N
    walk_at "my steps"
    dsimp only
    (rename Fr _ _ _ _ => F')
    (rename News _ _ _ _ => N')
    exact hq _ _ _ [] F'.keep ⟨_, (N' _ (.head _)).1, rfl, _, rfl⟩ .nil
  | cut | fail =>
    obtain ⟨a, t, rfl, ht⟩ := hg
    refine call_ro X T (by rfl) (by kernel_rfl) (by decide) (BindsTo.of_eq rfl) (locs rfl) rfl rfl rfl (by decide) ?_
    intro h₁ L hL F N
    walk_at "my steps"
    dsimp only
    (rename Fr _ _ _ _ => F')
    (rename News _ _ _ _ => N')
    exact hq _ _ _ [] F'.keep ⟨_, (N' _ (.head _)).1, rfl, _, rfl⟩ .nil
  | call p =>
    obtain ⟨a, t, y, b, e, rfl, ht, hr, hr2⟩ := hg
    refine call_ro X T (by rfl) (by kernel_rfl) (by decide) (BindsTo.of_eq rfl) (locs rfl) rfl rfl rfl (by decide) ?_
    intro h₁ L hL F N
    walk_at "my steps"
    dsimp only
    (rename Fr _ _ _ _ => F')
    exact hq _ _ _ [e] F'.keep (F'.tup hr) (.cons (TmAt.keeps F'.keep hr2) .nil)
  | builtin p =>
    obtain ⟨a, t, y, b, e, e2, rfl, ht, hr, hr2, hr3⟩ := hg
    refine call_ro X T (by rfl) (by kernel_rfl) (by decide) (BindsTo.of_eq rfl) (locs rfl) rfl rfl rfl (by decide) ?_
    intro h₁ L hL F N
    walk_at "my steps"
    dsimp only
    (rename Fr _ _ _ _ => F')
    exact hq _ _ _ [e, e2] F'.keep (F'.tup hr) (.cons (hr2.keeps F'.keep) (.cons (TmAt.keeps F'.keep hr3) .nil))
  | unify p =>
    obtain ⟨a, t, e1, e2, rfl, ht, hr, hr2⟩ := hg
    refine call_ro X T (by rfl) (by kernel_rfl) (by decide) (BindsTo.of_eq rfl) (locs rfl) rfl rfl rfl (by decide) ?_
    intro h₁ L hL F N
    walk_at "my steps"
    dsimp only
    (rename Fr _ _ _ _ => F')
    (rename News _ _ _ _ => N')
    exact hq _ _ _ [e1, e2] F'.keep ⟨_, (N' _ (.head _)).1, rfl, _, rfl⟩ (.cons (TmAt.keeps F'.keep hr) (.cons (hr2.keeps F'.keep) .nil))
end
end Mine
namespace Mine
theorem GlAt.keepsT {h h' : Heap} (k : KeepsT h h') {x : Value} : ∀ {g : Gl}, GlAt h x g → GlAt h' x g
  | .level _, ⟨a, t, u, e, e1⟩ => ⟨a, t, u, e, tup_keepsT k e1⟩
  | .mark _, ⟨a, t, u, e, e1⟩ => ⟨a, t, u, e, tup_keepsT k e1⟩
  | .cutto _, ⟨a, t, u, e, e1⟩ => ⟨a, t, u, e, tup_keepsT k e1⟩
  | .cut, ⟨a, t, e, e1⟩ => ⟨a, t, e, tup_keepsT k e1⟩
  | .fail, ⟨a, t, e, e1⟩ => ⟨a, t, e, tup_keepsT k e1⟩
  | .call _, ⟨a, t, y, b, e, e1, e2, e3, e4⟩ => ⟨a, t, y, b, e, e1, tup_keepsT k e2, tup_keepsT k e3, TmAt.keepsT k e4⟩
  | .builtin _, ⟨a, t, y, b, x1, x2, e1, e2, e3, e4, e5⟩ => ⟨a, t, y, b, x1, x2, e1, tup_keepsT k e2, tup_keepsT k e3, e4.keepsT k, TmAt.keepsT k e5⟩
  | .unify _, ⟨a, t, x1, x2, e1, e2, e3, e4⟩ => ⟨a, t, x1, x2, e1, tup_keepsT k e2, TmAt.keepsT k e3, e4.keepsT k⟩
end Mine
end
/- Hid -/
noncomputable section
open PySem PySem.W PyProof.Rows
set_option maxRecDepth 100000
namespace Mine
/-- a call that sees some of the ledger as its own -/
theorem code_hid {prog : Program} {w : World} {A : Around} {s : Shared} {K : Frag} {p : Program} {loose : List Str} {mean : ExcName → Option Value} {mg mb : Str → Option Value}
    {R : Result → Shared → Prop} {name qual : Str} {params : Arguments} {body : List Stmt} {scope : Scope} {dV kV doc pm cdv ct oc : Value} {an od : Option Addr} {osl : Array (Option Value)} {f : Addr} {args : Args} {binds : List (Str × Value)} {h₀ : Heap}
    (hid : List (Addr × Obj)) (K0 : Keeps h₀ s.heap) (X : K.In h₀) (T : Top p loose mean mg mb h₀) (hh : ∀ p ∈ hid, s.heap.get? p.1 = some p.2 ∧ h₀.get? p.1 = none)
    (ho : K.lookup f = some ⟨oc, od, .func (fnOf name qual params body scope dV kV doc pm an cdv ct), osl⟩) (hcd : codeIn K cdv qual = true) (hroom : A.depth < recursionLimit)
    (hbind : BindsTo s (fnOf name qual params body scope dV kV doc pm an cdv ct) args binds) (hloc : ∀ y ∈ binds, scope.names.lookup y.1 = some .local)
    (hco : scope.isCoroutine = false) (hgen : scope.isGenerator = false) (hk : scope.kind = .function) (hcell : ∀ x ∈ scope.names, x.2 ≠ .cell)
    (h : ∀ g h₁ L', K.In g → Top p loose mean mg mb g → Keeps h₀ g → Keeps g s.heap → (∀ b o, s.heap.get? b = some o → b ∉ hid.map (·.1) → g.get? b = some o) → L' = s.heap.objs.size →
      Fr g L' h₁ (fun y => binds.reverse.lookup y) → News g L' h₁ hid → (∀ p ∈ hid, p.1 < L') →
      wpAny (model prog w) (A.deeper (envOf qual scope L' f cdv)) (execs body (envOf qual scope L' f cdv))
        (fun fl s' => R (.ok (.ret (match fl with | .ret v => v | _ => .none))) s') (fun _ _ => False)
        { s with heap := h₁, toks := s.toks + binds.length }) : codeAny (model prog w) A (.call (.ref f) args) R s := by
  have nm : ∀ b o, h₀.get? b = some o → b ∉ hid.map (·.1) := fun b o e q => by
    obtain ⟨p, hp, rfl⟩ := List.mem_map.mp q
    rw [(hh p hp).2] at e; cases e
  have st : Keeps h₀ (hideAll s.heap (hid.map (·.1))) := fun b o e => hideAll_get _ (K0 b o e) (nm b o e)
  have hid0 : ∀ b, b ∈ hid.map (·.1) → (hideAll s.heap (hid.map (·.1))).get? b = none := fun b hb => hideAll_none _ hb
  have hz := hideAll_size (hid.map (·.1)) s.heap
  have up : Keeps (hideAll s.heap (hid.map (·.1))) s.heap := fun b o e => of_hideAll _ e
  have dn : ∀ b o, s.heap.get? b = some o → b ∉ hid.map (·.1) → (hideAll s.heap (hid.map (·.1))).get? b = some o := fun b o e n => hideAll_get _ e n
  generalize hideAll s.heap (hid.map (·.1)) = g at st hid0 hz up dn
  refine codeAny_call_def (fd := fnOf name qual params body scope dV kV doc pm an cdv ct) (body := body) (binds := binds) hroom (X.keeps K0 _ _ ho) rfl (T.keeps K0).nolimit (codeRec_of (X.keeps K0) hcd) rfl hbind hcell hloc (fun h₁ hns hk₁ => ?_) hco hgen hk
  refine wpAny_mono (h g h₁ _ (X.keeps st) (T.keeps st) st up dn rfl ⟨hns, fun b o e => hk₁ b o (up b o e), Nat.le_of_eq hz⟩ (fun p hp => ?_) (fun p hp => Heap.lt_size (hh p hp).1)) (fun _ _ x => x) (fun _ _ x => x.elim)
  exact ⟨hk₁ _ _ (hh p hp).1, Nat.ne_of_lt (Heap.lt_size (hh p hp).1), hid0 _ (List.mem_map_of_mem hp)⟩
theorem call_hid {prog : Program} {w : World} {A : Around} {s : Shared} {K : Frag} {p : Program} {loose : List Str} {mean : ExcName → Option Value} {mg mb : Str → Option Value}
    {Q E : Value → Shared → Prop} {name qual : Str} {params : Arguments} {body : List Stmt} {scope : Scope} {dV kV doc pm cdv ct oc : Value} {an od : Option Addr} {osl : Array (Option Value)} {f : Addr} {args : List Value} {binds : List (Str × Value)} {h₀ : Heap}
    (hid : List (Addr × Obj)) (K0 : Keeps h₀ s.heap) (X : K.In h₀) (T : Top p loose mean mg mb h₀) (hh : ∀ p ∈ hid, s.heap.get? p.1 = some p.2 ∧ h₀.get? p.1 = none)
    (ho : K.lookup f = some ⟨oc, od, .func (fnOf name qual params body scope dV kV doc pm an cdv ct), osl⟩) (hcd : codeIn K cdv qual = true) (hroom : A.depth < recursionLimit)
    (hbind : BindsTo s (fnOf name qual params body scope dV kV doc pm an cdv ct) ⟨args, []⟩ binds) (hloc : ∀ y ∈ binds, scope.names.lookup y.1 = some .local)
    (hco : scope.isCoroutine = false) (hgen : scope.isGenerator = false) (hk : scope.kind = .function) (hcell : ∀ x ∈ scope.names, x.2 ≠ .cell)
    (h : ∀ g h₁ L', K.In g → Top p loose mean mg mb g → Keeps h₀ g → Keeps g s.heap → (∀ b o, s.heap.get? b = some o → b ∉ hid.map (·.1) → g.get? b = some o) → L' = s.heap.objs.size →
      Fr g L' h₁ (fun y => binds.reverse.lookup y) → News g L' h₁ hid → (∀ p ∈ hid, p.1 < L') →
      wpAny (model prog w) (A.deeper (envOf qual scope L' f cdv)) (execs body (envOf qual scope L' f cdv))
        (fun fl s' => Q (match fl with | .ret v => v | _ => .none) s') (fun _ _ => False)
        { s with heap := h₁, toks := s.toks + binds.length }) : wpAny (model prog w) A (call (.ref f) args) Q E s :=
  wpAny_call (code_hid hid K0 X T hh ho hcd hroom hbind hloc hco hgen hk hcell h)
/-- the caller's frame behind a call -/
theorem hid_back {s : Shared} {h₀ g h' : Heap} {L L' : Addr} {m m' : Str → Option Value} {hid rest rest' hid' : List (Addr × Obj)} (F : Fr h₀ L s.heap m) (N : News h₀ L s.heap (hid ++ rest)) (ha : ∀ p ∈ rest, p.1 ∉ hid.map (·.1)) (hm : hid'.map (·.1) = hid.map (·.1))
    (hg : ∀ b o, s.heap.get? b = some o → b ∉ hid.map (·.1) → g.get? b = some o) (F' : Fr g L' h' m') (N' : News g L' h' (hid' ++ rest')) : Fr h₀ L h' m ∧ News h₀ L h' (hid' ++ rest) := by
  have k : ∀ b o, s.heap.get? b = some o → b ∉ hid.map (·.1) → h'.get? b = some o := fun b o e n => F'.keep b o (hg b o e n)
  have nh : ∀ b o, h₀.get? b = some o → b ∉ hid.map (·.1) := fun b o e q => by
    obtain ⟨p, hp, rfl⟩ := List.mem_map.mp q
    have := (N p (List.mem_append_left _ hp)).2.2
    rw [this] at e; cases e
  have nL : L ∉ hid.map (·.1) := fun q => by
    obtain ⟨p, hp, e⟩ := List.mem_map.mp q
    exact (N p (List.mem_append_left _ hp)).2.1 e
  obtain ⟨oL, es, ep, hL, hr⟩ := F.ns
  refine ⟨⟨⟨oL, es, ep, k L oL hL nL, hr⟩, fun b o e => k b o (F.keep b o e) (nh b o e), F.above⟩, fun p hp => ?_⟩
  rcases List.mem_append.mp hp with hp | hp
  · have h1 : p.1 ∈ hid.map (·.1) := hm ▸ List.mem_map_of_mem hp
    obtain ⟨q, hq, e⟩ := List.mem_map.mp h1
    exact ⟨(N' p (List.mem_append_left _ hp)).1, e ▸ (N q (List.mem_append_left _ hq)).2⟩
  · exact ⟨k _ _ (N p (List.mem_append_right _ hp)).1 (ha p hp), (N p (List.mem_append_right _ hp)).2⟩
theorem hid_back0 {s : Shared} {h₀ g h' : Heap} {L L' : Addr} {m m' : Str → Option Value} {hid rest hid' : List (Addr × Obj)} (F : Fr h₀ L s.heap m) (N : News h₀ L s.heap (hid ++ rest)) (ha : ∀ p ∈ rest, p.1 ∉ hid.map (·.1)) (hm : hid'.map (·.1) = hid.map (·.1))
    (hg : ∀ b o, s.heap.get? b = some o → b ∉ hid.map (·.1) → g.get? b = some o) (F' : Fr g L' h' m') (N' : News g L' h' hid') : Fr h₀ L h' m ∧ News h₀ L h' (hid' ++ rest) :=
  hid_back (rest' := []) F N ha hm hg F' (by rw [List.append_nil]; exact N')
theorem hid_keeps {s : Shared} {g h' : Heap} {L' : Addr} {m' : Str → Option Value} {hid rest : List (Addr × Obj)} (hh : ∀ p ∈ hid, s.heap.get? p.1 = some p.2)
    (hg : ∀ b o, s.heap.get? b = some o → b ∉ hid.map (·.1) → g.get? b = some o) (F' : Fr g L' h' m') (N' : News g L' h' rest) (hs : ∀ p ∈ hid, p ∈ rest) : Keeps s.heap h' := fun b o e => by
  by_cases hb : b ∈ hid.map (·.1)
  · obtain ⟨p, hp, rfl⟩ := List.mem_map.mp hb
    have := hh p hp
    rw [e] at this
    rw [Option.some.inj this]
    exact (N' p (hs p hp)).1
  · exact F'.keep b o (hg b o e hb)
end Mine
end
/- Kc -/
noncomputable section
open PySem PySem.W PyProof.Rows
set_option maxRecDepth 100000
set_option maxHeartbeats 8000000
namespace Mine
theorem words_Kc : True := by
  k_with_none
  k_with "my steps" => (repeat' ((fail_if_success (with_reducible show wpAny _ _ (exec (PySem.Stmt.While _ _ _ _) _) _ _ _)); (fail_if_success (with_reducible show wpAny _ _ (exec (PySem.Stmt.For _ _ _ _ _) _) _ _ _)); first | (k_unfold; (try dsimp only)) | walk1 | (dsimp only; walk1) | (leave1; walk_say "STEP leave1"; try dsimp only) | fail "no step"))
  trivial
abbrev kEnt (P : Params) (f a g c : Value) (t1 t2 t3 t4 : Tok) : List DictEntry :=
  [⟨PyData.keyHash P (Str.ofString "functor"), .str (Str.ofString "functor") t1, f⟩, ⟨PyData.keyHash P (Str.ofString "args"), .str (Str.ofString "args") t2, a⟩,
   ⟨PyData.keyHash P (Str.ofString "goals"), .str (Str.ofString "goals") t3, g⟩, ⟨PyData.keyHash P (Str.ofString "count"), .str (Str.ofString "count") t4, c⟩]
section
variable {w : World} {s : Shared} {loose : List Str} {mean : ExcName → Option Value} {mg mb : Str → Option Value} {Q : Value → Shared → Prop} {E : Value → Shared → Prop} {h₀ : Heap} {L : Addr} {m : Str → Option Value} {news : List (Addr × Obj)}
theorem mk_kernel {fv av gv cv : Value} (F : Fr h₀ L s.heap m) (N : News h₀ L s.heap news) (X : (hd.heap_39 w.params).In h₀) (T : Top hd.view_39 loose mean mg mb h₀)
   (hq : ∀ x dx h' tk t1 t2 t3 t4, Fr h₀ L h' m → News h₀ L h' ((x, instObj 38 dx) :: (dx, dictOf (kEnt w.params fv av gv cv t1 t2 t3 t4) 4) :: news) → (∀ p ∈ news, p.1 < dx) → dx < x → Q (.ref x) { s with heap := h', toks := tk }) :
    wpAny (model PySem.Challenge.rw_rh0063_01.row.prog w) (AK 485 90) (call (.ref 38) [fv, av, gv, cv]) Q E s := by
  refine call_cls (fI := 35) F X N (by kernel_rfl) (by kernel_rfl) (by kernel_rfl) fun x dx h₁ F₁ N₁ l1 l2 => ?_
  refine code_hid (hid := [(x, instObj 38 dx), (dx, dictOf [] 0)]) F₁.keep X T (fun p hp => ⟨(N₁ p (by rcases List.mem_cons.mp hp with rfl | hp; exact .head _; rw [List.mem_singleton.mp hp]; exact .tail _ (.head _))).1, (N₁ p (by rcases List.mem_cons.mp hp with rfl | hp; exact .head _; rw [List.mem_singleton.mp hp]; exact .tail _ (.head _))).2.2⟩)
    (by rfl) (by kernel_rfl) (show (486 : Nat) < recursionLimit from by decide) (BindsTo.of_eq rfl) (locs rfl) rfl rfl rfl (by decide) ?_
  intro g h₂ L' X' T' K0 Kup Kdn hL F' N' l3
  refine weaken 499 99 ?_ rfl (Nat.le_of_ble_eq_true rfl) (Nat.le_of_ble_eq_true rfl)
  have l2' := ltN l2
  walk_at "my steps"
  (rename Fr _ _ _ _ => F'')
  (rename News _ _ _ _ => N'')
  have hne : ∀ p ∈ news, p.1 ∉ [(x, instObj 38 dx), (dx, dictOf [] 0)].map (·.1) := fun p hp hm => by
    have h1 := l1 p hp
    rcases List.mem_cons.mp hm with e | hm
    · have e' : p.1 = x := e
      rw [e'] at h1; exact Nat.lt_irrefl _ (Nat.lt_trans h1 l2)
    · have e' : p.1 = dx := List.mem_singleton.mp hm
      rw [e'] at h1; exact Nat.lt_irrefl _ h1
  obtain ⟨F3, N3⟩ := hid_back0 (hid := [(x, instObj 38 dx), (dx, dictOf [] 0)]) (rest := news) F₁ N₁ hne (by rfl) Kdn F'' N''
  dsimp only [InitBack]
  refine ⟨rfl, ?_⟩
  exact hq x dx _ _ _ _ _ _ F3 N3 l1 l2
end
end Mine
end
/- Use -/
noncomputable section
open PySem PySem.W PyProof.Rows
set_option maxRecDepth 100000
namespace Mine
section
variable {w : World} {A : Around} {s : Shared} {loose : List Str} {mean : ExcName → Option Value} {mg mb : Str → Option Value} {Q : Value → Shared → Prop} {E : Value → Shared → Prop} {h₀ : Heap} {L : Addr} {m : Str → Option Value} {news : List (Addr × Obj)}
theorem keeps_back {h' : Heap} (F : Fr h₀ L s.heap m) (N : News h₀ L s.heap news) (k : Keeps s.heap h') : Fr h₀ L h' m ∧ News h₀ L h' news :=
  ⟨F.keeps k, fun p hp => ⟨k _ _ (N p hp).1, (N p hp).2⟩⟩
theorem vo_use (hA : A.handled = none) (hd1 : A.depth ≤ 500) (hu : A.units ≤ 100) (F : Fr h₀ L s.heap m) (N : News h₀ L s.heap news) (X : (hd.heap_39 w.params).In h₀) (T : Top hd.view_39 loose mean mg mb h₀) {a : Addr} {its : List Value} {us : List Tm} (ht : IsTup s.heap a its.toArray) (hts : All2 (TmAt s.heap) its us) (hB : wts us ≤ 1000)
    (h : ∀ r n vs h' tk, Fr h₀ L h' m → News h₀ L h' ((r, W.listOf vs.toArray n) :: news) → (∀ p ∈ news, @Ne Nat p.1 r) → IntsAre vs (varsOf us) → Q (.ref r) { s with heap := h', toks := tk }) :
    wpAny (model PySem.Challenge.rw_rh0063_01.row.prog w) A (call (.ref 21) [.ref a]) Q E s := by
  refine weaken 500 100 (vo_spec (X.keeps F.keep) (T.keeps F.keep) ht hts hB fun r n vs h' tk k hr hg hi => ?_) hA hd1 hu
  obtain ⟨F', N'⟩ := keeps_back F N k
  refine h r n vs h' tk F' (fun p hp => ?_) (fun p hp q => ?_) hi
  · rcases List.mem_cons.mp hp with rfl | hp
    · refine ⟨hg, fun q => ?_, ?_⟩
      · obtain ⟨oL, _, _, hL, _⟩ := F.ns
        rw [← q, hr] at hL; cases hL
      · cases e : h₀.get? r with
        | none => rfl
        | some o => have := F.keep _ _ e; rw [hr] at this; cases this
    · exact N' p hp
  · have := (N p hp).1; rw [q, hr] at this; cases this
theorem gs_use (hA : A.handled = none) (hd1 : A.depth ≤ 500) (hu : A.units ≤ 100) (F : Fr h₀ L s.heap m) (N : News h₀ L s.heap news) (X : (hd.heap_39 w.params).In h₀) (T : Top hd.view_39 loose mean mg mb h₀) {x : Value} {g : Gl} (hg : GlAt s.heap x g)
    (h : ∀ u h' tk, Fr h₀ L h' m → News h₀ L h' news → Q (.int (gSpecial g) u) { s with heap := h', toks := tk }) :
    wpAny (model PySem.Challenge.rw_rh0063_01.row.prog w) A (call (.ref 56) [x]) Q E s :=
  weaken 500 100 (gs_spec (X.keeps F.keep) (T.keeps F.keep) hg fun h' tk u k => let ⟨F', N'⟩ := keeps_back F N k; h u h' tk F' N') hA hd1 hu
theorem gt_use (hA : A.handled = none) (hd1 : A.depth ≤ 500) (hu : A.units ≤ 100) (F : Fr h₀ L s.heap m) (N : News h₀ L s.heap news) (X : (hd.heap_39 w.params).In h₀) (T : Top hd.view_39 loose mean mg mb h₀) {x : Value} {g : Gl} (hg : GlAt s.heap x g)
    (h : ∀ r vs h' tk, Fr h₀ L h' m → News h₀ L h' news → IsTup h' r vs.toArray → All2 (TmAt h') vs (gTerms g) → Q (.ref r) { s with heap := h', toks := tk }) :
    wpAny (model PySem.Challenge.rw_rh0063_01.row.prog w) A (call (.ref 49) [x]) Q E s :=
  weaken 500 100 (gt_spec (X.keeps F.keep) (T.keeps F.keep) hg fun h' tk r vs k e1 e2 => let ⟨F', N'⟩ := keeps_back F N k; h r vs h' tk F' N' e1 e2) hA hd1 hu
end
end Mine
end
/- CkL -/
noncomputable section
open PySem PySem.W PyProof.Rows
set_option maxRecDepth 100000
namespace Mine
theorem TPost.ret {h₀ : Heap} {L : Addr} {names : List Str} {m₀ : Str → Option Value} {J : (Str → Option Value) → List (Addr × Obj) → Prop} {fix : List (Addr × Obj)} {adr : List Addr} {s₁ s₂ : Shared} {Q : Flow → Shared → Prop} {v : Value} (h : Q (.ret v) s₂) : TPost h₀ L names m₀ J fix adr s₁ Q (.ret v) s₂ := h
section
variable {prog : Program} {w : World} {A : Around} {E : Value → Shared → Prop} {Q : Flow → Shared → Prop} {s : Shared} {env : Env} {h₀ : Heap} {x : Str} {body : List Stmt}
/-- check_kernel's first loop -/
theorem iter_held {ax hh : Addr} {c₀ : Nat} {avs : List Value} {args : List Tm} {rest : List (Addr × Obj)} {m₀ : Str → Option Value} (hh0 : A.handled = none) (ht : IsTup h₀ ax avs.toArray) (has : All2 (TmAt h₀) avs args) (hB : args.length ≤ 1000)
    (F : Fr h₀ env.locals s.heap m₀) (N : News h₀ env.locals s.heap ((hh, W.listOf ([] : List Value).toArray c₀) :: rest))
    (turn : ∀ (i : Nat) v t vs c h tk I oI, TmAt h₀ v t → IntsAre vs (heldOf (args.take i)) → vs.length ≤ 1000 → heldOf (args.take (i + 1)) = heldOf (args.take i) ++ heldOf [t] → hh < I → (∀ p ∈ rest, p.1 < I) → Fr h₀ env.locals h (fun y => if y = x then some v else m₀ y) → News h₀ env.locals h ((I, oI) :: (hh, W.listOf vs.toArray c) :: rest) →
      wpAny (model prog w) A (execs body env) (TPost h₀ env.locals [x] m₀ (fun _ news => ∃ vs c, news = (hh, W.listOf vs.toArray c) :: rest ∧ IntsAre vs (heldOf (args.take (i + 1)))) [(I, oI)] (hh :: rest.map (·.1)) { s with heap := h, toks := tk } Q) E { s with heap := h, toks := tk })
    (done : ∀ u vs c h tk, IntsAre vs (heldOf args) → Fr h₀ env.locals h (fun y => if y = x then u else m₀ y) → News h₀ env.locals h ((hh, W.listOf vs.toArray c) :: rest) → Q .next { s with heap := h, toks := tk }) :
    wpAny (model prog w) A (pyIter (.ref ax)) (fun it s₂ => LoopAtV prog w A h₀ env x body Q E it s₂) E s := by
  refine iter_tup [] (fun i _ news => ∃ vs c, news = (hh, W.listOf vs.toArray c) :: rest ∧ IntsAre vs (heldOf (args.take i))) hh0 ht F N ⟨[], c₀, rfl, by simpa [heldOf] using IntsAre.nil⟩ ?_ ?_
  · rintro i v u news₁ h tk I oI hv hI ha ⟨vs, c, rfl, hi⟩ F₁ N₁
    obtain ⟨t, ht', hat⟩ := has.get hv
    have e : args.take (i + 1) = args.take i ++ [t] := by rw [List.take_add_one, ht']; rfl
    have hlen := hi.length
    have h2 := heldOf_len (args.take i)
    have h3 : (args.take i).length ≤ args.length := by rw [List.length_take]; omega
    exact turn i v t vs c h tk I oI hat hi (by omega) (by rw [e, heldOf_append]) (hI _ (.head _)) (fun p hp => hI p (.tail _ hp)) F₁ N₁
  · rintro u news₁ h tk ha ⟨vs, c, rfl, hi⟩ F₁ N₁
    refine done (u x) vs c h tk ?_ F₁ N₁
    rw [has.length, List.take_length] at hi
    exact hi
/-- check_kernel's innermost loop -/
theorem iter_ks {ax ro : Addr} {c c₀ : Nat} {kvs ovs : List Value} {ks o : List Int} {p1 p2 : Addr × Obj} {rest : List (Addr × Obj)} {m₀ : Str → Option Value} (hh0 : A.handled = none) (hks : IntsAre kvs ks) (hov : IntsAre ovs o) (hB : o.length + ks.length ≤ 1000000)
    (F : Fr h₀ env.locals s.heap m₀) (N : News h₀ env.locals s.heap ((ax, W.listOf kvs.toArray c) :: p1 :: p2 :: (ro, W.listOf ovs.toArray c₀) :: rest))
    (turn : ∀ (i : Nat) k t vs c' h tk I oI o', ks[i]? = some k → IntsAre vs o' → o' = (ks.take i).foldl addv o → vs.length ≤ 1000000 → (ks.take (i + 1)).foldl addv o = addv o' k → ax < I → p1.1 < I → p2.1 < I → ro < I → (∀ p ∈ rest, p.1 < I) → Fr h₀ env.locals h (fun y => if y = x then some (.int k t) else m₀ y) →
        News h₀ env.locals h ((I, oI) :: (ax, W.listOf kvs.toArray c) :: p1 :: p2 :: (ro, W.listOf vs.toArray c') :: rest) →
      wpAny (model prog w) A (execs body env) (TPost h₀ env.locals [x] m₀ (fun _ news => ∃ vs c', news = p1 :: p2 :: (ro, W.listOf vs.toArray c') :: rest ∧ IntsAre vs ((ks.take (i + 1)).foldl addv o)) [(I, oI), (ax, W.listOf kvs.toArray c)] (p1.1 :: p2.1 :: ro :: rest.map (·.1)) { s with heap := h, toks := tk } Q) E { s with heap := h, toks := tk })
    (done : ∀ u vs c' h tk, IntsAre vs (ks.foldl addv o) → Fr h₀ env.locals h (fun y => if y = x then u else m₀ y) → News h₀ env.locals h (p1 :: p2 :: (ro, W.listOf vs.toArray c') :: rest) → Q .next { s with heap := h, toks := tk }) :
    wpAny (model prog w) A (pyIter (.ref ax)) (fun it s₂ => LoopAtV prog w A h₀ env x body Q E it s₂) E s := by
  refine iter_lst [] (fun i _ news => ∃ vs c', news = p1 :: p2 :: (ro, W.listOf vs.toArray c') :: rest ∧ IntsAre vs ((ks.take i).foldl addv o)) hh0 F N ⟨ovs, c₀, rfl, by simpa using hov⟩ ?_ ?_
  · rintro i v u news₁ h tk I oI hv hI hax ha ⟨vs, c', rfl, hi⟩ F₁ N₁
    have hil : i < kvs.length := (List.getElem?_eq_some_iff.mp hv).1
    have hkl : i < ks.length := by rw [← hks.length]; exact hil
    obtain ⟨t, ht⟩ := hks.get i ks[i] (List.getElem?_eq_getElem hkl)
    have e : v = .int ks[i] t := by rw [hv] at ht; exact Option.some.inj ht
    subst e
    have h1 := hi.length
    have h2 := foldl_addv_len (ks.take i) o
    have h3 : (ks.take i).length ≤ ks.length := by rw [List.length_take]; omega
    exact turn i ks[i] t vs c' h tk I oI _ (List.getElem?_eq_getElem hkl) hi rfl (by omega) (by rw [List.take_add_one, List.getElem?_eq_getElem hkl, List.foldl_append]; rfl) hax (hI _ (.head _)) (hI _ (.tail _ (.head _))) (hI _ (.tail _ (.tail _ (.head _)))) (fun p hp => hI p (.tail _ (.tail _ (.tail _ hp)))) F₁ N₁
  · rintro u news₁ h tk ha ⟨vs, c', rfl, hi⟩ F₁ N₁
    refine done (u x) vs c' h tk ?_ F₁ (fun p hp => N₁ p (.tail _ hp))
    rw [hks.length, List.take_length] at hi
    exact hi
/-- check_kernel's second loop -/
theorem iter_goals {r hh ro : Addr} {n c₀ c₁ : Nat} {t₀ u₀ v₀ : Tok} {goals : List Gl} {σ₀ : Cs} {hvs ovs : List Value} {rest : List (Addr × Obj)} {m₀ : Str → Option Value} (hh0 : A.handled = none) (hr : IsRange s.heap r 0 (n : Int) 1 t₀ u₀ v₀) (hn : n = goals.length) (hB : goals.length ≤ 1000)
    (hB1 : σ₀.order.length ≤ 1000) (hB2 : σ₀.held.length ≤ 1000) (hov : IntsAre ovs σ₀.order) (hhv : IntsAre hvs σ₀.held)
    (F : Fr h₀ env.locals s.heap m₀) (N : News h₀ env.locals s.heap ((hh, W.listOf hvs.toArray c₀) :: (ro, W.listOf ovs.toArray c₁) :: rest)) (hc : m₀ "called" = some (.bool σ₀.called))
    (turn : ∀ (i : Nat) g t u σ ov hv c c' h tk I oI, goals[i]? = some g → run 0 (goals.take i) σ₀ = some σ → u "called" = some (.bool σ.called) → IntsAre ov σ.order → IntsAre hv σ.held → ov.length ≤ 5000 → hv.length ≤ 5000 → hh < I → ro < I → (∀ p ∈ rest, p.1 < I) →
        Fr h₀ env.locals h (fun y => if y = x then some (.int (i : Int) t) else ovr ["goal", "kind", "special", "k", "called"] u m₀ y) → News h₀ env.locals h ((I, oI) :: (hh, W.listOf hv.toArray c) :: (ro, W.listOf ov.toArray c') :: rest) →
      wpAny (model prog w) A (execs body env) (TPost h₀ env.locals [x, "goal", "kind", "special", "k", "called"] m₀ (fun u news => okAt i σ g = true ∧ ∃ ov hv c c', u "called" = some (.bool (next σ g).called) ∧ news = (hh, W.listOf hv.toArray c) :: (ro, W.listOf ov.toArray c') :: rest ∧ IntsAre ov (next σ g).order ∧ IntsAre hv (next σ g).held)
        [(I, oI)] (hh :: ro :: rest.map (·.1)) { s with heap := h, toks := tk } Q) E { s with heap := h, toks := tk })
    (done : ∀ σ u (ov hv : List Value) c c' h tk, run 0 goals σ₀ = some σ → IntsAre ov σ.order → Fr h₀ env.locals h (ovr [x, "goal", "kind", "special", "k", "called"] u m₀) → News h₀ env.locals h ((hh, W.listOf hv.toArray c) :: (ro, W.listOf ov.toArray c') :: rest) → Q .next { s with heap := h, toks := tk }) :
    wpAny (model prog w) A (pyIter (.ref r)) (fun it s₂ => LoopAtV prog w A h₀ env x body Q E it s₂) E s := by
  subst hn
  refine iter_rng ["goal", "kind", "special", "k", "called"] (fun i u news => ∃ σ ov hv c c', run 0 (goals.take i) σ₀ = some σ ∧ u "called" = some (.bool σ.called) ∧ news = (hh, W.listOf hv.toArray c) :: (ro, W.listOf ov.toArray c') :: rest ∧ IntsAre ov σ.order ∧ IntsAre hv σ.held)
    hh0 hr hB F N ⟨σ₀, ovs, hvs, c₀, c₁, by simp [run], hc, rfl, hov, hhv⟩ ?_ ?_
  · rintro i t u news₁ h tk I oI hi hI ha ⟨σ, ov, hv, c, c', hrun, hcal, rfl, hio, hih⟩ F₁ N₁
    have hg := List.getElem?_eq_getElem hi
    have h1 := run_len _ _ _ _ hrun
    have h2 : (goals.take i).length ≤ goals.length := by rw [List.length_take]; omega
    have h3 := hio.length
    have h4 := hih.length
    refine wpAny_mono (turn i goals[i] t u σ ov hv c c' h tk I oI hg hrun hcal hio hih (by omega) (by omega) (hI _ (.head _)) (hI _ (.tail _ (.head _))) (fun p hp => hI p (.tail _ (.tail _ hp))) F₁ N₁) (fun f s₂ p => ?_) fun _ _ e => e
    have fin : TEnd h₀ env.locals [x, "goal", "kind", "special", "k", "called"] m₀ (fun u news => okAt i σ goals[i] = true ∧ ∃ ov hv c c', u "called" = some (.bool (next σ goals[i]).called) ∧ news = (hh, W.listOf hv.toArray c) :: (ro, W.listOf ov.toArray c') :: rest ∧ IntsAre ov (next σ goals[i]).order ∧ IntsAre hv (next σ goals[i]).held)
        [(I, oI)] (hh :: ro :: rest.map (·.1)) { s with heap := h, toks := tk } s₂ → TEnd h₀ env.locals [x, "goal", "kind", "special", "k", "called"] m₀ (fun u news => ∃ σ ov hv c c', run 0 (goals.take (i + 1)) σ₀ = some σ ∧ u "called" = some (.bool σ.called) ∧ news = (hh, W.listOf hv.toArray c) :: (ro, W.listOf ov.toArray c') :: rest ∧ IntsAre ov σ.order ∧ IntsAre hv σ.held) [(I, oI)] (hh :: ro :: rest.map (·.1)) { s with heap := h, toks := tk } s₂ := by
      rintro ⟨h', tk', m', news', e, F', N', hm', ha', hok, ov', hv', c1, c2, e1, e2, e3, e4⟩
      refine ⟨h', tk', m', news', e, F', N', hm', ha', next σ goals[i], ov', hv', c1, c2, ?_, e1, e2, e3, e4⟩
      rw [List.take_add_one, hg]
      show run 0 (goals.take i ++ [goals[i]]) σ₀ = _
      rw [run_snoc, hrun]
      have hl : (goals.take i).length = i := by rw [List.length_take]; omega
      simp only [Option.bind_some, hl, Nat.zero_add, hok, if_true]
    cases f with
    | ret v => exact p
    | brk => exact p
    | next => exact fin p
    | cont => exact fin p
  · rintro u news₁ h tk ha ⟨σ, ov, hv, c, c', hrun, hcal, rfl, hio, hih⟩ F₁ N₁
    rw [List.take_length] at hrun
    exact done σ u ov hv c c' h tk hrun hio F₁ N₁
end
/-- where the first part of a turn ends -/
def JoinMid (P : Shared → Prop) (Q : Flow → Shared → Prop) (f : Flow) (s' : Shared) : Prop := match f with
  | .next => P s'
  | f => Q f s'
theorem JoinMid.ret {P : Shared → Prop} {Q : Flow → Shared → Prop} {v : Value} {s' : Shared} (h : Q (.ret v) s') : JoinMid P Q (.ret v) s' := h
theorem wp_split {M : Model} {Γ : Ctx} {env : Env} {Qf : Flow → _ → Shared → Prop} {Ef : Value → _ → Shared → Prop} : ∀ (k : Nat) (body : List Stmt) p (s : Shared),
    Sem.wp M Γ (execs (body.take k) env) (fun f p' s' => match f with | .next => Sem.wp M Γ (execs (body.drop k) env) Qf Ef p' s' | f => Qf f p' s') Ef p s → Sem.wp M Γ (execs body env) Qf Ef p s
  | 0, body, p, s, h => h
  | k + 1, [], p, s, h => h
  | k + 1, st :: rest, p, s, h => by
    have h2 : Sem.wp M Γ (execs (st :: rest.take k) env) (fun f p' s' => match f with | .next => Sem.wp M Γ (execs (rest.drop k) env) Qf Ef p' s' | f => Qf f p' s') Ef p s := h
    rw [execs_cons, Sem.wp_bind'] at h2 ⊢
    refine Sem.wp_mono M Γ _ (fun f p' s' h' => ?_) (fun _ _ _ h' => h') _ _ h2
    cases f with
    | next => exact wp_split k rest p' s' h'
    | ret v => exact h'
    | brk => exact h'
    | cont => exact h'
theorem split_mid {M : Model} {A : Around} {E : Value → Shared → Prop} {env : Env} {P : Shared → Prop} {Q : Flow → Shared → Prop} {body : List Stmt} {s : Shared} (k : Nat) (h1 : wpAny M A (execs (body.take k) env) (JoinMid P Q) E s) (h2 : ∀ s', P s' → wpAny M A (execs (body.drop k) env) Q E s') : wpAny M A (execs body env) Q E s :=
  fun Γ p hΓ => wp_split k body p s (Sem.wp_mono M Γ _ (fun f p' s' h' => by
    cases f with
    | next => exact h2 s' h' Γ p' hΓ
    | ret v => exact h'
    | brk => exact h'
    | cont => exact h') (fun _ _ _ h' => h') _ _ (h1 Γ p hΓ))
def MidEnd (h₀ : Heap) (L : Addr) (m : Str → Option Value) (I hh ro : Addr) (oI : Obj) (rest : List (Addr × Obj)) (q : Gl) (σ : Cs) (i : Nat) (x' : Value) (s s' : Shared) : Prop :=
  ∃ h' tk u t ov hv c c', s' = { s with heap := h', toks := tk } ∧ okAt i σ q = true ∧ u "goal" = some x' ∧ u "kind" = some (.str (gKind q) t) ∧ IntsAre ov (add0 σ.order (gSpecial q)) ∧ IntsAre hv (next σ q).held ∧
    Fr h₀ L h' (ovr ["goal", "kind", "special"] u m) ∧ News h₀ L h' ((I, oI) :: (hh, W.listOf hv.toArray c) :: (ro, W.listOf ov.toArray c') :: rest)
theorem MidEnd.intro {h₀ h' : Heap} {L : Addr} {m m' : Str → Option Value} {I hh ro : Addr} {oI : Obj} {rest : List (Addr × Obj)} {q : Gl} {σ : Cs} {i : Nat} {x' : Value} {s : Shared} {tk : Nat} {t : Tok} {ov hv : List Value} {c c' : Nat}
    (F : Fr h₀ L h' m') (N : News h₀ L h' ((I, oI) :: (hh, W.listOf hv.toArray c) :: (ro, W.listOf ov.toArray c') :: rest)) (hok : okAt i σ q = true) (hz : ∀ z, z ∉ (["goal", "kind", "special"] : List Str) → m' z = m z) (hg : m' "goal" = some x') (hk : m' "kind" = some (.str (gKind q) t))
    (h1 : IntsAre ov (add0 σ.order (gSpecial q))) (h2 : IntsAre hv (next σ q).held) : MidEnd h₀ L m I hh ro oI rest q σ i x' s { s with heap := h', toks := tk } :=
  ⟨h', tk, m', t, ov, hv, c, c', rfl, hok, hg, hk, h1, h2, (ovr_eq hz) ▸ F, N⟩
theorem mid_join {M : Model} {A : Around} {E : Value → Shared → Prop} {env : Env} {Q : Flow → Shared → Prop} {body : List Stmt} {s : Shared} {h₀ : Heap} {m : Str → Option Value} {I hh ro : Addr} {oI : Obj} {rest : List (Addr × Obj)} {c c' : Nat} {hv ov : List Value}
    (_F : Fr h₀ env.locals s.heap m) (_N : News h₀ env.locals s.heap ((I, oI) :: (hh, W.listOf hv.toArray c) :: (ro, W.listOf ov.toArray c') :: rest)) (q : Gl) (σ : Cs) (i : Nat) (x' : Value) (k : Nat)
    (h1 : wpAny M A (execs (body.take k) env) (JoinMid (MidEnd h₀ env.locals m I hh ro oI rest q σ i x' s) Q) E s)
    (h2 : ∀ h' tk u t ov hv c c', okAt i σ q = true → u "goal" = some x' → u "kind" = some (.str (gKind q) t) → IntsAre ov (add0 σ.order (gSpecial q)) → IntsAre hv (next σ q).held →
      Fr h₀ env.locals h' (ovr ["goal", "kind", "special"] u m) → News h₀ env.locals h' ((I, oI) :: (hh, W.listOf hv.toArray c) :: (ro, W.listOf ov.toArray c') :: rest) → wpAny M A (execs (body.drop k) env) Q E { s with heap := h', toks := tk }) : wpAny M A (execs body env) Q E s :=
  split_mid k h1 fun s' ⟨h', tk, u, t, ov, hv, c, c', e, a1, a2, a3, a4, a5, a6, a7⟩ => e ▸ h2 h' tk u t ov hv c c' a1 a2 a3 a4 a5 a6 a7
theorem add0_len (o : List Int) (n : Int) : (add0 o n).length ≤ o.length + 1 := by unfold add0; split; exact addv_len _ _; omega
end Mine
end
/- Ck -/
noncomputable section
open PySem PySem.W PyProof.Rows
set_option maxRecDepth 100000
set_option maxHeartbeats 8000000
namespace Mine
theorem words_Ck : True := by
  k_with_none
  k_with "subscriptTail Name Constant ref int" => (((with_reducible show wpAny _ _ (subscriptTail _ _ (Value.ref _) (Value.int _ _)) _ _ _); k_dflt (refine item_tupleT (Fr.tup (by assumption) (by assumption)) (by decide) (by decide) (by rfl) (by rfl) ?_)))
  k_with "subscriptTail Attribute Name Name ref int" => ((k_dflt (refine kba_turn (value' := PySem.Expr.Name (PySem.Str.ofString "_") ⟨0, 0, 0, 0⟩) (fun _ => rfl) ?_)))
  k_with "subscriptTail Name Name ref int" => (((with_reducible show wpAny _ _ (subscriptTail _ _ (Value.ref _) (Value.int _ _)) _ _ _); (refine PyProof.Rows.item_list (isl_base (by assumption) (by assumption)) (by omega) (by omega) (by assumption) ?_)))
  k_with "call builtin:list.append" => (((with_reducible show wpAny _ _ (call (Value.builtin _) [Value.ref _, _]) _ _ _); (refine append_L (by assumption) (by assumption) (by k_upd) (by omega) ?_); intro h' F' N'; (try k_sweep)))
  k_with "compareOp NotIn int ref" => (k_dflt (refine notin_L (by assumption) (by k_mem) (by assumption) _ (by assumption) ?_))
  k_with "compareOp In int ref" => (k_dflt (refine in_L (by assumption) (by k_mem) (by assumption) _ (by assumption) ?_))
  k_with "my steps" => (repeat' ((fail_if_success (with_reducible show wpAny _ _ (exec (PySem.Stmt.While _ _ _ _) _) _ _ _)); (fail_if_success (with_reducible show wpAny _ _ (exec (PySem.Stmt.For _ _ _ _ _) _) _ _ _)); (fail_if_success (with_reducible show wpAny _ _ (pyIter _) _ _ _)); first | (k_unfold; (try dsimp only)) | walk1 | (dsimp only; walk1) | (leave1; walk_say "STEP leave1"; try dsimp only) | fail "no step"))
  k_with "call ref" => (first   | (refine vo_use (by rfl) (Nat.le_of_ble_eq_true rfl) (Nat.le_of_ble_eq_true rfl) (by assumption) (by assumption) (by assumption) (by assumption) (by first | exact Fr.tup (by assumption) (by assumption) | assumption) (by first | assumption | exact All2.mono (by assumption) (fun _ _ => TmAt.keeps (Fr.keep (by assumption)))) (by assumption) ?_; intro r' n' vs' h' tk' F' N' l1 hi'; (try simp only [List.forall_mem_cons] at l1); (try k_sweep))   | (refine gs_use (by rfl) (Nat.le_of_ble_eq_true rfl) (Nat.le_of_ble_eq_true rfl) (by assumption) (by assumption) (by assumption) (by assumption) (GlAt.keeps (Fr.keep (by assumption)) (by assumption)) ?_; intro u' h' tk' F' N'; (try dsimp only [gSpecial]); (try k_sweep))   | (refine gt_use (by rfl) (Nat.le_of_ble_eq_true rfl) (Nat.le_of_ble_eq_true rfl) (by assumption) (by assumption) (by assumption) (by assumption) (GlAt.keeps (Fr.keep (by assumption)) (by assumption)) ?_; intro r' vs' h' tk' F' N' ht' hts'; (try k_sweep)))
  k_with "call builtin:len" => (((with_reducible show wpAny _ _ (call (Value.builtin "len") [Value.ref _]) _ _ _); (refine len_L (isl_base (by assumption) (by assumption)) (by assumption) ?_)))
  trivial
section
variable {w : World} {s : Shared} {loose : List Str} {mean : ExcName → Option Value} {mg mb : Str → Option Value} {Q : Value → Shared → Prop} {E : Value → Shared → Prop} {h₀ : Heap}
theorem ck_spec (K0 : Keeps h₀ s.heap) (X : (hd.heap_39 w.params).In h₀) (T : Top hd.view_39 loose mean mg mb h₀) {x dx ta lg : Addr} {fv : Value} {c : Nat} {uc t1 t2 t3 t4 : Tok} {avs gvs : List Value} {args : List Tm} {goals : List Gl}
    (hx : s.heap.get? x = some (instObj 38 dx)) (hx0 : h₀.get? x = none) (hdx : s.heap.get? dx = some (dictOf (kEnt w.params fv (.ref ta) (.ref lg) (.int c uc) t1 t2 t3 t4) 4)) (hdx0 : h₀.get? dx = none) (hlt : dx < x)
    (hta : IsTup s.heap ta avs.toArray) (has : All2 (TmAt s.heap) avs args) (hlg : s.heap.IsList lg gvs.toArray) (hgs : All2 (GlAt s.heap) gvs goals) (hB : wts args ≤ 1000) (hB2 : goals.length ≤ 1000) (hc : c ≤ 1000) (hpos : ∀ q ∈ goals, gPos q = true)
    (hq : ∀ h' tk, Keeps s.heap h' → Q (.bool (check args goals c)) { s with heap := h', toks := tk }) :
    wpAny (model PySem.Challenge.rw_rh0063_01.row.prog w) (AK 490 90) (call (.ref 63) [.ref x]) Q E s := by
  have hh : ∀ p ∈ [(x, instObj 38 dx), (dx, dictOf (kEnt w.params fv (.ref ta) (.ref lg) (.int c uc) t1 t2 t3 t4) 4)], s.heap.get? p.1 = some p.2 ∧ h₀.get? p.1 = none := by
    intro p hp
    rcases List.mem_cons.mp hp with rfl | hp
    · exact ⟨hx, hx0⟩
    · rw [List.mem_singleton.mp hp]; exact ⟨hdx, hdx0⟩
  refine call_hid (hid := [(x, instObj 38 dx), (dx, dictOf (kEnt w.params fv (.ref ta) (.ref lg) (.int c uc) t1 t2 t3 t4) 4)]) K0 X T hh
    (by rfl) (by kernel_rfl) (by decide) (BindsTo.of_eq rfl) (locs rfl) rfl rfl rfl (by decide) ?_
  intro g h₁ L' X' T' K0' Kup Kdn hL F' N' l3
  have l2' := ltN hlt
  have kc : ∀ b o, s.heap.get? b = some o → (o.cls = .type "tuple" ∨ o.cls = .type "list") → g.get? b = some o := fun b o e hcl => by
    refine Kdn b o e fun hm => ?_
    rcases List.mem_cons.mp hm with e2 | hm
    · have e3 : b = x := e2
      rw [e3, hx] at e; cases e
      rcases hcl with h | h <;> cases h
    · have e3 : b = dx := List.mem_singleton.mp hm
      rw [e3, hdx] at e; cases e
      rcases hcl with h | h <;> (injection h with h; exact absurd h (by decide))
  have kt : KeepsT s.heap g := fun b o e hcl => kc b o e (.inl hcl)
  have hta' : IsTup g ta avs.toArray := tup_keepsT kt hta
  have has' : All2 (TmAt g) avs args := has.mono fun _ _ => TmAt.keepsT kt
  have hlg' : g.IsList lg gvs.toArray := let ⟨o, e, hcl, r⟩ := hlg; ⟨o, kc _ _ e (.inr hcl), hcl, r⟩
  have hgs' : All2 (GlAt g) gvs goals := hgs.mono fun _ _ => GlAt.keepsT kt
  have hgl : gvs.length ≤ 1000000 := by have := hgs.length; omega
  have hgl2 : gvs.length = goals.length := hgs.length
  have hal : args.length ≤ 1000 := by have := len_le_wts args; omega
  clear hta has hlg hgs kt kc
  have fin : ∀ {h' : Heap} {m' : Str → Option Value} {rest : List (Addr × Obj)} {tk' : Nat} {b : Bool}, Fr g L' h' m' → News g L' h' rest → (x, instObj 38 dx) ∈ rest → (dx, dictOf (kEnt w.params fv (.ref ta) (.ref lg) (.int c uc) t1 t2 t3 t4) 4) ∈ rest → check args goals c = b → Q (.bool b) { s with heap := h', toks := tk' } := by
    intro h' m' rest tk' b F N m1 m2 e
    rw [← e]
    refine hq h' tk' (hid_keeps (fun p hp => (hh p hp).1) Kdn F N fun p hp => ?_)
    rcases List.mem_cons.mp hp with rfl | hp
    · exact m1
    · rw [List.mem_singleton.mp hp]; exact m2
  walk_at "my steps"
  refine For_invV g rfl rfl ?_
  walk_at "my steps"
  (rename Fr _ _ _ _ => F1)
  (rename News _ _ _ _ => N1)
  refine iter_held rfl hta' has' hal F1 N1 ?_ ?_
  · intro i v t vs c h tk I oI hvt hi hvl e hI hI2 F2 N2
    clear F1 N1
    have hI := ltN hI
    k_lt hI2
    cases t with
    | v n =>
      obtain ⟨a, t, u, rfl, hta2⟩ := hvt
      walk_at "my steps"
      refine TPost.next (fix := [(_,_)]) (by assumption) (by assumption) (fun z hz => ?_) rfl ⟨vs ++ [.int n _], _, rfl, ?_⟩
      · simp only [List.mem_singleton] at hz; simp only [if_neg hz]
      · rw [e]; exact hi.append (.cons n _ .nil)
    | c =>
      have e0 : heldOf [Tm.c] = [] := rfl
      obtain ⟨a, t, y, k, rfl, rfl | rfl, hta2⟩ := hvt
      · walk_at "my steps"
        refine TPost.next (fix := [(_,_)]) (by assumption) (by assumption) (fun z hz => ?_) rfl ⟨vs, _, rfl, ?_⟩
        · simp only [List.mem_singleton] at hz; simp only [if_neg hz]
        · rw [e, e0, List.append_nil]; exact hi
      · walk_at "my steps"
        refine TPost.next (fix := [(_,_)]) (by assumption) (by assumption) (fun z hz => ?_) rfl ⟨vs, _, rfl, ?_⟩
        · simp only [List.mem_singleton] at hz; simp only [if_neg hz]
        · rw [e, e0, List.append_nil]; exact hi
    | s n =>
      have e0 : heldOf [Tm.s n] = [] := rfl
      obtain ⟨a, t, y, b, e1, e2, rfl, hta2, hrr⟩ := hvt
      walk_at "my steps"
      refine TPost.next (fix := [(_,_)]) (by assumption) (by assumption) (fun z hz => ?_) rfl ⟨vs, _, rfl, ?_⟩
      · simp only [List.mem_singleton] at hz; simp only [if_neg hz]
      · rw [e, e0, List.append_nil]; exact hi
  · intro u vs c0 h tk hi F2 N2
    clear F1 N1
    walk_at "my steps"
    -- CUT
    refine For_invV g rfl rfl ?_
    walk_at "my steps"
    (rename Fr _ _ _ _ => F3)
    (rename News _ _ _ _ => N3)
    (rename IsRange _ _ _ _ _ _ _ _ => hR)
    (rename IntsAre _ (varsOf _) => hov0)
    have hst1 : (start args).order.length ≤ 1000 := by have := varsOf_len args; show (varsOf args).length ≤ 1000; omega
    have hst2 : (start args).held.length ≤ 1000 := by have := heldOf_len args; show (heldOf args).length ≤ 1000; omega
    refine iter_goals (σ₀ := start args) rfl hR hgl2 hB2 hst1 hst2 hov0 hi F3 N3 rfl ?_ ?_
    · intro i q t u σ ov hv c c' h tk I oI hg hrun hcal hio hih hlo hlh hI1 hI2 hI3 F2 N2
      clear F3 N3 hR
      have hI1 := ltN hI1
      have hI2 := ltN hI2
      k_lt hI3
      dsimp only [ovr] at F2
      rw [hcal] at F2
      have hil : i < goals.length := (List.getElem?_eq_some_iff.mp hg).1
      obtain ⟨x', hxi, hgx⟩ := hgs'.get' hg
      have hxi2 : gvs.toArray[((i : Int)).toNat]? = some x' := by simpa using hxi
      have hqp := hpos q (List.mem_of_getElem? hg)
      have hgw := gTerms_wts q
      have hol := hio.length
      have hkl := varsOf_len (gTerms q)
      have hkl2 := gTerms_len q
      have hgx2 := hgx
      refine mid_join F2 N2 q σ i x' 8 ?_ ?_
      rotate_left
      · intro h' tk u6 t6 ov2 hv2 c6 c7 hok hug huk hio2 hih2 F6 N6
        clear F2 N2
        dsimp only [ovr] at F6
        rw [hug, huk] at F6
        have hkc := gKind_call q
        have hB4 : (add0 σ.order (gSpecial q)).length + (varsOf (gTerms q)).length ≤ 1000000 := by have := add0_len σ.order (gSpecial q); omega
        show wpAny _ _ (execs (_ :: _ :: []) _) _ _ _
        walk_at "my steps"
        refine For_invV g rfl rfl ?_
        walk_at "my steps"
        (rename Fr _ _ _ _ => F4)
        (rename News _ _ _ _ => N4)
        (rename IntsAre _ (varsOf _) => hks)
        refine iter_ks rfl hks hio2 hB4 F4 N4 ?_ ?_
        · intro j k t vs c' h tk I2 oI2 o' hk hiv ho' hvl hstep hax hp1 hp2 hro hrest F5 N5
          clear F4 N4
          have hax := ltN hax
          have hp1 := ltN hp1
          have hp2 := ltN hp2
          have hro := ltN hro
          k_lt hrest
          by_cases hin : k ∈ o'
          · have hb := decide_eq_true hin
            walk_at "my steps"
            all_goals try (exfalso; (rename (List.any _ _ = _) => ha); rw [any_mem, hb] at ha; cases ha; done)
            refine TPost.next (fix := [(_,_), (_,_)]) (by assumption) (by assumption) (fun z hz => ?_) rfl ⟨vs, _, rfl, ?_⟩
            · simp only [List.mem_singleton] at hz; simp only [if_neg hz]
            · rw [hstep, addv_in hin]; exact hiv
          · have hb := decide_eq_false hin
            walk_at "my steps"
            all_goals try (exfalso; (rename (List.any _ _ = _) => ha); rw [any_mem, hb] at ha; cases ha; done)
            refine TPost.next (fix := [(_,_), (_,_)]) (by assumption) (by assumption) (fun z hz => ?_) rfl ⟨vs ++ [.int k _], _, rfl, ?_⟩
            · simp only [List.mem_singleton] at hz; simp only [if_neg hz]
            · rw [hstep, addv_out hin]; exact hiv.append (.cons k _ .nil)
        · intro u5 vs c' h tk hiv F5 N5
          clear F4 N4
          walk_at "my steps"
          · (rename _ = true => ha9)
            refine TPost.next (fix := [(_,_)]) (by assumption) (by assumption) (fun z hz => ?_) rfl ⟨hok, _, _, _, _, (by rw [nx_called_t (hkc.symm.trans ha9)]; rfl), rfl, hiv, hih2⟩
            simp only [List.mem_cons, List.not_mem_nil, or_false, not_or] at hz
            obtain ⟨z1, z2, z3, z4, z5, z6⟩ := hz
            repeat (first | exact Eq.refl _ | refine (if_neg (by assumption)).trans ?_)
          · (rename _ = false => ha9)
            refine TPost.next (fix := [(_,_)]) (by assumption) (by assumption) (fun z hz => ?_) rfl ⟨hok, _, _, _, _, (by rw [nx_called (hkc.symm.trans ha9)]; rfl), rfl, hiv, hih2⟩
            simp only [List.mem_cons, List.not_mem_nil, or_false, not_or] at hz
            obtain ⟨z1, z2, z3, z4, z5, z6⟩ := hz
            repeat (first | exact Eq.refl _ | refine (if_neg (by assumption)).trans ?_)

      show wpAny _ _ (execs (_ :: _ :: _ :: _ :: _ :: _ :: _ :: _ :: []) _) _ _ _
      cases q with
      | level n =>
        have hn : 0 ≤ n := of_decide_eq_true hqp
        obtain ⟨a, tt, uu, rfl, hta2⟩ := hgx
        by_cases hi0 : i = 0
        · subst hi0
          by_cases hin : n ∈ σ.order
          · have hb := decide_eq_true hin
            walk_at "my steps"
            refine JoinMid.ret ?_
            refine TPost.ret ?_
            dsimp only
            exact fin (by assumption) (by assumption) (by k_mem) (by k_mem) (check_false hrun hg (by simp [okAt, hin]))
          · have hb := decide_eq_false hin
            have hok : okAt 0 σ (.level n) = true := by simp [okAt, hin]
            walk_at "my steps"
            have hio2 : ∀ tok : Tok, IntsAre (ov ++ [.int n tok]) (add0 σ.order n) := fun tok => by rw [add0_out hn hin]; exact hio.append (.cons n tok .nil)
            have hih2 : ∀ tok : Tok, IntsAre (hv ++ [.int n tok]) (next σ (.level n)).held := fun tok => hih.append (.cons n tok .nil)
            have hB4 : (add0 σ.order n).length + (varsOf (gTerms (.level n))).length ≤ 1000000 := by rw [add0_out hn hin, List.length_append, List.length_singleton]; omega

            (rename Fr _ _ _ _ => F9)
            (rename News _ _ _ _ => N9)
            refine MidEnd.intro F9 N9 hok (fun z hz => ?_) rfl rfl (hio2 _) (hih2 _)
            simp only [List.mem_cons, List.not_mem_nil, or_false, not_or] at hz
            obtain ⟨z1, z2, z3⟩ := hz
            repeat (first | exact Eq.refl _ | refine (if_neg (by assumption)).trans ?_)
        · have hi0' : ¬ ((i : Int) = 0) := by omega
          walk_at "my steps"
          all_goals try (exfalso; omega)
          refine JoinMid.ret ?_
          refine TPost.ret ?_
          dsimp only
          exact fin (by assumption) (by assumption) (by k_mem) (by k_mem) (check_false hrun hg (by simp [okAt, hi0]))
      | mark n =>
        have hn : 0 ≤ n := of_decide_eq_true hqp
        obtain ⟨a, tt, uu, rfl, hta2⟩ := hgx
        by_cases hin : n ∈ σ.order
        · have hb := decide_eq_true hin
          walk_at "my steps"
          refine JoinMid.ret ?_
          refine TPost.ret ?_
          dsimp only
          exact fin (by assumption) (by assumption) (by k_mem) (by k_mem) (check_false hrun hg (by simp [okAt, hin]))
        · have hb := decide_eq_false hin
          have hok : okAt i σ (.mark n) = true := by simp [okAt, hin]
          walk_at "my steps"
          have hio2 : ∀ tok : Tok, IntsAre (ov ++ [.int n tok]) (add0 σ.order n) := fun tok => by rw [add0_out hn hin]; exact hio.append (.cons n tok .nil)
          have hih2 : ∀ tok : Tok, IntsAre (hv ++ [.int n tok]) (next σ (.mark n)).held := fun tok => hih.append (.cons n tok .nil)
          have hB4 : (add0 σ.order n).length + (varsOf (gTerms (.mark n))).length ≤ 1000000 := by rw [add0_out hn hin, List.length_append, List.length_singleton]; omega

          (rename Fr _ _ _ _ => F9)
          (rename News _ _ _ _ => N9)
          refine MidEnd.intro F9 N9 hok (fun z hz => ?_) rfl rfl (hio2 _) (hih2 _)
          simp only [List.mem_cons, List.not_mem_nil, or_false, not_or] at hz
          obtain ⟨z1, z2, z3⟩ := hz
          repeat (first | exact Eq.refl _ | refine (if_neg (by assumption)).trans ?_)
      | cutto n =>
        have hn : 0 ≤ n := of_decide_eq_true hqp
        obtain ⟨a, tt, uu, rfl, hta2⟩ := hgx
        by_cases hin2 : n ∈ σ.held
        · have hb2 := decide_eq_true hin2
          have hok : okAt i σ (.cutto n) = true := by simp [okAt, hin2]
          by_cases hin : n ∈ σ.order
          · have hb := decide_eq_true hin
            walk_at "my steps"
            all_goals try (exfalso; (rename (List.any _ _ = _) => ha); rw [any_mem, hb] at ha; cases ha; done)
            have hio2 : IntsAre ov (add0 σ.order n) := by rw [add0_in hin]; exact hio
            have hih2 : IntsAre hv (next σ (.cutto n)).held := by rw [nx_held rfl]; exact hih
            have hB4 : (add0 σ.order n).length + (varsOf (gTerms (.cutto n))).length ≤ 1000000 := by rw [add0_in hin]; omega

            (rename Fr _ _ _ _ => F9)
            (rename News _ _ _ _ => N9)
            refine MidEnd.intro F9 N9 hok (fun z hz => ?_) rfl rfl hio2 hih2
            simp only [List.mem_cons, List.not_mem_nil, or_false, not_or] at hz
            obtain ⟨z1, z2, z3⟩ := hz
            repeat (first | exact Eq.refl _ | refine (if_neg (by assumption)).trans ?_)
          · have hb := decide_eq_false hin
            walk_at "my steps"
            all_goals try (exfalso; (rename (List.any _ _ = _) => ha); rw [any_mem, hb] at ha; cases ha; done)
            have hio2 : ∀ tok : Tok, IntsAre (ov ++ [.int n tok]) (add0 σ.order n) := fun tok => by rw [add0_out hn hin]; exact hio.append (.cons n tok .nil)
            have hih2 : IntsAre hv (next σ (.cutto n)).held := by rw [nx_held rfl]; exact hih
            have hB4 : (add0 σ.order n).length + (varsOf (gTerms (.cutto n))).length ≤ 1000000 := by rw [add0_out hn hin, List.length_append, List.length_singleton]; omega

            (rename Fr _ _ _ _ => F9)
            (rename News _ _ _ _ => N9)
            refine MidEnd.intro F9 N9 hok (fun z hz => ?_) rfl rfl (hio2 _) hih2
            simp only [List.mem_cons, List.not_mem_nil, or_false, not_or] at hz
            obtain ⟨z1, z2, z3⟩ := hz
            repeat (first | exact Eq.refl _ | refine (if_neg (by assumption)).trans ?_)
        · have hb2 := decide_eq_false hin2
          walk_at "my steps"
          refine JoinMid.ret ?_
          refine TPost.ret ?_
          dsimp only
          exact fin (by assumption) (by assumption) (by k_mem) (by k_mem) (check_false hrun hg (by simp [okAt, hin2]))
      | cut =>
        obtain ⟨a, tt, rfl, hta2⟩ := hgx
        cases hcd : σ.called with
        | true =>
          rw [hcd] at F2
          walk_at "my steps"
          refine JoinMid.ret ?_
          refine TPost.ret ?_
          dsimp only
          exact fin (by assumption) (by assumption) (by k_mem) (by k_mem) (check_false hrun hg (by simp [okAt, hcd]))
        | false =>
          have hF2 := F2
          rw [hcd] at F2
          have hok : okAt i σ .cut = true := (by simp [okAt, hcd])
          walk_at "my steps"
          have hio2 : IntsAre ov (add0 σ.order (-1)) := hio
          have hih2 : IntsAre hv (next σ .cut).held := by rw [nx_held rfl]; exact hih
          have hB4 : (add0 σ.order (-1)).length + (varsOf (gTerms .cut)).length ≤ 1000000 := by show σ.order.length + _ ≤ _; omega

          (rename Fr _ _ _ _ => F9)
          (rename News _ _ _ _ => N9)
          refine MidEnd.intro F9 N9 hok (fun z hz => ?_) rfl rfl hio2 hih2
          simp only [List.mem_cons, List.not_mem_nil, or_false, not_or] at hz
          obtain ⟨z1, z2, z3⟩ := hz
          repeat (first | exact Eq.refl _ | refine (if_neg (by assumption)).trans ?_)
          rw [hcd]
      | fail =>
        obtain ⟨a, tt, rfl, hta2⟩ := hgx
        have hok : okAt i σ .fail = true := rfl
        walk_at "my steps"
        have hio2 : IntsAre ov (add0 σ.order (-1)) := hio
        have hih2 : IntsAre hv (next σ .fail).held := by rw [nx_held rfl]; exact hih
        have hB4 : (add0 σ.order (-1)).length + (varsOf (gTerms .fail)).length ≤ 1000000 := by show σ.order.length + _ ≤ _; omega

        (rename Fr _ _ _ _ => F9)
        (rename News _ _ _ _ => N9)
        refine MidEnd.intro F9 N9 hok (fun z hz => ?_) rfl rfl hio2 hih2
        simp only [List.mem_cons, List.not_mem_nil, or_false, not_or] at hz
        obtain ⟨z1, z2, z3⟩ := hz
        repeat (first | exact Eq.refl _ | refine (if_neg (by assumption)).trans ?_)
      | call p =>
        obtain ⟨a, tt, y, b, e, rfl, hta2, hrr⟩ := hgx
        have hok : okAt i σ (.call p) = true := rfl
        walk_at "my steps"
        have hio2 : IntsAre ov (add0 σ.order (-1)) := hio
        have hih2 : IntsAre hv (next σ (.call p)).held := by rw [nx_held rfl]; exact hih
        have hB4 : (add0 σ.order (-1)).length + (varsOf (gTerms (.call p))).length ≤ 1000000 := by show σ.order.length + _ ≤ _; omega

        (rename Fr _ _ _ _ => F9)
        (rename News _ _ _ _ => N9)
        refine MidEnd.intro F9 N9 hok (fun z hz => ?_) rfl rfl hio2 hih2
        simp only [List.mem_cons, List.not_mem_nil, or_false, not_or] at hz
        obtain ⟨z1, z2, z3⟩ := hz
        repeat (first | exact Eq.refl _ | refine (if_neg (by assumption)).trans ?_)
      | builtin p =>
        obtain ⟨a, tt, y, b, e1, e2, rfl, hta2, hrr⟩ := hgx
        have hok : okAt i σ (.builtin p) = true := rfl
        walk_at "my steps"
        have hio2 : IntsAre ov (add0 σ.order (-1)) := hio
        have hih2 : IntsAre hv (next σ (.builtin p)).held := by rw [nx_held rfl]; exact hih
        have hB4 : (add0 σ.order (-1)).length + (varsOf (gTerms (.builtin p))).length ≤ 1000000 := by show σ.order.length + _ ≤ _; omega

        (rename Fr _ _ _ _ => F9)
        (rename News _ _ _ _ => N9)
        refine MidEnd.intro F9 N9 hok (fun z hz => ?_) rfl rfl hio2 hih2
        simp only [List.mem_cons, List.not_mem_nil, or_false, not_or] at hz
        obtain ⟨z1, z2, z3⟩ := hz
        repeat (first | exact Eq.refl _ | refine (if_neg (by assumption)).trans ?_)
      | unify p =>
        obtain ⟨a, tt, e1, e2, rfl, hta2, hrr⟩ := hgx
        have hok : okAt i σ (.unify p) = true := rfl
        walk_at "my steps"
        have hio2 : IntsAre ov (add0 σ.order (-1)) := hio
        have hih2 : IntsAre hv (next σ (.unify p)).held := by rw [nx_held rfl]; exact hih
        have hB4 : (add0 σ.order (-1)).length + (varsOf (gTerms (.unify p))).length ≤ 1000000 := by show σ.order.length + _ ≤ _; omega

        (rename Fr _ _ _ _ => F9)
        (rename News _ _ _ _ => N9)
        refine MidEnd.intro F9 N9 hok (fun z hz => ?_) rfl rfl hio2 hih2
        simp only [List.mem_cons, List.not_mem_nil, or_false, not_or] at hz
        obtain ⟨z1, z2, z3⟩ := hz
        repeat (first | exact Eq.refl _ | refine (if_neg (by assumption)).trans ?_)
    · intro σ u ov hv c1 c2 h tk hrun hio F2 N2
      clear F3 N3 hR
      dsimp only [ovr] at F2
      walk_at "my steps"
      have e2 : rangeKs 0 ((c : Int) - 0).toNat = upTo c := by
        unfold rangeKs upTo
        rw [show ((c : Int) - 0).toNat = c by omega]
        exact List.map_congr_left fun a _ => by simp
      rw [e2]
      exact fin (by assumption) (by assumption) (by k_mem) (by k_mem) (by unfold check; rw [hrun])
end
end Mine
end
/- Tk -/
noncomputable section
open PySem PySem.W PyProof.Rows
set_option maxRecDepth 100000
set_option maxHeartbeats 8000000
namespace Mine
section
variable {w : World} {A : Around} {s : Shared} {loose : List Str} {mean : ExcName → Option Value} {mg mb : Str → Option Value} {Q : Value → Shared → Prop} {E : Value → Shared → Prop} {h₀ : Heap} {L : Addr} {m : Str → Option Value} {news : List (Addr × Obj)}
theorem mk_kernel_use {fv av gv cv : Value} (hA : A.handled = none) (hd1 : A.depth ≤ 485) (hu : A.units ≤ 90) (F : Fr h₀ L s.heap m) (N : News h₀ L s.heap news) (X : (hd.heap_39 w.params).In h₀) (T : Top hd.view_39 loose mean mg mb h₀)
   (hq : ∀ x dx h' tk t1 t2 t3 t4, Fr h₀ L h' m → News h₀ L h' ((x, instObj 38 dx) :: (dx, dictOf (kEnt w.params fv av gv cv t1 t2 t3 t4) 4) :: news) → (∀ p ∈ news, p.1 < dx) → dx < x → Q (.ref x) { s with heap := h', toks := tk }) :
    wpAny (model PySem.Challenge.rw_rh0063_01.row.prog w) A (call (.ref 38) [fv, av, gv, cv]) Q E s := weaken 485 90 (mk_kernel F N X T hq) hA hd1 hu
theorem ck_use (hA : A.handled = none) (hd1 : A.depth ≤ 490) (hu : A.units ≤ 90) (F : Fr h₀ L s.heap m) (X : (hd.heap_39 w.params).In h₀) (T : Top hd.view_39 loose mean mg mb h₀) {x dx ta lg : Addr} {fv : Value} {c : Nat} {uc t1 t2 t3 t4 : Tok} {avs gvs : List Value} {args : List Tm} {goals : List Gl}
    (N : News h₀ L s.heap ((x, instObj 38 dx) :: (dx, dictOf (kEnt w.params fv (.ref ta) (.ref lg) (.int c uc) t1 t2 t3 t4) 4) :: (ta, { cls := .type "tuple", data := .seq avs.toArray }) :: news)) (hlt : dx < x)
    (has : All2 (TmAt h₀) avs args) (hlg : h₀.IsList lg gvs.toArray) (hgs : All2 (GlAt h₀) gvs goals) (hB : wts args ≤ 1000) (hB2 : goals.length ≤ 1000) (hc : c ≤ 1000) (hpos : ∀ q ∈ goals, gPos q = true)
    (hq : ∀ h' tk, Keeps s.heap h' → Q (.bool (check args goals c)) { s with heap := h', toks := tk }) :
    wpAny (model PySem.Challenge.rw_rh0063_01.row.prog w) A (call (.ref 63) [.ref x]) Q E s := by
  have n1 := N _ (.head _)
  have n2 := N _ (.tail _ (.head _))
  have n3 := N _ (.tail _ (.tail _ (.head _)))
  exact weaken 490 90 (ck_spec F.keep X T n1.1 n1.2.2 n2.1 n2.2.2 hlt ⟨_, n3.1, rfl, _, rfl⟩ (has.mono fun _ _ => TmAt.keeps F.keep) (isl_base F hlg) (hgs.mono fun _ _ => GlAt.keeps F.keep) hB hB2 hc hpos hq) hA hd1 hu
end
theorem words_Tk : True := by
  k_with_none
  k_with "my steps" => (repeat' ((fail_if_success (with_reducible show wpAny _ _ (exec (PySem.Stmt.While _ _ _ _) _) _ _ _)); (fail_if_success (with_reducible show wpAny _ _ (exec (PySem.Stmt.For _ _ _ _ _) _) _ _ _)); first | (k_unfold; (try dsimp only)) | walk1 | (dsimp only; walk1) | (leave1; walk_say "STEP leave1"; try dsimp only) | fail "no step"))
  k_with "call type:tuple" => ((k_dflt (refine mk_tuple (by assumption) (by assumption) (isl_base (by assumption) (by assumption)) (by assumption) ?_); intro D' h' F' N' l1; (try k_lt l1); (try k_sweep)))
  k_with "call ref" => (first   | (k_dflt (refine mk_kernel_use (by rfl) (Nat.le_of_ble_eq_true rfl) (Nat.le_of_ble_eq_true rfl) (by assumption) (by assumption) (by assumption) (by assumption) ?_); intro x' dx' h' tk' t1' t2' t3' t4' F' N' l1 l2; (have l2 := ltN l2); (try k_lt l1); (try k_sweep))   | (k_dflt (refine ck_use (by rfl) (Nat.le_of_ble_eq_true rfl) (Nat.le_of_ble_eq_true rfl) (by assumption) (by assumption) (by assumption) (by assumption) (by assumption) (by assumption) (by assumption) (by assumption) (by assumption) (by assumption) (by assumption) (by assumption) ?_); intro h' tk' k'))
  trivial
section
variable {w : World} {s : Shared} {loose : List Str} {mean : ExcName → Option Value} {mg mb : Str → Option Value} {Q : Value → Shared → Prop} {E : Value → Shared → Prop}
theorem tk_spec (X : (hd.heap_39 w.params).In s.heap) (T : Top hd.view_39 loose mean mg mb s.heap) {la lg : Addr} {avs gvs : List Value} {args : List Tm} {goals : List Gl} {c : Nat} {u : Tok} (hla : s.heap.IsList la avs.toArray) (hlg : s.heap.IsList lg gvs.toArray)
    (has : All2 (TmAt s.heap) avs args) (hgs : All2 (GlAt s.heap) gvs goals) (hB : wts args ≤ 1000) (hB2 : goals.length ≤ 1000) (hc : c ≤ 1000) (hpos : ∀ q ∈ goals, gPos q = true)
    (hq : ∀ h' tk, Keeps s.heap h' → Q (.bool (check args goals c)) { s with heap := h', toks := tk }) :
    wpAny (model PySem.Challenge.rw_rh0063_01.row.prog w) (AK 480 80) (call (.ref 84) [.ref la, .ref lg, .int c u]) Q E s := by
  have hal : avs.length ≤ 1000000 := by have := has.length; have := len_le_wts args; omega
  refine call_ro X T (by rfl) (by kernel_rfl) (by decide) (BindsTo.of_eq rfl) (locs rfl) rfl rfl rfl (by decide) ?_
  intro h₁ L hL F N
  walk_at "my steps"
  (rename Keeps _ _ => hk)
  (rename Fr _ _ _ _ => F')
  dsimp only
  exact hq _ _ (Keeps.trans F'.keep hk)
end
end Mine
end
/- Coin -/
noncomputable section
open PySem PySem.W PyProof.Rows
set_option maxRecDepth 100000
set_option maxHeartbeats 8000000
namespace Mine
def CoinsOk (o : Obj) : Prop := ∃ cvs n cs, o = W.listOf cvs.toArray n ∧ IntsAre cvs cs ∧ cvs.length ≤ 5000 ∧ ∀ v ∈ cs, 0 ≤ v ∧ v < 1000
theorem ints_snoc : ∀ {cvs : List Value} {cs : List Int}, IntsAre cvs cs → cvs = [] ∨ ∃ ws ns v t, cvs = ws ++ [.int v t] ∧ cs = ns ++ [v] ∧ IntsAre ws ns
  | _, _, .nil => .inl rfl
  | _, _, .cons n t r => by
    rcases ints_snoc r with rfl | ⟨ws, ns, v, t', rfl, rfl, h⟩
    · cases r; exact .inr ⟨[], [], n, t, rfl, rfl, .nil⟩
    · exact .inr ⟨_ :: ws, n :: ns, v, t', rfl, rfl, .cons n t h⟩
theorem words_Coin : True := by
  k_with_none
  k_with "call builtin:list.pop" => (((with_reducible show wpAny _ _ (call (Value.builtin _) [Value.ref _]) _ _ _); (k_dflt (refine pop_snoc (by assumption) (by assumption) (by k_upd) (by omega) ?_)); intro h' F' N'; (try k_sweep)))
  k_with "my steps" => (repeat' ((fail_if_success (with_reducible show wpAny _ _ (exec (PySem.Stmt.While _ _ _ _) _) _ _ _)); (fail_if_success (with_reducible show wpAny _ _ (exec (PySem.Stmt.For _ _ _ _ _) _) _ _ _)); first | (k_unfold; (try dsimp only)) | walk1 | (dsimp only; walk1) | (leave1; walk_say "STEP leave1"; try dsimp only) | fail "no step"))
  trivial
section
variable {w : World} {s : Shared} {loose : List Str} {mean : ExcName → Option Value} {mg mb : Str → Option Value} {Q : Value → Shared → Prop} {E : Value → Shared → Prop} {h₀ : Heap}
theorem coin_spec (K0 : Keeps h₀ s.heap) (X : (hd.heap_39 w.params).In h₀) (T : Top hd.view_39 loose mean mg mb h₀) {c : Addr} {oc : Obj} {k : Int} {t : Tok} (hc : s.heap.get? c = some oc) (hc0 : h₀.get? c = none) (hok : CoinsOk oc) (hk : 0 < k) (hk2 : k < 1000000)
    (hq : ∀ r t h' tk oc', 0 ≤ r → r < k → CoinsOk oc' → h'.get? c = some oc' → (∀ b o, b ≠ c → s.heap.get? b = some o → h'.get? b = some o) → Q (.int r t) { s with heap := h', toks := tk }) :
    wpAny (model PySem.Challenge.rw_rh0063_01.row.prog w) (AK 480 80) (call (.ref 77) [.ref c, .int k t]) Q E s := by
  obtain ⟨cvs, n, cs, rfl, hi, hz, hv⟩ := hok
  refine call_hid (hid := [(c, W.listOf cvs.toArray n)]) K0 X T (fun p hp => by rw [List.mem_singleton.mp hp]; exact ⟨hc, hc0⟩)
    (by rfl) (by kernel_rfl) (by decide) (BindsTo.of_eq rfl) (locs rfl) rfl rfl rfl (by decide) ?_
  intro g h₁ L' X' T' K0' Kup Kdn hL F' N' l3
  have fin : ∀ {h' : Heap} {m' : Str → Option Value} {rest : List (Addr × Obj)} {tk' : Nat} {r : Int} {t : Tok} {cvs' : List Value} {n' : Nat} {cs' : List Int}, Fr g L' h' m' → News g L' h' rest → (c, W.listOf cvs'.toArray n') ∈ rest → IntsAre cvs' cs' → cvs'.length ≤ 5000 → (∀ v ∈ cs', 0 ≤ v ∧ v < 1000) → 0 ≤ r → r < k → Q (.int r t) { s with heap := h', toks := tk' } := by
    intro h' m' rest tk' r t cvs' n' cs' F N m1 hi' hz' hv' h0 h1
    refine hq r t h' tk' _ h0 h1 ⟨cvs', n', cs', rfl, hi', hz', hv'⟩ (N _ m1).1 fun b o hb e => F.keep b o (Kdn b o e fun hm => hb (List.mem_singleton.mp hm))
  rcases ints_snoc hi with rfl | ⟨ws, ns, v, tv, rfl, rfl, hi2⟩
  · walk_at "my steps"
    (rename Fr _ _ _ _ => F9)
    (rename News _ _ _ _ => N9)
    exact fin F9 N9 (.tail _ (.head _)) hi hz hv (by omega) hk
  · have hv2 := hv v (by simp)
    rw [List.length_append, List.length_singleton] at hz
    walk_at "my steps"
    · (rename decide _ = true => hd9)
      simp at hd9
    · (rename Fr _ _ _ _ => F9)
      (rename News _ _ _ _ => N9)
      exact fin F9 N9 (.tail _ (.head _)) hi2 (by omega) (fun v' h' => hv v' (by simp [h'])) (Int.fmod_nonneg_of_pos _ hk) (Int.fmod_lt_of_pos _ hk)
theorem coin_use {A : Around} {L : Addr} {m : Str → Option Value} {news : List (Addr × Obj)} {news' : Obj → List (Addr × Obj)} (hA : A.handled = none) (hd1 : A.depth ≤ 480) (hu : A.units ≤ 80) (F : Fr h₀ L s.heap m) (N : News h₀ L s.heap news) (X : (hd.heap_39 w.params).In h₀) (T : Top hd.view_39 loose mean mg mb h₀)
    {c : Addr} {oc : Obj} {k : Int} {t : Tok} (U : UpdF c oc news news') (hok : CoinsOk oc) (hk : 0 < k) (hk2 : k < 1000000)
    (hq : ∀ r t h' tk oc', 0 ≤ r → r < k → CoinsOk oc' → Fr h₀ L h' m → News h₀ L h' (news' oc') → Q (.int r t) { s with heap := h', toks := tk }) :
    wpAny (model PySem.Challenge.rw_rh0063_01.row.prog w) A (call (.ref 77) [.ref c, .int k t]) Q E s := by
  obtain ⟨pre, post, rfl, e2, a, b⟩ := U.split
  have hm := N (c, oc) (List.mem_append_right _ (.head _))
  refine weaken 480 80 (coin_spec F.keep X T hm.1 hm.2.2 hok hk hk2 fun r t h' tk oc' h0 h1 hok' hg kk => ?_) hA hd1 hu
  obtain ⟨oL, es, ep, hL, hr⟩ := F.ns
  refine hq r t h' tk oc' h0 h1 hok' ⟨⟨oL, es, ep, kk L oL (Ne.symm hm.2.1) hL, hr⟩, fun b o e => kk b o (fun q => ?_) (F.keep b o e), F.above⟩ fun p hp => ?_
  · have := hm.2.2; rw [← q, e] at this; cases this
  · rw [e2 oc'] at hp
    rcases List.mem_append.mp hp with hp | hp
    · have P := N p (List.mem_append_left _ hp); exact ⟨kk _ _ (a p hp) P.1, P.2⟩
    · rcases List.mem_cons.mp hp with rfl | hp
      · exact ⟨hg, hm.2⟩
      · have P := N p (List.mem_append_right _ (.tail _ hp)); exact ⟨kk _ _ (b p hp) P.1, P.2⟩
end
end Mine
end
/- Cns -/
noncomputable section
open PySem PySem.W PyProof.Rows
set_option maxRecDepth 100000
set_option maxHeartbeats 8000000
namespace Mine
theorem words_Cns : True := by
  k_with_none
  k_with "call builtin:list.append" => (((with_reducible show wpAny _ _ (call (Value.builtin _) [Value.ref _, _]) _ _ _); (k_dflt (refine append_L (by assumption) (by assumption) (by k_upd) (by omega) ?_)); intro h' F' N'; (try k_sweep)))
  k_with "my steps" => (repeat' ((fail_if_success (with_reducible show wpAny _ _ (exec (PySem.Stmt.While _ _ _ _) _) _ _ _)); (fail_if_success (with_reducible show wpAny _ _ (exec (PySem.Stmt.For _ _ _ _ _) _) _ _ _)); (fail_if_success (with_reducible show wpAny _ _ (pyIter _) _ _ _)); first | (k_unfold; (try dsimp only)) | walk1 | (dsimp only; walk1) | (leave1; walk_say "STEP leave1"; try dsimp only) | fail "no step"))
  k_with "call builtin:list.reverse" => ((k_dflt (show wpAny _ _ (call (Value.builtin _) [Value.ref _]) _ _ _); (k_dflt (refine reverse_L (by assumption) (by assumption) (by k_upd) (by first | omega | (rw [List.length_append, List.length_singleton]; omega)) ?_)); intro h' F' N'; (try k_sweep)))
  k_with "call builtin:len" => (((with_reducible show wpAny _ _ (call (Value.builtin "len") [Value.ref _]) _ _ _); k_dflt (refine len_L (News.isL (by assumption) (by k_mem)) (by first | omega | (rw [List.length_append, List.length_singleton]; omega)) ?_)))
  trivial
section
variable {w : World} {s : Shared} {loose : List Str} {mean : ExcName → Option Value} {mg mb : Str → Option Value} {Q : Value → Shared → Prop} {E : Value → Shared → Prop}
section
variable {prog : Program} {A : Around} {Q : Flow → Shared → Prop} {env : Env} {h₀ : Heap} {x : Str} {body : List Stmt}
theorem TPost.brk {L : Addr} {names : List Str} {m₀ : Str → Option Value} {J : (Str → Option Value) → List (Addr × Obj) → Prop} {fix : List (Addr × Obj)} {adr : List Addr} {s₁ s₂ : Shared} (h : Q .next s₂) : TPost h₀ L names m₀ J fix adr s₁ Q .brk s₂ := h
def Small (cs : List Int) : Prop := ∀ v ∈ cs, 0 ≤ v ∧ v < 1000
theorem Small.snoc {cs : List Int} {v : Int} (h : Small cs) (h0 : 0 ≤ v) (h1 : v < 1000) : Small (cs ++ [v]) := fun y hy => by
  rcases List.mem_append.mp hy with hy | hy
  · exact h y hy
  · rw [List.mem_singleton.mp hy]; exact ⟨h0, h1⟩
theorem iter_cells {ax co : Addr} {c c₀ : Nat} {xvs : List Value} {ns : List Int} {rest : List (Addr × Obj)} {m₀ : Str → Option Value} (hh0 : A.handled = none) (hx : IntsAre xvs ns) (hn : ns.length ≤ 63)
    (F : Fr h₀ env.locals s.heap m₀) (N : News h₀ env.locals s.heap ((ax, W.listOf xvs.toArray c) :: (co, W.listOf ([] : List Value).toArray c₀) :: rest))
    (turn : ∀ (i : Nat) n t u vs c' cs h tk I oI, ns[i]? = some n → IntsAre vs cs → Small cs → vs.length ≤ 20 * i → i < 63 → ax < I → co < I → (∀ p ∈ rest, p.1 < I) → Fr h₀ env.locals h (fun y => if y = x then some (.int n t) else ovr ["left", "lap"] u m₀ y) →
        News h₀ env.locals h ((I, oI) :: (ax, W.listOf xvs.toArray c) :: (co, W.listOf vs.toArray c') :: rest) →
      wpAny (model prog w) A (execs body env) (TPost h₀ env.locals [x, "left", "lap"] m₀ (fun _ news => ∃ vs c' cs, news = (co, W.listOf vs.toArray c') :: rest ∧ IntsAre vs cs ∧ Small cs ∧ vs.length ≤ 20 * (i + 1)) [(I, oI), (ax, W.listOf xvs.toArray c)] (co :: rest.map (·.1)) { s with heap := h, toks := tk } Q) E { s with heap := h, toks := tk })
    (done : ∀ u vs c' cs h tk, IntsAre vs cs → Small cs → vs.length ≤ 1500 → Fr h₀ env.locals h (ovr [x, "left", "lap"] u m₀) → News h₀ env.locals h ((co, W.listOf vs.toArray c') :: rest) → Q .next { s with heap := h, toks := tk }) :
    wpAny (model prog w) A (pyIter (.ref ax)) (fun it s₂ => LoopAtV prog w A h₀ env x body Q E it s₂) E s := by
  refine iter_lst ["left", "lap"] (fun i _ news => ∃ vs c' cs, news = (co, W.listOf vs.toArray c') :: rest ∧ IntsAre vs cs ∧ Small cs ∧ vs.length ≤ 20 * i) hh0 F N ⟨[], c₀, [], rfl, .nil, (fun _ h => nomatch h), by simp⟩ ?_ ?_
  · rintro i v u news₁ h tk I oI hv hI hax ha ⟨vs, c', cs, rfl, hi, hs, hl⟩ F₁ N₁
    have hil : i < xvs.length := (List.getElem?_eq_some_iff.mp hv).1
    have hkl : i < ns.length := by rw [← hx.length]; exact hil
    obtain ⟨t, ht⟩ := hx.get i ns[i] (List.getElem?_eq_getElem hkl)
    have e : v = .int ns[i] t := by rw [hv] at ht; exact Option.some.inj ht
    subst e
    exact turn i ns[i] t u vs c' cs h tk I oI (List.getElem?_eq_getElem hkl) hi hs hl (by omega) hax (hI _ (.head _)) (fun p hp => hI p (.tail _ hp)) F₁ N₁
  · rintro u news₁ h tk ha ⟨vs, c', cs, rfl, hi, hs, hl⟩ F₁ N₁
    have := hx.length
    exact done u vs c' cs h tk hi hs (by omega) F₁ (fun p hp => N₁ p (.tail _ hp))
theorem iter_laps {r co : Addr} {c₀ k₀ : Nat} {t₀ u₀ v₀ tl₀ : Tok} {lf₀ : Int} {vs₀ : List Value} {cs₀ : List Int} {p1 p2 : Addr × Obj} {rest : List (Addr × Obj)} {m₀ : Str → Option Value} (hh0 : A.handled = none) (hr : IsRange s.heap r 0 20 1 t₀ u₀ v₀)
    (hi₀ : IntsAre vs₀ cs₀) (hs₀ : Small cs₀) (hl₀ : vs₀.length ≤ k₀) (hk : k₀ ≤ 10000) (hf₀ : 0 ≤ lf₀) (hm : m₀ "left" = some (.int lf₀ tl₀))
    (F : Fr h₀ env.locals s.heap m₀) (N : News h₀ env.locals s.heap (p1 :: p2 :: (co, W.listOf vs₀.toArray c₀) :: rest))
    (turn : ∀ (i : Nat) t u lf tl vs c' cs h tk I oI, i < 20 → u "left" = some (.int lf tl) → 0 ≤ lf → lf ≤ lf₀ → IntsAre vs cs → Small cs → vs.length ≤ k₀ + i → p1.1 < I → p2.1 < I → co < I → (∀ p ∈ rest, p.1 < I) → Fr h₀ env.locals h (fun y => if y = x then some (.int (i : Int) t) else ovr ["left"] u m₀ y) →
        News h₀ env.locals h ((I, oI) :: p1 :: p2 :: (co, W.listOf vs.toArray c') :: rest) →
      wpAny (model prog w) A (execs body env) (TPost h₀ env.locals [x, "left"] m₀ (fun u news => ∃ lf tl vs c' cs, u "left" = some (.int lf tl) ∧ 0 ≤ lf ∧ lf ≤ lf₀ ∧ news = p1 :: p2 :: (co, W.listOf vs.toArray c') :: rest ∧ IntsAre vs cs ∧ Small cs ∧ vs.length ≤ k₀ + (i + 1)) [(I, oI)] (p1.1 :: p2.1 :: co :: rest.map (·.1)) { s with heap := h, toks := tk } Q) E { s with heap := h, toks := tk })
    (done : ∀ u vs c' cs h tk, IntsAre vs cs → Small cs → vs.length ≤ k₀ + 20 → Fr h₀ env.locals h (ovr [x, "left"] u m₀) → News h₀ env.locals h (p1 :: p2 :: (co, W.listOf vs.toArray c') :: rest) → Q .next { s with heap := h, toks := tk }) :
    wpAny (model prog w) A (pyIter (.ref r)) (fun it s₂ => LoopAtV prog w A h₀ env x body Q E it s₂) E s := by
  refine iter_rng (n := 20) ["left"] (fun i u news => ∃ lf tl vs c' cs, u "left" = some (.int lf tl) ∧ 0 ≤ lf ∧ lf ≤ lf₀ ∧ news = p1 :: p2 :: (co, W.listOf vs.toArray c') :: rest ∧ IntsAre vs cs ∧ Small cs ∧ vs.length ≤ k₀ + i) hh0 hr (by omega) F N
    ⟨lf₀, tl₀, vs₀, c₀, cs₀, hm, hf₀, Int.le_refl _, rfl, hi₀, hs₀, by omega⟩ ?_ ?_
  · rintro i t u news₁ h tk I oI hi hI ha ⟨lf, tl, vs, c', cs, e1, e2, e3, rfl, e4, e5, e6⟩ F₁ N₁
    exact turn i t u lf tl vs c' cs h tk I oI hi e1 e2 e3 e4 e5 e6 (hI _ (.head _)) (hI _ (.tail _ (.head _))) (hI _ (.tail _ (.tail _ (.head _)))) (fun p hp => hI p (.tail _ (.tail _ (.tail _ hp)))) F₁ N₁
  · rintro u news₁ h tk ha ⟨lf, tl, vs, c', cs, e1, e2, e3, rfl, e4, e5, e6⟩ F₁ N₁
    exact done u vs c' cs h tk e4 e5 e6 F₁ N₁
end
theorem coins_spec (X : (hd.heap_39 w.params).In s.heap) (T : Top hd.view_39 loose mean mg mb s.heap) {sl : Addr} {vs : List Value} {ns : List Int} (hsl : s.heap.IsList sl vs.toArray) (hi : IntsAre vs ns) (hlen : ns.length ≤ 63)
    (hq : ∀ r oc h' tk, Keeps s.heap h' → s.heap.get? r = none → h'.get? r = some oc → CoinsOk oc → Q (.ref r) { s with heap := h', toks := tk }) :
    wpAny (model PySem.Challenge.rw_rh0063_01.row.prog w) (AK 480 80) (call (.ref 70) [.ref sl]) Q E s := by
  have hlv : vs.length ≤ 1000 := by have := hi.length; omega
  refine call_ro X T (by rfl) (by kernel_rfl) (by decide) (BindsTo.of_eq rfl) (locs rfl) rfl rfl rfl (by decide) ?_
  intro h₁ L hL F N
  walk_at "my steps"
  refine For_invV s.heap rfl rfl ?_
  walk_at "my steps"
  (rename Fr _ _ _ _ => F1)
  (rename News _ _ _ _ => N1)
  (rename IntsAre _ (List.take _ _) => hI1)
  refine iter_cells rfl hI1 (by rw [List.length_take]; omega) F1 N1 ?_ ?_
  · intro i n t u vs c' cs h tk I oI hn hi2 hsm hl2 hi63 hI2 hI3 hI4 F2 N2
    clear F1 N1
    have hI2 := ltN hI2
    have hI3 := ltN hI3
    k_lt hI4
    dsimp only [ovr] at F2
    walk_at "my steps"
    refine For_invV s.heap rfl rfl ?_
    walk_at "my steps"
    (rename Fr _ _ _ _ => F3)
    (rename News _ _ _ _ => N3)
    (rename IsRange _ _ _ _ _ _ _ _ => hR)
    refine iter_laps (k₀ := 20 * i) rfl hR hi2 hsm hl2 (by omega) (by omega) rfl F3 N3 ?_ ?_
    · intro j tj uj lf tl vs c' cs h tk I2 oI2 hj hle hlf0 hlf1 hi3 hsm3 hl3 hq1 hq2 hq3 hq4 F4 N4
      clear F3 N3 F2 N2 hR
      have hq1 := ltN hq1
      have hq2 := ltN hq2
      have hq3 := ltN hq3
      k_lt hq4
      dsimp only [ovr] at F4
      rw [hle] at F4
      have hm0 : 0 ≤ lf.fmod 1000 := Int.fmod_nonneg_of_pos _ (by decide)
      have hm1 : lf.fmod 1000 < 1000 := Int.fmod_lt_of_pos _ (by decide)
      have hi5 : ∀ tok : Tok, IntsAre (vs ++ [.int (lf.fmod 1000) tok]) (cs ++ [lf.fmod 1000]) := fun tok => hi3.append (.cons _ tok .nil)
      have hs5 := hsm3.snoc hm0 hm1
      walk_at "my steps"
      · (try dsimp only)
        refine TPost.brk ?_
        (try dsimp only)
        walk_at "my steps"
        · (try dsimp only)
          refine TPost.brk ?_
          (try dsimp only)
          walk_at "my steps"
          (rename Fr _ _ _ _ => F9)
          (rename News _ _ _ _ => N9)
          (try dsimp only)
          have h9 := N9 _ (.tail _ (.tail _ (.tail _ (List.mem_cons_self))))
          exact hq _ _ _ _ F9.keep h9.2.2 h9.1 ⟨(vs ++ [Value.int (lf.fmod 1000) _]).reverse, _, _, rfl, (hi5 _).reverse, by rw [List.length_reverse, List.length_append, List.length_singleton]; omega, fun v hv => hs5 v (List.mem_reverse.mp hv)⟩
        · (rename Fr _ _ _ _ => F9)
          (rename News _ _ _ _ => N9)
          refine TPost.next (fix := [(_,_),(_,_)]) F9 (fun p hp => N9 p (.tail _ hp)) (fun z hz => ?_) rfl ⟨_, _, _, rfl, (hi5 _), hs5, by rw [List.length_append, List.length_singleton]; omega⟩
          simp only [List.mem_cons, List.not_mem_nil, or_false, not_or] at hz
          obtain ⟨z1, z2, z3⟩ := hz
          simp only [if_neg z1, if_neg z2, if_neg z3]
      · (rename Fr _ _ _ _ => F9)
        (rename News _ _ _ _ => N9)
        refine TPost.next (fix := [(_,_)]) F9 N9 (fun z hz => ?_) rfl ⟨lf.fdiv 1000, _, _, _, _, rfl, ?_, ?_, rfl, hi5 _, hs5, by rw [List.length_append, List.length_singleton]; omega⟩
        · simp only [List.mem_cons, List.not_mem_nil, or_false, not_or] at hz
          obtain ⟨z1, z2⟩ := hz
          simp only [if_neg z1, if_neg z2]
        · exact Int.fdiv_nonneg hlf0 (by decide)
        · rw [Int.fdiv_eq_ediv_of_nonneg _ (by decide)]; omega
    · intro uj vs c' cs h tk hi3 hsm3 hl3 F4 N4
      clear F3 N3 F2 N2 hR
      dsimp only [ovr] at F4
      walk_at "my steps"
      · (try dsimp only)
        refine TPost.brk ?_
        (try dsimp only)
        walk_at "my steps"
        (rename Fr _ _ _ _ => F9)
        (rename News _ _ _ _ => N9)
        (try dsimp only)
        have h9 := N9 _ (.tail _ (.tail _ (List.mem_cons_self)))
        exact hq _ _ _ _ F9.keep h9.2.2 h9.1 ⟨vs.reverse, _, _, rfl, hi3.reverse, by rw [List.length_reverse]; omega, fun v hv => hsm3 v (List.mem_reverse.mp hv)⟩
      · (rename Fr _ _ _ _ => F9)
        (rename News _ _ _ _ => N9)
        refine TPost.next (fix := [(_,_),(_,_)]) F9 N9 (fun z hz => ?_) rfl ⟨_, _, _, rfl, hi3, hsm3, by omega⟩
        simp only [List.mem_cons, List.not_mem_nil, or_false, not_or] at hz
        obtain ⟨z1, z2, z3⟩ := hz
        simp only [if_neg z1, if_neg z2, if_neg z3]
  · intro u vs c' cs h tk hi2 hsm hl2 F2 N2
    clear F1 N1
    dsimp only [ovr] at F2
    walk_at "my steps"
    (rename Fr _ _ _ _ => F9)
    (rename News _ _ _ _ => N9)
    (try dsimp only)
    have h9 := N9 _ (List.mem_cons_self)
    exact hq _ _ _ _ F9.keep h9.2.2 h9.1 ⟨vs.reverse, _, _, rfl, hi2.reverse, by rw [List.length_reverse]; omega, fun v hv => hsm v (List.mem_reverse.mp hv)⟩
end
end Mine
end
/- LoopG -/
noncomputable section
open PySem PySem.W PyProof.Rows
set_option maxRecDepth 100000
namespace Mine
section
variable {prog : Program} {w : World} {A : Around} {E : Value → Shared → Prop} {Q : Flow → Shared → Prop} {s : Shared} {env : Env} {h₀ : Heap} {x : Str} {body : List Stmt}
/-- a turn's end, the ledger may grow -/
def TEndG (h₀ : Heap) (L : Addr) (names : List Str) (m₀ : Str → Option Value) (J : (Str → Option Value) → List (Addr × Obj) → Prop) (I : Addr) (oI : Obj) (s₁ s₂ : Shared) : Prop :=
  ∃ h' tk m' news', s₂ = { s₁ with heap := h', toks := tk } ∧ Fr h₀ L h' m' ∧ News h₀ L h' ((I, oI) :: news') ∧ (∀ z, z ∉ names → m' z = m₀ z) ∧ (∀ p ∈ news', p.1 ≠ I) ∧ J m' news'
def TPostG (h₀ : Heap) (L : Addr) (names : List Str) (m₀ : Str → Option Value) (J : (Str → Option Value) → List (Addr × Obj) → Prop) (I : Addr) (oI : Obj) (s₁ : Shared) (Q : Flow → Shared → Prop) (f : Flow) (s₂ : Shared) : Prop :=
  match f with
  | .ret v => Q (.ret v) s₂
  | .brk => Q .next s₂
  | _ => TEndG h₀ L names m₀ J I oI s₁ s₂
theorem TPostG.next {L : Addr} {names : List Str} {m₀ : Str → Option Value} {J : (Str → Option Value) → List (Addr × Obj) → Prop} {news' : List (Addr × Obj)} {I : Addr} {oI : Obj} {s₁ : Shared} {h' : Heap} {tk : Nat} {m' : Str → Option Value}
    (F : Fr h₀ L h' m') (N : News h₀ L h' ((I, oI) :: news')) (hm : ∀ z, z ∉ names → m' z = m₀ z) (ha : ∀ p ∈ news', p.1 ≠ I) (hj : J m' news') : TPostG h₀ L names m₀ J I oI s₁ Q .next { s₁ with heap := h', toks := tk } :=
  ⟨h', tk, m', news', rfl, F, N, hm, ha, hj⟩
theorem TPostG.ret {L : Addr} {names : List Str} {m₀ : Str → Option Value} {J : (Str → Option Value) → List (Addr × Obj) → Prop} {I : Addr} {oI : Obj} {s₁ s₂ : Shared} {v : Value} (h : Q (.ret v) s₂) : TPostG h₀ L names m₀ J I oI s₁ Q (.ret v) s₂ := h
/-- over range(n), the ledger may grow -/
theorem iter_rngG {r : Addr} {n : Nat} {t₀ u₀ v₀ : Tok} {m₀ : Str → Option Value} {news : List (Addr × Obj)} (names : List Str) (J : Nat → (Str → Option Value) → List (Addr × Obj) → Prop)
    (hh : A.handled = none) (hr : IsRange s.heap r 0 (n : Int) 1 t₀ u₀ v₀) (hn : n ≤ 1000) (F : Fr h₀ env.locals s.heap m₀) (N : News h₀ env.locals s.heap news) (hj : J 0 m₀ news)
    (turn : ∀ (i : Nat) t u news₁ h tk I oI, i < n → (∀ p ∈ news₁, p.1 ≠ I) → oI.cls = .type "range_iterator" → J i u news₁ → Fr h₀ env.locals h (fun y => if y = x then some (.int (i : Int) t) else ovr names u m₀ y) → News h₀ env.locals h ((I, oI) :: news₁) →
      wpAny (model prog w) A (execs body env) (TPostG h₀ env.locals (x :: names) m₀ (J (i + 1)) I oI { s with heap := h, toks := tk } Q) E { s with heap := h, toks := tk })
    (done : ∀ u news₁ h tk, J n u news₁ → Fr h₀ env.locals h (ovr (x :: names) u m₀) → News h₀ env.locals h news₁ → Q .next { s with heap := h, toks := tk }) :
    wpAny (model prog w) A (pyIter (.ref r)) (fun it s₂ => LoopAtV prog w A h₀ env x body Q E it s₂) E s := by
  have hs : Builtin.Range.small 0 (n : Int) 1 = true := small_one (by omega) (by omega) (by omega) (by omega)
  have hz : Builtin.Range.rangeSize 0 (n : Int) 1 = (n : Int) := by first | (have := rangeSize_nat 0 (n : Int); simpa using this) | (unfold Builtin.Range.rangeSize; simp; try omega)
  refine wpAny_pyIter_range hr hs ?_
  generalize hI : s.heap.objs.size = I
  have hI0 : h₀.get? I = none := by rw [← hI]; exact next_is_new F
  have W := Walks.range (prog := prog) (w := w) hh I 0 1 n
  have F0 := F.push { cls := .type "range_iterator", data := .fields #[rawInt 0, rawInt (Builtin.Range.rangeSize 0 (n : Int) 1), rawInt 1] }
  refine ⟨I, [I], [I], n, _, _, m₀, news, fun i m nx => ∃ u, m = ovr (x :: names) u m₀ ∧ J i u nx, rfl, W, ?_, ?_, ?_, ?_, F0, (fun p hp => ⟨Heap.get?_push_of_some _ (N p hp).1, (N p hp).2⟩), ⟨m₀, ovr_self, hj⟩, ?_, ?_⟩
  · intro hm
    rw [← hI] at hm
    exact absurd F.ns.lt ((List.mem_singleton.mp hm) ▸ Nat.lt_irrefl _)
  · intro b hb; rw [List.mem_singleton.mp hb]; exact hI0
  · intro p hp hq
    have h1 := Heap.lt_size (N p hp).1
    rw [List.mem_singleton.mp hq, hI] at h1
    exact Nat.lt_irrefl _ h1
  · show IsRangeIter _ _ _ _ _; rw [hz, ← hI]; simpa using Heap.get?_push_size _ rfl
  · rintro i v m₁ nx s₁ own ⟨h, tk, rfl⟩ hi hP ⟨u, rfl, hJ⟩ hoff hown hget hall st F₁ N₁
    obtain ⟨t, rfl⟩ := hP
    have hoI : h.get? I = some { cls := .type "range_iterator", dict := none, data := .fields #[rawInt (0 + ((i + 1 : Nat) : Int) * 1), rawInt ((n : Int) - ((i + 1 : Nat) : Int)), rawInt 1], slots := #[] } := st
    generalize hoe : ({ cls := .type "range_iterator", dict := none, data := .fields #[rawInt (0 + ((i + 1 : Nat) : Int) * 1), rawInt ((n : Int) - ((i + 1 : Nat) : Int)), rawInt 1], slots := #[] } : Obj) = oI at hoI
    have e : (0 : Int) + (i : Int) * 1 = (i : Int) := by omega
    have em : (fun y => if y = x then some (Value.int (0 + (i : Int) * 1) t) else ovr (x :: names) u m₀ y) = fun y => if y = x then some (Value.int (i : Int) t) else ovr names u m₀ y := by
      funext y
      by_cases hy : y = x
      · rw [if_pos hy, if_pos hy, e]
      · rw [if_neg hy, if_neg hy]; show (if y = x then _ else _) = _; rw [if_neg hy]
    rw [em] at F₁
    have N₂ : News h₀ env.locals h ((I, oI) :: nx) := by
      intro p hp
      rcases List.mem_cons.mp hp with rfl | hp
      · exact N₁ (I, oI) (List.mem_append_left _ (hall I (.head _) hI0 oI hoI))
      · exact N₁ p (List.mem_append_right _ hp)
    refine wpAny_mono (turn i t u nx h tk I oI hi (fun p hp q => hoff p hp (by rw [q]; exact .head _)) (by rw [← hoe]) hJ F₁ N₂) (fun f s₂ p => ?_) fun _ _ e => e
    have fin : TEndG h₀ env.locals (x :: names) m₀ (J (i + 1)) I oI { s with heap := h, toks := tk } s₂ →
        LoopStepU h₀ env.locals [I] own (fun m nx => ∃ u, m = ovr (x :: names) u m₀ ∧ J (i + 1) u nx) { s with heap := h, toks := tk } .next s₂ := by
      rintro ⟨h', tk', m', news', e, F', N', hm', ha, hj'⟩
      refine ⟨rfl, h', tk', m', news', e, F', fun p hp => ?_, fun p hp hq => ha p hp (List.mem_singleton.mp hq), m', ovr_eq hm', hj'⟩
      rcases List.mem_append.mp hp with hp | hp
      · have hpf := List.mem_singleton.mp (hown p hp)
        have hpg := hget p hp
        have e2 : p = (I, oI) := by
          obtain ⟨pa, po⟩ := p
          have e1' : pa = I := hpf
          subst e1'
          have : some po = some oI := hpg.symm.trans hoI
          rw [Option.some.inj this]
        rw [e2]; exact N' _ (.head _)
      · exact N' p (.tail _ hp)
    cases f with
    | ret v => exact .ret p
    | brk => exact .brk p
    | next => exact .next (fin p)
    | cont => exact .cont (fin p)
  · rintro h' tk m' nx F' N' _ ⟨u, rfl, hJ⟩
    exact done u nx h' tk hJ F' N'
end
end Mine
end
/- Mem -/
noncomputable section
open PySem PySem.W PyProof.Rows
set_option maxRecDepth 100000
namespace Mine
/-- terms and goals told by the ledger -/
def TIn (tups : List (Addr × Obj)) (a : Addr) (its : List Value) : Prop := ∃ n, (a, ({ cls := .type "tuple", data := .seq its.toArray n } : Obj)) ∈ tups
def AllTup (tups : List (Addr × Obj)) : Prop := ∀ p ∈ tups, p.2.cls = .type "tuple"
theorem TIn.mono {t t' : List (Addr × Obj)} (h : ∀ p ∈ t, p ∈ t') {a : Addr} {its : List Value} (x : TIn t a its) : TIn t' a its := let ⟨n, m⟩ := x; ⟨n, h _ m⟩
def VarIn (T : List (Addr × Obj)) (x : Value) (n : Int) : Prop := ∃ a t u, x = .ref a ∧ TIn T a [.str "v" t, .int n u]
def CstIn (T : List (Addr × Obj)) (x : Value) : Prop := ∃ a t y k, x = .ref a ∧ (k = ("a" : Str) ∨ k = ("i" : Str)) ∧ TIn T a [.str k t, y]
def TmIn (T : List (Addr × Obj)) : Value → Tm → Prop
  | x, .v n => VarIn T x n
  | x, .c => CstIn T x
  | x, .s n => ∃ a t y b e1 e2, x = .ref a ∧ TIn T a [.str "s" t, y, .ref b] ∧ TIn T b [e1, e2] ∧ VarIn T e1 n ∧ CstIn T e2
def GlIn (T : List (Addr × Obj)) (x : Value) : Gl → Prop
  | .level n => ∃ a t u, x = .ref a ∧ TIn T a [.str "level" t, .int n u]
  | .mark n => ∃ a t u, x = .ref a ∧ TIn T a [.str "mark" t, .int n u]
  | .cutto n => ∃ a t u, x = .ref a ∧ TIn T a [.str "cutto" t, .int n u]
  | .cut => ∃ a t, x = .ref a ∧ TIn T a [.str "cut" t]
  | .fail => ∃ a t, x = .ref a ∧ TIn T a [.str "fail" t]
  | .call p => ∃ a t y b e, x = .ref a ∧ TIn T a [.str "call" t, y, .ref b] ∧ TIn T b [e] ∧ TmIn T e p
  | .builtin p => ∃ a t y b e1 e2, x = .ref a ∧ TIn T a [.str "builtin" t, y, .ref b] ∧ TIn T b [e1, e2] ∧ CstIn T e1 ∧ TmIn T e2 p
  | .unify p => ∃ a t e1 e2, x = .ref a ∧ TIn T a [.str "unify" t, e1, e2] ∧ TmIn T e1 p ∧ CstIn T e2
section
variable {t t' : List (Addr × Obj)} (h : ∀ p ∈ t, p ∈ t')
include h
theorem VarIn.mono {x : Value} {n : Int} (e : VarIn t x n) : VarIn t' x n := let ⟨a, u, v, e1, e2⟩ := e; ⟨a, u, v, e1, e2.mono h⟩
theorem CstIn.mono {x : Value} (e : CstIn t x) : CstIn t' x := let ⟨a, u, y, k, e1, e2, e3⟩ := e; ⟨a, u, y, k, e1, e2, e3.mono h⟩
theorem TmIn.mono : ∀ {x : Value} {q : Tm}, TmIn t x q → TmIn t' x q
  | _, .v _, e => VarIn.mono h e
  | _, .c, e => CstIn.mono h e
  | _, .s _, e => let ⟨a, u, y, b, e1, e2, h1, h2, h3, h4, h5⟩ := e; ⟨a, u, y, b, e1, e2, h1, h2.mono h, h3.mono h, h4.mono h, h5.mono h⟩
theorem GlIn.mono {x : Value} : ∀ {g : Gl}, GlIn t x g → GlIn t' x g
  | .level _, ⟨a, u, v, e, e1⟩ => ⟨a, u, v, e, e1.mono h⟩
  | .mark _, ⟨a, u, v, e, e1⟩ => ⟨a, u, v, e, e1.mono h⟩
  | .cutto _, ⟨a, u, v, e, e1⟩ => ⟨a, u, v, e, e1.mono h⟩
  | .cut, ⟨a, u, e, e1⟩ => ⟨a, u, e, e1.mono h⟩
  | .fail, ⟨a, u, e, e1⟩ => ⟨a, u, e, e1.mono h⟩
  | .call _, ⟨a, u, y, b, e, e1, e2, e3, e4⟩ => ⟨a, u, y, b, e, e1, e2.mono h, e3.mono h, TmIn.mono h e4⟩
  | .builtin _, ⟨a, u, y, b, x1, x2, e1, e2, e3, e4, e5⟩ => ⟨a, u, y, b, x1, x2, e1, e2.mono h, e3.mono h, e4.mono h, TmIn.mono h e5⟩
  | .unify _, ⟨a, u, x1, x2, e1, e2, e3, e4⟩ => ⟨a, u, x1, x2, e1, e2.mono h, TmIn.mono h e3, e4.mono h⟩
end
section
variable {h₀ h : Heap} {L : Addr} {news T : List (Addr × Obj)} (N : News h₀ L h news) (hs : ∀ p ∈ T, p ∈ news)
include N hs
theorem TIn.at_ {a : Addr} {its : List Value} (x : TIn T a its) : IsTup h a its.toArray := let ⟨n, m⟩ := x; ⟨_, (N _ (hs _ m)).1, rfl, n, rfl⟩
theorem VarIn.at_ {x : Value} {n : Int} (e : VarIn T x n) : VarAt h x n := let ⟨a, u, v, e1, e2⟩ := e; ⟨a, u, v, e1, e2.at_ N hs⟩
theorem CstIn.at_ {x : Value} (e : CstIn T x) : CstAt h x := let ⟨a, u, y, k, e1, e2, e3⟩ := e; ⟨a, u, y, k, e1, e2, e3.at_ N hs⟩
theorem TmIn.at_ : ∀ {x : Value} {q : Tm}, TmIn T x q → TmAt h x q
  | _, .v _, e => VarIn.at_ N hs e
  | _, .c, e => CstIn.at_ N hs e
  | _, .s _, e => let ⟨a, u, y, b, e1, e2, h1, h2, h3, h4, h5⟩ := e; ⟨a, u, y, b, e1, e2, h1, h2.at_ N hs, h3.at_ N hs, h4.at_ N hs, h5.at_ N hs⟩
theorem GlIn.at_ {x : Value} : ∀ {g : Gl}, GlIn T x g → GlAt h x g
  | .level _, ⟨a, u, v, e, e1⟩ => ⟨a, u, v, e, e1.at_ N hs⟩
  | .mark _, ⟨a, u, v, e, e1⟩ => ⟨a, u, v, e, e1.at_ N hs⟩
  | .cutto _, ⟨a, u, v, e, e1⟩ => ⟨a, u, v, e, e1.at_ N hs⟩
  | .cut, ⟨a, u, e, e1⟩ => ⟨a, u, e, e1.at_ N hs⟩
  | .fail, ⟨a, u, e, e1⟩ => ⟨a, u, e, e1.at_ N hs⟩
  | .call _, ⟨a, u, y, b, e, e1, e2, e3, e4⟩ => ⟨a, u, y, b, e, e1, e2.at_ N hs, e3.at_ N hs, TmIn.at_ N hs e4⟩
  | .builtin _, ⟨a, u, y, b, x1, x2, e1, e2, e3, e4, e5⟩ => ⟨a, u, y, b, x1, x2, e1, e2.at_ N hs, e3.at_ N hs, e4.at_ N hs, TmIn.at_ N hs e5⟩
  | .unify _, ⟨a, u, x1, x2, e1, e2, e3, e4⟩ => ⟨a, u, x1, x2, e1, e2.at_ N hs, TmIn.at_ N hs e3, e4.at_ N hs⟩
end
/-- a mutable object of the ledger is none of the tuples -/
theorem off_tups {h₀ h : Heap} {L d : Addr} {o : Obj} {news T : List (Addr × Obj)} (N : News h₀ L h news) (hd : (d, o) ∈ news) (hs : ∀ p ∈ T, p ∈ news) (ha : AllTup T) (hc : o.cls ≠ .type "tuple") : ∀ p ∈ T, p.1 ≠ d := fun p hp q => by
  have h1 := (N _ hd).1
  have h2 := (N p (hs p hp)).1
  rw [q] at h2
  have h3 : o = p.2 := Option.some.inj (h1.symm.trans h2)
  exact hc (h3 ▸ ha p hp)
end Mine
end
/- Good -/
noncomputable section
open PySem PySem.W PyProof.Rows
namespace Mine
def hget (H : List (Int × Int)) (n : Int) : Option Int := (H.find? fun p => p.1 = n).map (·.2)
def put (H : List (Int × Int)) (n j : Int) : List (Int × Int) := if H.any (fun p => p.1 = n) then H.map (fun p => if p.1 = n then (p.1, j) else p) else H ++ [(n, j)]
theorem hget_none {H : List (Int × Int)} {n : Int} : hget H n = none ↔ (H.any fun p => p.1 = n) = false := by
  unfold hget
  rw [Option.map_eq_none_iff, List.find?_eq_none, List.any_eq_false]
theorem hget_put (H : List (Int × Int)) (n j m : Int) : hget (put H n j) m = if m = n then some j else hget H m := by
  unfold put
  by_cases hany : (H.any fun p => p.1 = n) = true
  · rw [if_pos hany]
    unfold hget
    by_cases hm : m = n
    · subst hm
      rw [if_pos rfl]
      induction H with
      | nil => simp at hany
      | cons p r ih =>
        by_cases hp : p.1 = m
        · simp [hp]
        · simp only [List.map_cons, if_neg hp, List.find?_cons, decide_eq_false hp]
          refine ih ?_
          simpa [hp] using hany
    · rw [if_neg hm]
      clear hany
      induction H with
      | nil => rfl
      | cons p r ih =>
        by_cases hp : p.1 = n
        · have h1 : ¬ n = m := fun e => hm e.symm
          have h2 : ¬ p.1 = m := fun e => h1 (hp.symm.trans e)
          simp only [List.map_cons, if_pos hp, List.find?_cons, decide_eq_false h2]
          exact ih
        · by_cases hpm : p.1 = m
          · simp [hp, hpm, hm]
          · simp only [List.map_cons, if_neg hp, List.find?_cons, decide_eq_false hpm]
            exact ih
  · rw [if_neg hany]
    have hnone : hget H n = none := hget_none.mpr (Bool.eq_false_iff.mpr hany)
    unfold hget at *
    rw [List.find?_append]
    by_cases hm : m = n
    · subst hm
      rw [if_pos rfl]
      rw [Option.map_eq_none_iff] at hnone
      rw [hnone]; simp
    · rw [if_neg hm]
      have : ¬ n = m := fun e => hm e.symm
      simp [this]
theorem mem_addv {o : List Int} {n m : Int} : m ∈ addv o n ↔ m ∈ o ∨ m = n := by
  unfold addv; split
  · rename_i h
    exact ⟨.inl, fun h' => h'.elim id fun e => e ▸ h⟩
  · simp
theorem mem_foldl_addv {l : List Int} : ∀ {o : List Int} {m : Int}, m ∈ l.foldl addv o ↔ m ∈ o ∨ m ∈ l := by
  induction l with
  | nil => intro o m; simp
  | cons a r ih => intro o m; rw [List.foldl_cons, ih, mem_addv]; simp [or_assoc]
theorem mem_upTo {c : Nat} {n : Int} : n ∈ upTo c ↔ 0 ≤ n ∧ n < c := by
  unfold upTo
  rw [List.mem_map]
  constructor
  · rintro ⟨a, ha, rfl⟩
    have := List.mem_range.mp ha
    simp; omega
  · intro h
    exact ⟨n.toNat, List.mem_range.mpr (by omega), by simp; omega⟩
theorem upTo_len (c : Nat) : (upTo c).length = c := by simp [upTo]
theorem upTo_succ (c : Nat) : upTo (c + 1) = upTo c ++ [(c : Int)] := by simp [upTo, List.range_succ]
theorem addv_upTo {c : Nat} {n : Int} (h0 : 0 ≤ n) (h1 : n ≤ c) : addv (upTo c) n = upTo (max c (n.toNat + 1)) := by
  by_cases h : n < c
  · rw [addv_in (mem_upTo.mpr ⟨h0, h⟩), show max c (n.toNat + 1) = c by omega]
  · have e : n = (c : Int) := by omega
    subst e
    rw [addv_out (fun h' => h (mem_upTo.mp h').2), show max c (((c : Int)).toNat + 1) = c + 1 by omega, upTo_succ]
theorem varsOf_snoc (a : List Tm) (t : Tm) : varsOf (a ++ [t]) = (flatV t).foldl addv (varsOf a) := by
  unfold varsOf
  rw [flatsV_append, List.foldl_append]
  simp [flatsV]
theorem heldOf_sub (a : List Tm) : ∀ n ∈ heldOf a, n ∈ varsOf a := by
  suffices H : ∀ n, n ∈ heldOf a → n ∈ flatsV a by
    intro n hn
    unfold varsOf; exact mem_foldl_addv.mpr (.inr (H n hn))
  intro n
  induction a with
  | nil => simp [heldOf]
  | cons t r ih =>
    have e : flatsV (t :: r) = flatV t ++ flatsV r := rfl
    rw [e]
    intro hn
    cases t with
    | v k =>
      simp only [heldOf, List.mem_cons] at hn
      rcases hn with h | h
      · simp [flatV, h]
      · exact List.mem_append_right _ (ih h)
    | c => exact List.mem_append_right _ (ih hn)
    | s k => exact List.mem_append_right _ (ih hn)
theorem mem_add0 {o : List Int} {n m : Int} (h : m ∈ o) : m ∈ add0 o n := by unfold add0; split; exact mem_addv.mpr (.inl h); exact h
theorem mem_ordNext {o : List Int} {q : Gl} {m : Int} (h : m ∈ o) : m ∈ ordNext o q := mem_foldl_addv.mpr (.inl (mem_add0 h))
theorem hold_ordNext {o : List Int} {q : Gl} {m : Int} (h : gHolds q = some m) (hp : gPos q = true) : m ∈ ordNext o q := by
  cases q with
  | level n =>
    simp only [gHolds, Option.some.injEq] at h; subst h
    refine mem_foldl_addv.mpr (.inl ?_)
    unfold add0 gSpecial; rw [if_pos (of_decide_eq_true hp)]; exact mem_addv.mpr (.inr rfl)
  | mark n =>
    simp only [gHolds, Option.some.injEq] at h; subst h
    refine mem_foldl_addv.mpr (.inl ?_)
    unfold add0 gSpecial; rw [if_pos (of_decide_eq_true hp)]; exact mem_addv.mpr (.inr rfl)
  | _ => cases h

structure Good (args : List Tm) (goals : List Gl) (H : List (Int × Int)) (c : Nat) (lv cal : Bool) : Prop where
  at_ : ∀ k, k ≤ goals.length → ∃ σ, run 0 (goals.take k) (start args) = some σ ∧ (∀ n ∈ σ.held, n ∈ σ.order) ∧ (∀ n, n ∈ σ.held ↔ ∃ j, hget H n = some j ∧ j < (k : Int)) ∧ σ.called = (goals.take k).any isCall
  fin : ∃ σ, run 0 goals (start args) = some σ ∧ σ.order = upTo c
  cal : cal = goals.any isCall
  lvl : ∀ (i : Nat) n, goals[i]? = some (.level n) → i = 0
  lv0 : lv = true ↔ ∃ n, goals[0]? = some (.level n)
  pos : ∀ q ∈ goals, gPos q = true
  key : ∀ n j, hget H n = some j → 0 ≤ n ∧ n < (c : Int) ∧ j < (goals.length : Int)

theorem good_nil : Good [] [] [] 0 false false where
  at_ := fun k hk => ⟨start [], by simp [run], fun n h => by simp [start, heldOf] at h, fun n => by simp [start, heldOf, hget], by simp [start]⟩
  fin := ⟨start [], rfl, rfl⟩
  cal := rfl
  lvl := fun i n h => by simp at h
  lv0 := by simp
  pos := fun q h => by simp at h
  key := fun n j h => by simp [hget] at h
theorem good_order {args : List Tm} {H : List (Int × Int)} {c : Nat} {lv cal : Bool} (G : Good args [] H c lv cal) : varsOf args = upTo c := by
  obtain ⟨σ, h1, h2⟩ := G.fin
  simp only [run, Option.some.injEq] at h1
  rw [← h2, ← h1]; rfl
theorem good_held {args : List Tm} {H : List (Int × Int)} {c : Nat} {lv cal : Bool} (G : Good args [] H c lv cal) (n : Int) : n ∈ heldOf args ↔ ∃ j, hget H n = some j ∧ j < (0 : Int) := by
  obtain ⟨σ, h1, _, h3, _⟩ := G.at_ 0 (Nat.le_refl _)
  simp only [List.take_zero, run, Option.some.injEq] at h1
  have := h3 n
  rw [← h1] at this
  exact this
/-- an argument that is a variable -/
theorem good_argv {args : List Tm} {H : List (Int × Int)} {c : Nat} {lv cal : Bool} {n : Int} (G : Good args [] H c lv cal) (h0 : 0 ≤ n) (h1 : n ≤ c) : Good (args ++ [.v n]) [] (put H n (-1)) (max c (n.toNat + 1)) lv cal where
  at_ := fun k hk => by
    have hk0 : k = 0 := by simpa using hk
    subst hk0
    refine ⟨start (args ++ [.v n]), by simp [run], fun m hm => heldOf_sub _ m hm, fun m => ?_, by simp [start]⟩
    show m ∈ heldOf (args ++ [.v n]) ↔ _
    rw [heldOf_append, List.mem_append, good_held G, hget_put]
    simp only [heldOf, List.mem_singleton]
    by_cases e : m = n
    · simp [e]
    · rw [if_neg e]; simp [e]
  fin := ⟨start (args ++ [.v n]), rfl, by show varsOf _ = _; rw [varsOf_snoc, good_order G]; exact addv_upTo h0 h1⟩
  cal := G.cal
  lvl := G.lvl
  lv0 := G.lv0
  pos := G.pos
  key := fun m j h => by
    rw [hget_put] at h
    by_cases e : m = n
    · rw [if_pos e] at h; cases h; simp; omega
    · rw [if_neg e] at h; have := G.key m j h; simp at this ⊢; omega
/-- an argument with a variable within -/
theorem good_args {args : List Tm} {H : List (Int × Int)} {c : Nat} {lv cal : Bool} {n : Int} (G : Good args [] H c lv cal) (h0 : 0 ≤ n) (h1 : n ≤ c) : Good (args ++ [.s n]) [] H (max c (n.toNat + 1)) lv cal where
  at_ := fun k hk => by
    have hk0 : k = 0 := by simpa using hk
    subst hk0
    refine ⟨start (args ++ [.s n]), by simp [run], fun m hm => heldOf_sub _ m hm, fun m => ?_, by simp [start]⟩
    show m ∈ heldOf (args ++ [.s n]) ↔ _
    rw [heldOf_append, List.mem_append, good_held G]
    simp [heldOf]
  fin := ⟨start (args ++ [.s n]), rfl, by show varsOf _ = _; rw [varsOf_snoc, good_order G]; exact addv_upTo h0 h1⟩
  cal := G.cal
  lvl := G.lvl
  lv0 := G.lv0
  pos := G.pos
  key := fun m j h => by have := G.key m j h; simp at this ⊢; omega
end Mine
end
/- Good2 -/
noncomputable section
open PySem PySem.W PyProof.Rows
namespace Mine
/-- one more goal at the end -/
theorem good_step {args : List Tm} {goals : List Gl} {H H' : List (Int × Int)} {c c' : Nat} {lv lv' cal : Bool} {q : Gl} (G : Good args goals H c lv cal)
    (hok : ∀ σ, run 0 goals (start args) = some σ → σ.order = upTo c → okAt goals.length σ q = true ∧ ordNext σ.order q = upTo c')
    (hH : ∀ n j, hget H' n = some j ↔ (hget H n = some j ∨ (gHolds q = some n ∧ j = goals.length)))
    (hc : c ≤ c') (hpos : gPos q = true) (hkey : ∀ n, gHolds q = some n → 0 ≤ n ∧ n < (c' : Int))
    (hlvl : ∀ n, q = .level n → goals = []) (hlv0 : lv' = true ↔ ∃ n, (goals ++ [q])[0]? = some (.level n)) : Good args (goals ++ [q]) H' c' lv' (cal || isCall q) := by
  obtain ⟨σ, hr, ho⟩ := G.fin
  obtain ⟨hok1, hok2⟩ := hok σ hr ho
  have hrun : run 0 (goals ++ [q]) (start args) = some (next σ q) := by
    rw [run_snoc, hr]; simp only [Option.bind_some, Nat.zero_add, hok1, if_true]
  refine ⟨fun k hk => ?_, ⟨next σ q, hrun, hok2⟩, by rw [List.any_append, ← G.cal]; simp, fun i n hi => ?_, hlv0, fun q' hq' => ?_, fun n j hj => ?_⟩
  · rw [List.length_append, List.length_singleton] at hk
    rcases Nat.lt_or_ge goals.length k with hk2 | hk2
    · have hke : k = goals.length + 1 := by omega
      subst hke
      have et : (goals ++ [q]).take (goals.length + 1) = goals ++ [q] := by rw [List.take_of_length_le]; simp
      obtain ⟨σ', h1, h2, h3, h4⟩ := G.at_ goals.length (Nat.le_refl _)
      rw [List.take_length] at h1 h4
      have e : σ' = σ := by rw [hr] at h1; exact (Option.some.inj h1).symm
      subst e
      refine ⟨next σ' q, by rw [et]; exact hrun, fun n hn => ?_, fun n => ?_, ?_⟩
      · have hn' : n ∈ σ'.held ++ (gHolds q).toList := hn
        rcases List.mem_append.mp hn' with h | h
        · exact mem_ordNext (h2 n h)
        · exact hold_ordNext (by simpa using h) hpos
      · show n ∈ σ'.held ++ (gHolds q).toList ↔ _
        rw [List.mem_append, h3 n]
        constructor
        · rintro (⟨j, hj, hlt⟩ | h)
          · exact ⟨j, (hH n j).mpr (.inl hj), by omega⟩
          · exact ⟨goals.length, (hH n _).mpr (.inr ⟨by simpa using h, rfl⟩), by omega⟩
        · rintro ⟨j, hj, hlt⟩
          rcases (hH n j).mp hj with h | ⟨h, rfl⟩
          · exact .inl ⟨j, h, (G.key n j h).2.2⟩
          · exact .inr (by simpa using h)
      · show (σ'.called || isCall q) = _
        rw [et, h4, List.any_append]; simp
    · have et : (goals ++ [q]).take k = goals.take k := by rw [List.take_append_of_le_length hk2]
      obtain ⟨σ', h1, h2, h3, h4⟩ := G.at_ k hk2
      refine ⟨σ', by rw [et]; exact h1, h2, fun n => ?_, by rw [et]; exact h4⟩
      rw [h3 n]
      constructor
      · rintro ⟨j, hj, hlt⟩; exact ⟨j, (hH n j).mpr (.inl hj), hlt⟩
      · rintro ⟨j, hj, hlt⟩
        rcases (hH n j).mp hj with h | ⟨_, rfl⟩
        · exact ⟨j, h, hlt⟩
        · omega
  · rcases Nat.lt_or_ge i goals.length with h | h
    · rw [List.getElem?_append_left h] at hi
      exact G.lvl i n hi
    · rw [List.getElem?_append_right h] at hi
      have hi0 : i - goals.length = 0 := by
        rcases Nat.eq_zero_or_pos (i - goals.length) with h' | h'
        · exact h'
        · rw [List.getElem?_eq_none (by simp; omega)] at hi; cases hi
      rw [hi0] at hi
      have e : q = .level n := by simpa using hi
      have e2 := hlvl n e
      rw [e2] at hi0; simpa using hi0
  · rcases List.mem_append.mp hq' with h | h
    · exact G.pos q' h
    · rw [List.mem_singleton.mp h]; exact hpos
  · rw [List.length_append, List.length_singleton]
    rcases (hH n j).mp hj with h | ⟨h, rfl⟩
    · have := G.key n j h; omega
    · have := hkey n h; omega
/-- a goal that is neither a level nor holds anything -/
theorem good_plain {args : List Tm} {goals : List Gl} {H : List (Int × Int)} {c c' : Nat} {lv cal : Bool} {q : Gl} (G : Good args goals H c lv cal)
    (hok : ∀ σ, run 0 goals (start args) = some σ → σ.order = upTo c → okAt goals.length σ q = true ∧ ordNext σ.order q = upTo c')
    (hc : c ≤ c') (hpos : gPos q = true) (hh : gHolds q = none) : Good args (goals ++ [q]) H c' lv (cal || isCall q) := by
  have hnl : ∀ n, q ≠ .level n := fun n e => by rw [e] at hh; cases hh
  refine good_step G hok (fun n j => by rw [hh]; simp) hc hpos (fun n h => by rw [hh] at h; cases h) (fun n e => absurd e (hnl n)) ?_
  rw [G.lv0]
  cases goals with
  | nil => simp; exact fun n => hnl n
  | cons a r => simp
theorem good_mark {args : List Tm} {goals : List Gl} {H : List (Int × Int)} {c : Nat} {lv cal : Bool} (G : Good args goals H c lv cal) : Good args (goals ++ [.mark c]) (put H c goals.length) (c + 1) lv cal := by
  have hfresh : hget H (c : Int) = none := by
    cases e : hget H (c : Int) with
    | none => rfl
    | some j => have := G.key _ _ e; omega
  have h := good_step (q := .mark c) (H' := put H c goals.length) (c' := c + 1) (lv' := lv) G (fun σ hr ho => ⟨?_, ?_⟩) (fun n j => ?_) (by omega) (decide_eq_true (Int.natCast_nonneg c)) (fun n hn => ?_) (fun n e => by cases e) ?_
  · simpa [isCall] using h
  · simp only [okAt, ho]
    have : ¬ (c : Int) ∈ upTo c := fun h => by have := (mem_upTo.mp h).2; omega
    simp [this]
  · show (varsOf []).foldl addv (add0 σ.order c) = _
    rw [ho, add0_out (Int.natCast_nonneg c) (fun h => by have := (mem_upTo.mp h).2; omega), upTo_succ]; rfl
  · rw [hget_put]
    by_cases e : n = (c : Int)
    · subst e; rw [if_pos rfl, hfresh]; simp [gHolds]; exact eq_comm
    · rw [if_neg e]; simp [gHolds]; intro h; exact absurd h.symm e
  · simp only [gHolds, Option.some.injEq] at hn; subst hn; omega
  · rw [G.lv0]
    cases goals with
    | nil => simp
    | cons a r => simp
theorem good_level {args : List Tm} {H : List (Int × Int)} {c : Nat} (G : Good args [] H c false false) : Good args [.level c] (put H c 0) (c + 1) true false := by
  have hfresh : hget H (c : Int) = none := by
    cases e : hget H (c : Int) with
    | none => rfl
    | some j => have := G.key _ _ e; omega
  have h := good_step (q := .level c) (H' := put H c 0) (c' := c + 1) (lv' := true) G (fun σ hr ho => ⟨?_, ?_⟩) (fun n j => ?_) (by omega) (decide_eq_true (Int.natCast_nonneg c)) (fun n hn => ?_) (fun n e => rfl) ?_
  · simpa [isCall] using h
  · simp only [okAt, ho]
    have : ¬ (c : Int) ∈ upTo c := fun h => by have := (mem_upTo.mp h).2; omega
    simp [this]
  · show (varsOf []).foldl addv (add0 σ.order c) = _
    rw [ho, add0_out (Int.natCast_nonneg c) (fun h => by have := (mem_upTo.mp h).2; omega), upTo_succ]; rfl
  · rw [hget_put]
    by_cases e : n = (c : Int)
    · subst e; rw [if_pos rfl, hfresh]; simp [gHolds]; exact eq_comm
    · rw [if_neg e]; simp [gHolds]; intro h; exact absurd h.symm e
  · simp only [gHolds, Option.some.injEq] at hn; subst hn; omega
  · simp
theorem ordNext_same {o : List Int} {q : Gl} (ht : gTerms q = []) (hs : add0 o (gSpecial q) = o) : ordNext o q = o := by unfold ordNext; rw [ht, hs]; rfl
theorem good_cut {args : List Tm} {goals : List Gl} {H : List (Int × Int)} {c : Nat} {lv : Bool} (G : Good args goals H c lv false) : Good args (goals ++ [.cut]) H c lv false := by
  refine good_plain (q := .cut) G (fun σ hr ho => ⟨?_, ?_⟩) (Nat.le_refl _) rfl rfl
  · obtain ⟨σ', h1, _, _, h4⟩ := G.at_ goals.length (Nat.le_refl _)
    rw [List.take_length] at h1 h4
    rw [hr] at h1; cases h1
    simp only [okAt, h4, ← G.cal]; rfl
  · rw [ho]; exact ordNext_same rfl rfl
theorem good_fail {args : List Tm} {goals : List Gl} {H : List (Int × Int)} {c : Nat} {lv cal : Bool} (G : Good args goals H c lv cal) : Good args (goals ++ [.fail]) H c lv cal := by
  have := good_plain (q := .fail) G (fun σ hr ho => ⟨rfl, by rw [ho]; exact ordNext_same rfl rfl⟩) (Nat.le_refl _) rfl rfl
  simpa [isCall] using this
theorem good_cutto {args : List Tm} {goals : List Gl} {H : List (Int × Int)} {c : Nat} {lv cal : Bool} {n j : Int} (G : Good args goals H c lv cal) (hn : hget H n = some j) : Good args (goals ++ [.cutto n]) H c lv cal := by
  have hk := G.key n j hn
  have := good_plain (q := .cutto n) G (fun σ hr ho => ⟨?_, ?_⟩) (Nat.le_refl _) (decide_eq_true hk.1) rfl
  · simpa [isCall] using this
  · obtain ⟨σ', h1, _, h3, h4⟩ := G.at_ goals.length (Nat.le_refl _)
    rw [List.take_length] at h1
    rw [hr] at h1; cases h1
    exact decide_eq_true ((h3 n).mpr ⟨j, hn, hk.2.2⟩)
  · rw [ho]; exact ordNext_same rfl (add0_in (mem_upTo.mpr ⟨hk.1, hk.2.1⟩))
/-- a goal over one term whose one variable is n -/
theorem good_term {args : List Tm} {goals : List Gl} {H : List (Int × Int)} {c : Nat} {lv cal : Bool} {n : Int} {q : Gl} (G : Good args goals H c lv cal) (h0 : 0 ≤ n) (h1 : n ≤ c)
    (hq : ∀ σ i, okAt i σ q = true) (hp : gPos q = true) (hh : gHolds q = none) (hs : gSpecial q = -1) (hv : varsOf (gTerms q) = [n]) : Good args (goals ++ [q]) H (max c (n.toNat + 1)) lv (cal || isCall q) := by
  refine good_plain G (fun σ hr ho => ⟨hq σ _, ?_⟩) (by omega) hp hh
  unfold ordNext
  rw [hv, hs, ho]
  show addv (add0 (upTo c) (-1)) n = _
  have e : add0 (upTo c) (-1) = upTo c := rfl
  rw [e]; exact addv_upTo h0 h1
theorem good_count {args : List Tm} {goals : List Gl} {H : List (Int × Int)} {c : Nat} {lv cal : Bool} (G : Good args goals H c lv cal) : check args goals c = true := by
  obtain ⟨σ, h1, h2⟩ := G.fin
  unfold check; rw [h1]; exact decide_eq_true h2
theorem good_count1 {args : List Tm} {goals : List Gl} {H : List (Int × Int)} {c : Nat} {lv cal : Bool} (G : Good args goals H c lv cal) : check args goals (c + 1) = false := by
  obtain ⟨σ, h1, h2⟩ := G.fin
  unfold check; rw [h1]
  refine decide_eq_false fun e => ?_
  have := congrArg List.length (h2.symm.trans e)
  rw [upTo_len, upTo_len] at this; omega
theorem run_shift : ∀ (gs : List Gl) (i j : Nat) (σ : Cs), (∀ n, Gl.level n ∉ gs) → run i gs σ = run j gs σ
  | [], _, _, _, _ => rfl
  | g :: r, i, j, σ, h => by
    have e : okAt i σ g = okAt j σ g := by
      cases g with
      | level n => exact absurd (.head _) (h n)
      | _ => rfl
    simp only [run, e]
    rw [run_shift r (i + 1) (j + 1) _ fun n hn => h n (.tail _ hn)]
/-- a goal more, that changes nothing, at any place -/
theorem good_insert {args : List Tm} {goals : List Gl} {H : List (Int × Int)} {c k : Nat} {lv cal : Bool} {q : Gl} (G : Good args goals H c lv cal) (hk : k ≤ goals.length) (ok : Bool)
    (hq : ∀ σ, run 0 (goals.take k) (start args) = some σ → (∀ n ∈ σ.held, n ∈ σ.order) → (∀ n, n ∈ σ.held ↔ ∃ j, hget H n = some j ∧ j < (k : Int)) → σ.called = (goals.take k).any isCall → okAt k σ q = ok ∧ (ok = true → next σ q = σ)) :
    check args (goals.take k ++ [q] ++ goals.drop k) c = ((decide (0 < k) || !lv) && ok) := by
  obtain ⟨σ, h1, h2, h3, h4⟩ := G.at_ k hk
  obtain ⟨hq1, hq2⟩ := hq σ h1 h2 h3 h4
  obtain ⟨σf, hf, ho⟩ := G.fin
  have hl : (goals.take k).length = k := by rw [List.length_take]; omega
  have hbe : run k (goals.drop k) σ = some σf := by
    have := hf
    rw [← List.take_append_drop k goals, run_append, h1] at this
    simpa [hl] using this
  have e1 : run 0 (goals.take k ++ [q] ++ goals.drop k) (start args) = if ok then run (k + 1) (goals.drop k) σ else none := by
    rw [List.append_assoc, run_append, h1]
    simp only [Option.bind_some, hl, Nat.zero_add, List.singleton_append, run, hq1]
    cases ok with
    | true => rw [hq2 rfl]
    | false => rfl
  unfold check
  rw [e1]
  cases ok with
  | false => simp
  | true =>
    simp only [if_true, Bool.and_true]
    by_cases hfree : 0 < k ∨ lv = false
    · have hnl : ∀ n, Gl.level n ∉ goals.drop k := fun n hn => by
        obtain ⟨i, hi⟩ := List.getElem?_of_mem hn
        rw [List.getElem?_drop] at hi
        have h0 := G.lvl _ _ hi
        rcases hfree with h | h
        · omega
        · have hk0 : k + i = 0 := h0
          rw [hk0] at hi
          have := G.lv0.mpr ⟨n, hi⟩
          rw [h] at this; cases this
      rw [run_shift _ (k + 1) k σ hnl, hbe]
      have e2 : (decide (0 < k) || !lv) = true := by rcases hfree with h | h <;> simp [h]
      rw [e2]; exact decide_eq_true ho
    · have hk0 : k = 0 := by omega
      subst hk0
      have hlv : lv = true := by cases lv <;> simp_all
      obtain ⟨n, hn⟩ := G.lv0.mp hlv
      rw [hlv]
      cases goals with
      | nil => simp at hn
      | cons a r =>
        have ea : a = .level n := by simpa using hn
        subst ea
        simp [run, okAt]
theorem good_ins_cut {args : List Tm} {goals : List Gl} {H : List (Int × Int)} {c k : Nat} {lv cal : Bool} (G : Good args goals H c lv cal) (hk : k ≤ goals.length) :
    check args (goals.take k ++ [.cut] ++ goals.drop k) c = ((decide (0 < k) || !lv) && !(goals.take k).any isCall) :=
  good_insert G hk _ fun σ h1 h2 h3 h4 => ⟨by show (!σ.called) = _; rw [h4], fun _ => by
    have e : next σ .cut = ⟨σ.order, σ.held ++ [], σ.called || false⟩ := rfl
    rw [e, List.append_nil, Bool.or_false]⟩
theorem good_ins_cutto {args : List Tm} {goals : List Gl} {H : List (Int × Int)} {c k : Nat} {lv cal : Bool} (G : Good args goals H c lv cal) (hk : k ≤ goals.length) (n : Int) :
    check args (goals.take k ++ [.cutto n] ++ goals.drop k) c = ((decide (0 < k) || !lv) && (match hget H n with | some j => decide (j < (k : Int)) | none => false)) :=
  good_insert G hk _ fun σ h1 h2 h3 h4 => by
    have hm : okAt k σ (.cutto n) = (match hget H n with | some j => decide (j < (k : Int)) | none => false) := by
      show decide (n ∈ σ.held) = _
      cases e : hget H n with
      | none => exact decide_eq_false fun h => by obtain ⟨j, hj, _⟩ := (h3 n).mp h; rw [e] at hj; cases hj
      | some j =>
        have : (n ∈ σ.held) ↔ j < (k : Int) := by
          rw [h3 n, e]
          constructor
          · rintro ⟨j', hj', hlt⟩; cases hj'; exact hlt
          · exact fun h => ⟨j, rfl, h⟩
        simp [this]
    refine ⟨hm, fun ht => ?_⟩
    rw [← hm] at ht
    have hin : n ∈ σ.held := of_decide_eq_true ht
    have e : next σ (.cutto n) = ⟨add0 σ.order n, σ.held ++ [], σ.called || false⟩ := rfl
    rw [e, List.append_nil, Bool.or_false, add0_in (h2 n hin)]
end Mine
end
/- His -/
noncomputable section
open PySem PySem.W PyProof.Rows
set_option maxRecDepth 100000
namespace Mine
def HIs (kvs : List (Int × Value)) (H : List (Int × Int)) : Prop := All2 (fun kv h => kv.1 = h.1 ∧ ∃ t, kv.2 = .int h.2 t) kvs H
theorem his_any {kvs : List (Int × Value)} {H : List (Int × Int)} (h : HIs kvs H) (n : Int) : (kvs.any fun kv => decide (kv.1 = n)) = H.any fun p => decide (p.1 = n) := by
  induction h with
  | nil => rfl
  | cons a _ ih => simp only [List.any_cons, a.1, ih]
theorem his_put {kvs : List (Int × Value)} {H : List (Int × Int)} (h : HIs kvs H) (n j : Int) (t : Tok) : HIs (stored kvs n (.int j t)) (put H n j) := by
  unfold stored put
  rw [his_any h n]
  by_cases hany : (H.any fun p => decide (p.1 = n)) = true
  · rw [if_pos hany, if_pos hany]
    clear hany
    induction h with
    | nil => exact .nil
    | @cons a b l m x _ ih =>
      obtain ⟨x1, t', x2⟩ := x
      refine .cons ?_ ih
      dsimp only
      by_cases hb : b.1 = n
      · have ha : a.1 = n := x1.trans hb
        rw [if_pos ha, if_pos hb]
        exact ⟨x1, t, rfl⟩
      · have ha : ¬ a.1 = n := fun e => hb (x1.symm.trans e)
        rw [if_neg ha, if_neg hb]
        exact ⟨x1, t', x2⟩
  · rw [if_neg hany, if_neg hany]
    exact h.append (.one ⟨rfl, t, rfl⟩)
theorem his_get {kvs : List (Int × Value)} {H : List (Int × Int)} (h : HIs kvs H) (n : Int) : (hget H n = none ∧ valueAt kvs n = none) ∨ ∃ j t, hget H n = some j ∧ valueAt kvs n = some (.int j t) := by
  unfold hget valueAt
  induction h with
  | nil => exact .inl ⟨rfl, rfl⟩
  | @cons a b l m x _ ih =>
    obtain ⟨x1, t, x2⟩ := x
    by_cases hb : b.1 = n
    · have ha : a.1 = n := x1.trans hb
      refine .inr ⟨b.2, t, ?_, ?_⟩
      · simp [hb]
      · simp [ha, x2]
    · have ha : ¬ a.1 = n := fun e => hb (x1.symm.trans e)
      rcases ih with ⟨h1, h2⟩ | ⟨j, t', h1, h2⟩
      · exact .inl ⟨by simpa [hb] using h1, by simpa [ha] using h2⟩
      · exact .inr ⟨j, t', by simpa [hb] using h1, by simpa [ha] using h2⟩
theorem stored_len (kvs : List (Int × Value)) (n : Int) (v : Value) : (stored kvs n v).length ≤ kvs.length + 1 := by
  unfold stored; split <;> simp
theorem wts_len (a : List Tm) : wts a ≤ 3 * a.length := by
  induction a with
  | nil => simp [wts]
  | cons t r ih =>
    have h1 : wt t ≤ 3 := by cases t <;> simp [wt]
    have h2 : wts (t :: r) = wt t + wts r := by simp [wts]
    rw [h2, List.length_cons]; omega
end Mine
end
/- LawL -/
noncomputable section
open PySem PySem.W PyProof.Rows
set_option maxRecDepth 100000
set_option maxHeartbeats 8000000
namespace Mine
def LtI (a b : Int) : Prop := a < b
/-- what the loops of law keep -/
structure LJ (prog : Program) (w : World) (B : Nat) (od : Obj) (gvs avs : List Value) (oc : Obj) (tups : List (Addr × Obj)) (kvs : List (Int × Value)) (H : List (Int × Int)) (args : List Tm) (goals : List Gl) (c : Nat) (lv cal : Bool) : Prop where
  dict : od.IsDictOf (intKind prog w) kvs
  his : HIs kvs H
  coins : CoinsOk oc
  fargs : All2 (TmIn tups) avs args
  fgoals : All2 (GlIn tups) gvs goals
  good : Good args goals H c lv cal
  ftups : AllTup tups
  ba : args.length ≤ B
  bg : goals.length ≤ B
  bc : c ≤ B
  bk : kvs.length ≤ B
theorem dict_cls {prog : Program} {w : World} {od : Obj} {kvs : List (Int × Value)} (h : od.IsDictOf (intKind prog w) kvs) : od.cls = .type "dict" := by
  obtain ⟨es, n, h1, _⟩ := h; exact h1.1
theorem coins_cls {oc : Obj} (h : CoinsOk oc) : oc.cls = .type "list" := by
  obtain ⟨cvs, n, cs, rfl, _⟩ := h; rfl
def lnews (dd go ar co : Addr) (od : Obj) (gvs : List Value) (n1 : Nat) (avs : List Value) (n2 : Nat) (oc : Obj) (tups : List (Addr × Obj)) : List (Addr × Obj) :=
  (dd, od) :: (go, W.listOf gvs.toArray n1) :: (ar, W.listOf avs.toArray n2) :: (co, oc) :: tups
/-- the ledger after a turn -/
theorem lj_news {prog : Program} {w : World} {h₀ h : Heap} {L : Addr} {dd go ar co : Addr} {B : Nat} {od : Obj} {gvs avs : List Value} {n1 n2 : Nat} {oc : Obj} {tups : List (Addr × Obj)} {kvs H args goals c lv cal} {all : List (Addr × Obj)} {I : Addr} {oI : Obj}
    (j : LJ prog w B od gvs avs oc tups kvs H args goals c lv cal) (N : News h₀ L h all) (hI : oI.cls = .type "range_iterator")
    (hs : ∀ p ∈ ((I, oI) :: lnews dd go ar co od gvs n1 avs n2 oc tups), p ∈ all) :
    News h₀ L h ((I, oI) :: lnews dd go ar co od gvs n1 avs n2 oc tups) ∧ ∀ p ∈ lnews dd go ar co od gvs n1 avs n2 oc tups, p.1 ≠ I := by
  have N2 : News h₀ L h ((I, oI) :: lnews dd go ar co od gvs n1 avs n2 oc tups) := fun p hp => N p (hs p hp)
  refine ⟨N2, fun p hp q => ?_⟩
  have h1 := (N2 _ (.head _)).1
  have h2 := (N2 p (.tail _ hp)).1
  rw [q] at h2
  have h3 : oI = p.2 := Option.some.inj (h1.symm.trans h2)
  have h4 : p.2.cls = .type "range_iterator" := h3 ▸ hI
  rcases List.mem_cons.mp hp with rfl | hp
  · rw [dict_cls j.dict] at h4; exact absurd h4 (by decide)
  rcases List.mem_cons.mp hp with rfl | hp
  · exact absurd h4 (by rw [show ∀ (l : Array Value) n, (W.listOf l n).cls = .type "list" from fun _ _ => rfl]; decide)
  rcases List.mem_cons.mp hp with rfl | hp
  · exact absurd h4 (by rw [show ∀ (l : Array Value) n, (W.listOf l n).cls = .type "list" from fun _ _ => rfl]; decide)
  rcases List.mem_cons.mp hp with rfl | hp
  · rw [coins_cls j.coins] at h4; exact absurd h4 (by decide)
  · rw [j.ftups p hp] at h4; exact absurd h4 (by decide)
/-- the mutable ones are none of the tuples -/
theorem lj_off {prog : Program} {w : World} {h₀ h : Heap} {L : Addr} {dd go ar co : Addr} {B : Nat} {od : Obj} {gvs avs : List Value} {n1 n2 : Nat} {oc : Obj} {tups : List (Addr × Obj)} {kvs H args goals c lv cal}
    (j : LJ prog w B od gvs avs oc tups kvs H args goals c lv cal) (N : News h₀ L h (lnews dd go ar co od gvs n1 avs n2 oc tups)) :
    (∀ p ∈ tups, p.1 ≠ dd) ∧ (∀ p ∈ tups, p.1 ≠ go) ∧ (∀ p ∈ tups, p.1 ≠ ar) ∧ (∀ p ∈ tups, p.1 ≠ co) := by
  have hs : ∀ p ∈ tups, p ∈ lnews dd go ar co od gvs n1 avs n2 oc tups := fun p hp => .tail _ (.tail _ (.tail _ (.tail _ hp)))
  refine ⟨off_tups N (.head _) hs j.ftups ?_, off_tups N (.tail _ (.head _)) hs j.ftups ?_, off_tups N (.tail _ (.tail _ (.head _))) hs j.ftups ?_, off_tups N (.tail _ (.tail _ (.tail _ (.head _)))) hs j.ftups ?_⟩
  · rw [dict_cls j.dict]; decide
  · rw [show ∀ (l : Array Value) n, (W.listOf l n).cls = .type "list" from fun _ _ => rfl]; decide
  · rw [show ∀ (l : Array Value) n, (W.listOf l n).cls = .type "list" from fun _ _ => rfl]; decide
  · rw [coins_cls j.coins]; decide
def J1 (prog : Program) (w : World) (dd go ar co : Addr) (i : Nat) (u : Str → Option Value) (news : List (Addr × Obj)) : Prop :=
  ∃ od n1 avs n2 oc tups kvs H args c tc, news = lnews dd go ar co od [] n1 avs n2 oc tups ∧ u "count" = some (.int (c : Nat) tc) ∧ LJ prog w i od [] avs oc tups kvs H args [] c false false
def J2 (prog : Program) (w : World) (dd go ar co : Addr) (lv : Bool) (i : Nat) (u : Str → Option Value) (news : List (Addr × Obj)) : Prop :=
  ∃ od gvs n1 avs n2 oc tups kvs H args goals c tc cal, news = lnews dd go ar co od gvs n1 avs n2 oc tups ∧ u "count" = some (.int (c : Nat) tc) ∧ u "called" = some (.bool cal) ∧ LJ prog w (i + 3) od gvs avs oc tups kvs H args goals c lv cal
section
variable {prog : Program} {w : World} {A : Around} {E : Value → Shared → Prop} {Q : Flow → Shared → Prop} {s : Shared} {env : Env} {h₀ : Heap} {x : Str} {body : List Stmt}
theorem iter_args {r dd go ar co : Addr} {n n1 n2 : Nat} {od oc : Obj} {t₀ u₀ v₀ t0 : Tok} {m₀ : Str → Option Value} (hh : A.handled = none) (hr : IsRange s.heap r 0 (n : Int) 1 t₀ u₀ v₀) (hn : n < 3) (hm : m₀ "count" = some (.int 0 t0))
    (F : Fr h₀ env.locals s.heap m₀) (N : News h₀ env.locals s.heap [(dd, od), (go, W.listOf ([] : List Value).toArray n1), (ar, W.listOf ([] : List Value).toArray n2), (co, oc)])
    (hdict : od.IsDictOf (intKind prog w) []) (hok : CoinsOk oc)
    (turn : ∀ (i : Nat) t u od n1 avs n2 oc tups kvs H args c tc h tk I oI, i < 2 → oI.cls = .type "range_iterator" → u "count" = some (.int (c : Nat) tc) → LJ prog w i od [] avs oc tups kvs H args [] c false false →
        (∀ p ∈ tups, p.1 ≠ dd) → (∀ p ∈ tups, p.1 ≠ go) → (∀ p ∈ tups, p.1 ≠ ar) → (∀ p ∈ tups, p.1 ≠ co) → @Ne Nat dd I → @Ne Nat go I → @Ne Nat ar I → @Ne Nat co I → (∀ p ∈ tups, p.1 ≠ I) →
        Fr h₀ env.locals h (fun y => if y = x then some (.int (i : Int) t) else ovr ["way", "number", "count"] u m₀ y) → News h₀ env.locals h ((I, oI) :: (dd, od) :: (go, W.listOf ([] : List Value).toArray n1) :: (ar, W.listOf avs.toArray n2) :: (co, oc) :: tups) →
      wpAny (model prog w) A (execs body env) (TPostG h₀ env.locals [x, "way", "number", "count"] m₀ (J1 prog w dd go ar co (i + 1)) I oI { s with heap := h, toks := tk } Q) E { s with heap := h, toks := tk })
    (done : ∀ u od n1 avs n2 oc tups kvs H args c tc h tk, u "count" = some (.int (c : Nat) tc) → LJ prog w 2 od [] avs oc tups kvs H args [] c false false →
        (∀ p ∈ tups, p.1 ≠ dd) → (∀ p ∈ tups, p.1 ≠ go) → (∀ p ∈ tups, p.1 ≠ ar) → (∀ p ∈ tups, p.1 ≠ co) →
        Fr h₀ env.locals h (ovr [x, "way", "number", "count"] u m₀) → News h₀ env.locals h ((dd, od) :: (go, W.listOf ([] : List Value).toArray n1) :: (ar, W.listOf avs.toArray n2) :: (co, oc) :: tups) → Q .next { s with heap := h, toks := tk }) :
    wpAny (model prog w) A (pyIter (.ref r)) (fun it s₂ => LoopAtV prog w A h₀ env x body Q E it s₂) E s := by
  refine iter_rngG ["way", "number", "count"] (J1 prog w dd go ar co) hh hr (by omega) F N ⟨od, n1, [], n2, oc, [], [], [], [], 0, t0, rfl, hm, ⟨hdict, .nil, hok, .nil, .nil, good_nil, (fun _ h => nomatch h), by simp, by simp, by simp, by simp⟩⟩ ?_ ?_
  · rintro i t u news₁ h tk I oI hi ha hI ⟨od, n1, avs, n2, oc, tups, kvs, H, args, c, tc, rfl, hc, j⟩ F₁ N₁
    obtain ⟨o1, o2, o3, o4⟩ := lj_off (dd := dd) (go := go) (ar := ar) (co := co) (n1 := n1) (n2 := n2) j (fun p hp => N₁ p (.tail _ hp))
    exact turn i t u od n1 avs n2 oc tups kvs H args c tc h tk I oI (by omega) hI hc j o1 o2 o3 o4 (ha _ (.head _)) (ha _ (.tail _ (.head _))) (ha _ (.tail _ (.tail _ (.head _)))) (ha _ (.tail _ (.tail _ (.tail _ (.head _))))) (fun p hp => ha p (.tail _ (.tail _ (.tail _ (.tail _ hp))))) F₁ N₁
  · rintro u news₁ h tk ⟨od, n1, avs, n2, oc, tups, kvs, H, args, c, tc, rfl, hc, j⟩ F₁ N₁
    obtain ⟨o1, o2, o3, o4⟩ := lj_off (dd := dd) (go := go) (ar := ar) (co := co) (n1 := n1) (n2 := n2) j N₁
    exact done u od n1 avs n2 oc tups kvs H args c tc h tk hc { j with ba := by have := j.ba; omega, bg := by have := j.bg; omega, bc := by have := j.bc; omega, bk := by have := j.bk; omega } o1 o2 o3 o4 F₁ N₁
theorem iter_goals2 {r dd go ar co : Addr} {n n1 n2 : Nat} {od oc : Obj} {gvs avs : List Value} {tups : List (Addr × Obj)} {kvs H args goals c lv cal} {tc : Tok} {t₀ u₀ v₀ : Tok} {m₀ : Str → Option Value} (hh : A.handled = none) (hr : IsRange s.heap r 0 (n : Int) 1 t₀ u₀ v₀) (hn : n ≤ 4)
    (hm : m₀ "count" = some (.int (c : Nat) tc)) (hm2 : m₀ "called" = some (.bool cal)) (j : LJ prog w 3 od gvs avs oc tups kvs H args goals c lv cal)
    (F : Fr h₀ env.locals s.heap m₀) (N : News h₀ env.locals s.heap ((dd, od) :: (go, W.listOf gvs.toArray n1) :: (ar, W.listOf avs.toArray n2) :: (co, oc) :: tups))
    (turn : ∀ (i : Nat) t u od gvs n1 avs n2 oc tups kvs H args goals c tc cal h tk I oI, i < 4 → oI.cls = .type "range_iterator" → u "count" = some (.int (c : Nat) tc) → u "called" = some (.bool cal) → LJ prog w (i + 3) od gvs avs oc tups kvs H args goals c lv cal →
        (∀ p ∈ tups, p.1 ≠ dd) → (∀ p ∈ tups, p.1 ≠ go) → (∀ p ∈ tups, p.1 ≠ ar) → (∀ p ∈ tups, p.1 ≠ co) → @Ne Nat dd I → @Ne Nat go I → @Ne Nat ar I → @Ne Nat co I → (∀ p ∈ tups, p.1 ≠ I) →
        Fr h₀ env.locals h (fun y => if y = x then some (.int (i : Int) t) else ovr ["way", "number", "count", "called", "part"] u m₀ y) → News h₀ env.locals h ((I, oI) :: (dd, od) :: (go, W.listOf gvs.toArray n1) :: (ar, W.listOf avs.toArray n2) :: (co, oc) :: tups) →
      wpAny (model prog w) A (execs body env) (TPostG h₀ env.locals [x, "way", "number", "count", "called", "part"] m₀ (J2 prog w dd go ar co lv (i + 1)) I oI { s with heap := h, toks := tk } Q) E { s with heap := h, toks := tk })
    (done : ∀ u od gvs n1 avs n2 oc tups kvs H args goals c tc cal h tk, u "count" = some (.int (c : Nat) tc) → u "called" = some (.bool cal) → LJ prog w 7 od gvs avs oc tups kvs H args goals c lv cal →
        (∀ p ∈ tups, p.1 ≠ dd) → (∀ p ∈ tups, p.1 ≠ go) → (∀ p ∈ tups, p.1 ≠ ar) → (∀ p ∈ tups, p.1 ≠ co) →
        Fr h₀ env.locals h (ovr [x, "way", "number", "count", "called", "part"] u m₀) → News h₀ env.locals h ((dd, od) :: (go, W.listOf gvs.toArray n1) :: (ar, W.listOf avs.toArray n2) :: (co, oc) :: tups) → Q .next { s with heap := h, toks := tk }) :
    wpAny (model prog w) A (pyIter (.ref r)) (fun it s₂ => LoopAtV prog w A h₀ env x body Q E it s₂) E s := by
  refine iter_rngG ["way", "number", "count", "called", "part"] (J2 prog w dd go ar co lv) hh hr (by omega) F N ⟨od, gvs, n1, avs, n2, oc, tups, kvs, H, args, goals, c, tc, cal, rfl, hm, hm2, j⟩ ?_ ?_
  · rintro i t u news₁ h tk I oI hi ha hI ⟨od, gvs, n1, avs, n2, oc, tups, kvs, H, args, goals, c, tc, cal, rfl, hc, hc2, j⟩ F₁ N₁
    obtain ⟨o1, o2, o3, o4⟩ := lj_off (dd := dd) (go := go) (ar := ar) (co := co) (n1 := n1) (n2 := n2) j (fun p hp => N₁ p (.tail _ hp))
    exact turn i t u od gvs n1 avs n2 oc tups kvs H args goals c tc cal h tk I oI (by omega) hI hc hc2 j o1 o2 o3 o4 (ha _ (.head _)) (ha _ (.tail _ (.head _))) (ha _ (.tail _ (.tail _ (.head _)))) (ha _ (.tail _ (.tail _ (.tail _ (.head _))))) (fun p hp => ha p (.tail _ (.tail _ (.tail _ (.tail _ hp))))) F₁ N₁
  · rintro u news₁ h tk ⟨od, gvs, n1, avs, n2, oc, tups, kvs, H, args, goals, c, tc, cal, rfl, hc, hc2, j⟩ F₁ N₁
    obtain ⟨o1, o2, o3, o4⟩ := lj_off (dd := dd) (go := go) (ar := ar) (co := co) (n1 := n1) (n2 := n2) j N₁
    exact done u od gvs n1 avs n2 oc tups kvs H args goals c tc cal h tk hc hc2 { j with ba := by have := j.ba; omega, bg := by have := j.bg; omega, bc := by have := j.bc; omega, bk := by have := j.bk; omega } o1 o2 o3 o4 F₁ N₁
end
/-- a tuple just made -/
def tup (l : List Value) (n : Nat) : Obj := { cls := .type "tuple", data := .seq l.toArray n }
theorem allTup_cons {a : Addr} {l : List Value} {n : Nat} {T : List (Addr × Obj)} (h : AllTup T) : AllTup ((a, tup l n) :: T) := fun p hp => by
  rcases List.mem_cons.mp hp with rfl | hp
  · rfl
  · exact h p hp
section
variable {prog : Program} {w : World} {B : Nat} {od oc oc' : Obj} {gvs avs : List Value} {tups : List (Addr × Obj)} {kvs : List (Int × Value)} {H : List (Int × Int)} {args : List Tm} {goals : List Gl} {c : Nat} {lv cal : Bool}
theorem LJ.mono_tm {T T' : List (Addr × Obj)} (h : ∀ p ∈ T, p ∈ T') {vs : List Value} {l : List Tm} (x : All2 (TmIn T) vs l) : All2 (TmIn T') vs l := by
  induction x with
  | nil => exact .nil
  | cons a _ ih => exact .cons (a.mono h) ih
theorem LJ.mono_gl {T T' : List (Addr × Obj)} (h : ∀ p ∈ T, p ∈ T') {vs : List Value} {l : List Gl} (x : All2 (GlIn T) vs l) : All2 (GlIn T') vs l := by
  induction x with
  | nil => exact .nil
  | cons a _ ih => exact .cons (a.mono h) ih
theorem LJ.addv (j : LJ prog w B od [] avs oc tups kvs H args [] c false false) {r : Nat} (hr : LtI (r : Int) ((c : Int) + 1)) (hok : CoinsOk oc') {od' : Obj} {T1 : Addr} {n1 : Nat} {t1 t2 t3 : Tok}
    (hd : od'.IsDictOf (intKind prog w) (stored kvs (r : Int) (.int (-1) t3))) :
    LJ prog w (B + 1) od' [] (avs ++ [.ref T1]) oc' ((T1, tup [.str "v" t1, .int (r : Int) t2] n1) :: tups) (stored kvs (r : Int) (.int (-1) t3)) (put H (r : Int) (-1)) (args ++ [.v r]) [] (max c (r + 1)) false false := by
  have hr2 : (r : Int) < (c : Int) + 1 := hr
  have hsub : ∀ p ∈ tups, p ∈ ((T1, tup [.str "v" t1, .int (r : Int) t2] n1) :: tups) := fun p hp => .tail _ hp
  refine { dict := hd, his := his_put j.his _ _ _, coins := hok, fargs := (LJ.mono_tm hsub j.fargs).append (.one ⟨T1, t1, t2, rfl, n1, .head _⟩), fgoals := .nil, good := good_argv j.good (by omega) (by omega), ftups := allTup_cons j.ftups, ba := ?_, bg := by simp, bc := ?_, bk := ?_ }
  · have := j.ba; rw [List.length_append, List.length_singleton]; omega
  · have := j.bc; omega
  · have := j.bk; have := stored_len kvs (r : Int) (.int (-1) t3); omega
theorem LJ.adds (j : LJ prog w B od [] avs oc tups kvs H args [] c false false) {r : Nat} (hr : LtI (r : Int) ((c : Int) + 1)) (hok : CoinsOk oc') {T1 T2 T3 T4 : Addr} {n1 n2 n3 n4 : Nat} {t1 t2 t3 t4 t5 : Tok} {y : Value} :
    LJ prog w (B + 1) od [] (avs ++ [.ref T4]) oc' ((T4, tup [.str "s" t5, y, .ref T3] n4) :: (T3, tup [.ref T1, .ref T2] n3) :: (T2, tup [.str "a" t3, .int 3 t4] n2) :: (T1, tup [.str "v" t1, .int (r : Int) t2] n1) :: tups) kvs H (args ++ [.s r]) [] (max c (r + 1)) false false := by
  have hr2 : (r : Int) < (c : Int) + 1 := hr
  refine { dict := j.dict, his := j.his, coins := hok, fargs := (LJ.mono_tm (fun p hp => .tail _ (.tail _ (.tail _ (.tail _ hp)))) j.fargs).append (.one ⟨T4, t5, y, T3, .ref T1, .ref T2, rfl, ⟨n4, .head _⟩, ⟨n3, .tail _ (.head _)⟩, ⟨T1, t1, t2, rfl, n1, .tail _ (.tail _ (.tail _ (.head _)))⟩, ⟨T2, t3, .int 3 t4, "a", rfl, .inl rfl, n2, .tail _ (.tail _ (.head _))⟩⟩), fgoals := .nil, good := good_args j.good (by omega) (by omega), ftups := allTup_cons (allTup_cons (allTup_cons (allTup_cons j.ftups))), ba := ?_, bg := by simp, bc := ?_, bk := ?_ }
  · have := j.ba; rw [List.length_append, List.length_singleton]; omega
  · have := j.bc; omega
  · have := j.bk; omega
end
section
variable {prog : Program} {w : World} {Q : Flow → Shared → Prop}
theorem end1 {h₀ h' : Heap} {L : Addr} {s₁ : Shared} {tk : Nat} {dd go ar co : Addr} {i : Nat} {od : Obj} {avs : List Value} {n1 n2 : Nat} {oc : Obj} {tups all : List (Addr × Obj)} {kvs H args} {c : Nat} {I : Addr} {oI : Obj} {names : List Str} {m₀ m' : Str → Option Value} {tc : Tok}
    (j : LJ prog w (i + 1) od [] avs oc tups kvs H args [] c false false) (F : Fr h₀ L h' m') (N : News h₀ L h' all) (hI : oI.cls = .type "range_iterator") (hz : ∀ z, z ∉ names → m' z = m₀ z) (hc : m' "count" = some (.int (c : Nat) tc))
    (hs : ∀ p ∈ ((I, oI) :: lnews dd go ar co od [] n1 avs n2 oc tups), p ∈ all) :
    TPostG h₀ L names m₀ (J1 prog w dd go ar co (i + 1)) I oI s₁ Q .next { s₁ with heap := h', toks := tk } := by
  obtain ⟨N2, ha⟩ := lj_news j N hI hs
  exact TPostG.next F N2 hz ha ⟨od, n1, avs, n2, oc, tups, kvs, H, args, c, tc, rfl, hc, j⟩
theorem end2 {h₀ h' : Heap} {L : Addr} {s₁ : Shared} {tk : Nat} {dd go ar co : Addr} {i : Nat} {od : Obj} {gvs avs : List Value} {n1 n2 : Nat} {oc : Obj} {tups all : List (Addr × Obj)} {kvs H args goals} {c : Nat} {lv cal : Bool} {I : Addr} {oI : Obj} {names : List Str} {m₀ m' : Str → Option Value} {tc : Tok}
    (j : LJ prog w (i + 1 + 3) od gvs avs oc tups kvs H args goals c lv cal) (F : Fr h₀ L h' m') (N : News h₀ L h' all) (hI : oI.cls = .type "range_iterator") (hz : ∀ z, z ∉ names → m' z = m₀ z) (hc : m' "count" = some (.int (c : Nat) tc)) (hc2 : m' "called" = some (.bool cal))
    (hs : ∀ p ∈ ((I, oI) :: lnews dd go ar co od gvs n1 avs n2 oc tups), p ∈ all) :
    TPostG h₀ L names m₀ (J2 prog w dd go ar co lv (i + 1)) I oI s₁ Q .next { s₁ with heap := h', toks := tk } := by
  obtain ⟨N2, ha⟩ := lj_news j N hI hs
  exact TPostG.next F N2 hz ha ⟨od, gvs, n1, avs, n2, oc, tups, kvs, H, args, goals, c, tc, cal, rfl, hc, hc2, j⟩
end
/-- where the level step ends -/
def LvEnd (prog : Program) (w : World) (h₀ : Heap) (L : Addr) (dd go ar co : Addr) (m₀ : Str → Option Value) (lv : Bool) (s₁ : Shared) (f : Flow) (s₂ : Shared) : Prop :=
  f = .next ∧ ∃ h' tk u od gvs n1 avs n2 oc tups kvs H args goals c tc, s₂ = { s₁ with heap := h', toks := tk } ∧ Fr h₀ L h' (ovr ["count"] u m₀) ∧ u "count" = some (.int (c : Nat) tc) ∧ News h₀ L h' (lnews dd go ar co od gvs n1 avs n2 oc tups) ∧ LJ prog w 3 od gvs avs oc tups kvs H args goals c lv false
section
variable {prog : Program} {w : World}
theorem lvEnd_of {h₀ h' : Heap} {L : Addr} {s₁ : Shared} {tk : Nat} {dd go ar co : Addr} {od : Obj} {gvs avs : List Value} {n1 n2 : Nat} {oc : Obj} {tups all : List (Addr × Obj)} {kvs H args goals} {c : Nat} {lv : Bool} {m₀ m' : Str → Option Value} {tc : Tok}
    (j : LJ prog w 3 od gvs avs oc tups kvs H args goals c lv false) (F : Fr h₀ L h' m') (N : News h₀ L h' all) (hz : ∀ z : Str, z ≠ ("count" : Str) → m' z = m₀ z) (hc : m' "count" = some (.int (c : Nat) tc))
    (hs : ∀ p ∈ lnews dd go ar co od gvs n1 avs n2 oc tups, p ∈ all) : LvEnd prog w h₀ L dd go ar co m₀ lv s₁ .next { s₁ with heap := h', toks := tk } := by
  have e : m' = ovr ["count"] m' m₀ := ovr_eq fun z h => hz z fun q => h (by simp [q])
  exact ⟨rfl, h', tk, m', od, gvs, n1, avs, n2, oc, tups, kvs, H, args, goals, c, tc, rfl, e ▸ F, hc, fun p hp => N p (hs p hp), j⟩
theorem LJ.same {B B' : Nat} {od oc : Obj} {gvs avs : List Value} {tups : List (Addr × Obj)} {kvs H args goals} {c : Nat} {lv cal : Bool} (j : LJ prog w B od gvs avs oc tups kvs H args goals c lv cal) (hB : B ≤ B') {oc' : Obj} (hok : CoinsOk oc') : LJ prog w B' od gvs avs oc' tups kvs H args goals c lv cal :=
  { j with coins := hok, ba := Nat.le_trans j.ba hB, bg := Nat.le_trans j.bg hB, bc := Nat.le_trans j.bc hB, bk := Nat.le_trans j.bk hB }
theorem LJ.level {od oc oc' : Obj} {avs : List Value} {tups : List (Addr × Obj)} {kvs H args} {c : Nat} (j : LJ prog w 2 od [] avs oc tups kvs H args [] c false false) (hok : CoinsOk oc') {od' : Obj} {T1 : Addr} {n1 : Nat} {t1 t2 t3 : Tok}
    (hd : od'.IsDictOf (intKind prog w) (stored kvs (c : Int) (.int 0 t3))) :
    LJ prog w 3 od' [.ref T1] avs oc' ((T1, tup [.str "level" t1, .int (c : Int) t2] n1) :: tups) (stored kvs (c : Int) (.int 0 t3)) (put H (c : Int) 0) args [.level c] (c + 1) true false := by
  refine { dict := hd, his := his_put j.his _ _ _, coins := hok, fargs := LJ.mono_tm (fun p hp => .tail _ hp) j.fargs, fgoals := .one ⟨T1, t1, t2, rfl, n1, .head _⟩, good := good_level j.good, ftups := allTup_cons j.ftups, ba := ?_, bg := by simp, bc := ?_, bk := ?_ }
  · have := j.ba; omega
  · have := j.bc; omega
  · have := j.bk; have := stored_len kvs (c : Int) (.int 0 t3); omega
theorem lv_step {M : Model} {A : Around} {E : Value → Shared → Prop} {Q : Flow → Shared → Prop} {s : Shared} {t : Sem Flow} {h₀ : Heap} {L : Addr} {dd go ar co : Addr} {od : Obj} {gvs avs : List Value} {n1 n2 : Nat} {oc : Obj} {tups : List (Addr × Obj)} {m₀ : Str → Option Value} (lv : Bool)
    (_F : Fr h₀ L s.heap m₀) (_N : News h₀ L s.heap ((dd, od) :: (go, W.listOf gvs.toArray n1) :: (ar, W.listOf avs.toArray n2) :: (co, oc) :: tups))
    (h1 : wpAny M A t (LvEnd prog w h₀ L dd go ar co m₀ lv s) E s)
    (h2 : ∀ u od gvs n1 avs n2 oc tups kvs H args goals c tc h' tk, u "count" = some (.int (c : Nat) tc) → LJ prog w 3 od gvs avs oc tups kvs H args goals c lv false →
        (∀ p ∈ tups, p.1 ≠ dd) → (∀ p ∈ tups, p.1 ≠ go) → (∀ p ∈ tups, p.1 ≠ ar) → (∀ p ∈ tups, p.1 ≠ co) →
        Fr h₀ L h' (ovr ["count"] u m₀) → News h₀ L h' ((dd, od) :: (go, W.listOf gvs.toArray n1) :: (ar, W.listOf avs.toArray n2) :: (co, oc) :: tups) → Q .next { s with heap := h', toks := tk }) : wpAny M A t Q E s := by
  refine wpAny_mono h1 ?_ fun _ _ e => e
  rintro f s₂ ⟨rfl, h', tk, u, od, gvs, n1, avs, n2, oc, tups, kvs, H, args, goals, c, tc, rfl, F, hc, N, j⟩
  obtain ⟨o1, o2, o3, o4⟩ := lj_off (dd := dd) (go := go) (ar := ar) (co := co) (n1 := n1) (n2 := n2) j N
  exact h2 u od gvs n1 avs n2 oc tups kvs H args goals c tc h' tk hc j o1 o2 o3 o4 F N
end
end Mine
end
/- LawM -/
noncomputable section
open PySem PySem.W PyProof.Rows
set_option maxRecDepth 100000
namespace Mine
section
variable {prog : Program} {w : World} {B : Nat} {od oc oc' : Obj} {gvs avs : List Value} {tups : List (Addr × Obj)} {kvs : List (Int × Value)} {H : List (Int × Int)} {args : List Tm} {goals : List Gl} {c : Nat} {lv cal : Bool}
/-- one goal more, the dict as it is -/
theorem LJ.more (j : LJ prog w B od gvs avs oc tups kvs H args goals c lv cal) (hok : CoinsOk oc') {q : Gl} {x : Value} {tups' : List (Addr × Obj)} {c' : Nat} {cal' : Bool} (hsub : ∀ p ∈ tups, p ∈ tups') (ht : AllTup tups') (hx : GlIn tups' x q)
    (G : Good args (goals ++ [q]) H c' lv cal') (hc : c' ≤ c + 1) : LJ prog w (B + 1) od (gvs ++ [x]) avs oc' tups' kvs H args (goals ++ [q]) c' lv cal' := by
  refine { dict := j.dict, his := j.his, coins := hok, fargs := LJ.mono_tm hsub j.fargs, fgoals := (LJ.mono_gl hsub j.fgoals).append (.one hx), good := G, ftups := ht, ba := ?_, bg := ?_, bc := ?_, bk := ?_ }
  · have := j.ba; omega
  · have := j.bg; rw [List.length_append, List.length_singleton]; omega
  · have := j.bc; omega
  · have := j.bk; omega
theorem LJ.mark (j : LJ prog w B od gvs avs oc tups kvs H args goals c lv cal) (hok : CoinsOk oc') {od' : Obj} {T1 : Addr} {n1 : Nat} {t1 t2 t3 : Tok}
    (hd : od'.IsDictOf (intKind prog w) (stored kvs (c : Int) (.int (gvs.length : Int) t3))) :
    LJ prog w (B + 1) od' (gvs ++ [.ref T1]) avs oc' ((T1, tup [.str "mark" t1, .int (c : Int) t2] n1) :: tups) (stored kvs (c : Int) (.int (gvs.length : Int) t3)) (put H (c : Int) (goals.length : Int)) args (goals ++ [.mark c]) (c + 1) lv cal := by
  have e := j.fgoals.length
  have hsub : ∀ p ∈ tups, p ∈ ((T1, tup [.str "mark" t1, .int (c : Int) t2] n1) :: tups) := fun p hp => .tail _ hp
  refine { dict := hd, his := by rw [← e]; exact his_put j.his _ _ _, coins := hok, fargs := LJ.mono_tm hsub j.fargs, fgoals := (LJ.mono_gl hsub j.fgoals).append (.one ⟨T1, t1, t2, rfl, n1, .head _⟩), good := good_mark j.good, ftups := allTup_cons j.ftups, ba := ?_, bg := ?_, bc := ?_, bk := ?_ }
  · have := j.ba; omega
  · have := j.bg; rw [List.length_append, List.length_singleton]; omega
  · have := j.bc; omega
  · have := j.bk; have := stored_len kvs (c : Int) (.int (gvs.length : Int) t3); omega
theorem LJ.cutto (j : LJ prog w B od gvs avs oc tups kvs H args goals c lv cal) (hok : CoinsOk oc') {n : Int} (hn : n ∈ kvs.map (·.1)) {T1 : Addr} {n1 : Nat} {t1 t2 : Tok} :
    LJ prog w (B + 1) od (gvs ++ [.ref T1]) avs oc' ((T1, tup [.str "cutto" t1, .int n t2] n1) :: tups) kvs H args (goals ++ [.cutto n]) c lv cal := by
  have hsome : ∃ jj, hget H n = some jj := by
    rcases his_get j.his n with ⟨_, h2⟩ | ⟨jj, _, h1, _⟩
    · have := valueAt_isSome kvs n
      rw [h2, decide_eq_true hn] at this; cases this
    · exact ⟨jj, h1⟩
  obtain ⟨jj, hj⟩ := hsome
  exact j.more hok (fun p hp => .tail _ hp) (allTup_cons j.ftups) ⟨T1, t1, t2, rfl, n1, .head _⟩ (good_cutto j.good hj) (Nat.le_succ _)
theorem LJ.cut (j : LJ prog w B od gvs avs oc tups kvs H args goals c lv false) (hok : CoinsOk oc') {T1 : Addr} {n1 : Nat} {t1 : Tok} :
    LJ prog w (B + 1) od (gvs ++ [.ref T1]) avs oc' ((T1, tup [.str "cut" t1] n1) :: tups) kvs H args (goals ++ [.cut]) c lv false :=
  j.more hok (fun p hp => .tail _ hp) (allTup_cons j.ftups) ⟨T1, t1, rfl, n1, .head _⟩ (good_cut j.good) (Nat.le_succ _)
theorem LJ.fail (j : LJ prog w B od gvs avs oc tups kvs H args goals c lv cal) (hok : CoinsOk oc') {T1 : Addr} {n1 : Nat} {t1 : Tok} :
    LJ prog w (B + 1) od (gvs ++ [.ref T1]) avs oc' ((T1, tup [.str "fail" t1] n1) :: tups) kvs H args (goals ++ [.fail]) c lv cal :=
  j.more hok (fun p hp => .tail _ hp) (allTup_cons j.ftups) ⟨T1, t1, rfl, n1, .head _⟩ (good_fail j.good) (Nat.le_succ _)
/-- a part just made -/
structure Part (tups T : List (Addr × Obj)) (e : Value) (r : Nat) (p : Tm) : Prop where
  sub : ∀ q ∈ tups, q ∈ T
  all : AllTup T
  tm : TmIn T e p
  vars : flatV p = [(r : Int)]
theorem Part.one {tups T : List (Addr × Obj)} {e : Value} {r : Nat} {p : Tm} (P : Part tups T e r p) : (flatV p ++ []).foldl Mine.addv [] = [(r : Int)] := by
  rw [P.vars]; exact addv_out (r := []) (List.not_mem_nil)
theorem Part.one2 {tups T : List (Addr × Obj)} {e : Value} {r : Nat} {p : Tm} (P : Part tups T e r p) : (flatV p ++ (flatV .c ++ [])).foldl Mine.addv [] = [(r : Int)] := by
  rw [P.vars]; exact addv_out (r := []) (List.not_mem_nil)
theorem part_v {T1 : Addr} {n1 r : Nat} {t1 t2 : Tok} (h : AllTup tups) : Part tups ((T1, tup [.str "v" t1, .int (r : Int) t2] n1) :: tups) (.ref T1) r (.v r) :=
  ⟨fun q hq => .tail _ hq, allTup_cons h, ⟨T1, t1, t2, rfl, n1, .head _⟩, rfl⟩
theorem part_s {T1 T2 T3 T4 : Addr} {n1 n2 n3 n4 r : Nat} {t1 t2 t3 t5 : Tok} {y z : Value} (h : AllTup tups) :
    Part tups ((T4, tup [.str "s" t5, y, .ref T3] n4) :: (T3, tup [.ref T1, .ref T2] n3) :: (T2, tup [.str "i" t3, z] n2) :: (T1, tup [.str "v" t1, .int (r : Int) t2] n1) :: tups) (.ref T4) r (.s r) :=
  ⟨fun q hq => .tail _ (.tail _ (.tail _ (.tail _ hq))), allTup_cons (allTup_cons (allTup_cons (allTup_cons h))),
   ⟨T4, t5, y, T3, .ref T1, .ref T2, rfl, ⟨n4, .head _⟩, ⟨n3, .tail _ (.head _)⟩, ⟨T1, t1, t2, rfl, n1, .tail _ (.tail _ (.tail _ (.head _)))⟩, ⟨T2, t3, z, "i", rfl, .inr rfl, n2, .tail _ (.tail _ (.head _))⟩⟩, rfl⟩
theorem LJ.call {T : List (Addr × Obj)} {e : Value} {r : Nat} {p : Tm} (j : LJ prog w B od gvs avs oc tups kvs H args goals c lv cal) (hok : CoinsOk oc') (hr : LtI (r : Int) ((c : Int) + 1)) (P : Part tups T e r p) {T1 T2 : Addr} {n1 n2 : Nat} {t1 : Tok} {y : Value} :
    LJ prog w (B + 1) od (gvs ++ [.ref T2]) avs oc' ((T2, tup [.str "call" t1, y, .ref T1] n2) :: (T1, tup [e] n1) :: T) kvs H args (goals ++ [.call p]) (max c (r + 1)) lv true := by
  have hr2 : (r : Int) < (c : Int) + 1 := hr
  have G := good_term (q := .call p) (n := r) j.good (by omega) (by omega) (fun _ _ => rfl) rfl rfl rfl (P.one)
  refine j.more hok (fun q hq => .tail _ (.tail _ (P.sub q hq))) (allTup_cons (allTup_cons P.all)) ⟨T2, t1, y, T1, e, rfl, ⟨n2, .head _⟩, ⟨n1, .tail _ (.head _)⟩, TmIn.mono (fun q hq => .tail _ (.tail _ hq)) P.tm⟩ (by simpa [isCall] using G) (by omega)
theorem LJ.builtin {T : List (Addr × Obj)} {e : Value} {r : Nat} {p : Tm} (j : LJ prog w B od gvs avs oc tups kvs H args goals c lv cal) (hok : CoinsOk oc') (hr : LtI (r : Int) ((c : Int) + 1)) (P : Part tups T e r p) {T1 T2 T3 : Addr} {n1 n2 n3 : Nat} {t1 t2 : Tok} {y z : Value} :
    LJ prog w (B + 1) od (gvs ++ [.ref T3]) avs oc' ((T3, tup [.str "builtin" t1, y, .ref T2] n3) :: (T2, tup [.ref T1, e] n2) :: (T1, tup [.str "a" t2, z] n1) :: T) kvs H args (goals ++ [.builtin p]) (max c (r + 1)) lv cal := by
  have hr2 : (r : Int) < (c : Int) + 1 := hr
  have G := good_term (q := .builtin p) (n := r) j.good (by omega) (by omega) (fun _ _ => rfl) rfl rfl rfl (P.one)
  refine j.more hok (fun q hq => .tail _ (.tail _ (.tail _ (P.sub q hq)))) (allTup_cons (allTup_cons (allTup_cons P.all))) ⟨T3, t1, y, T2, .ref T1, e, rfl, ⟨n3, .head _⟩, ⟨n2, .tail _ (.head _)⟩, ⟨T1, t2, z, "a", rfl, .inl rfl, n1, .tail _ (.tail _ (.head _))⟩, TmIn.mono (fun q hq => .tail _ (.tail _ (.tail _ hq))) P.tm⟩ (by simpa [isCall] using G) (by omega)
theorem LJ.unify {T : List (Addr × Obj)} {e : Value} {r : Nat} {p : Tm} (j : LJ prog w B od gvs avs oc tups kvs H args goals c lv cal) (hok : CoinsOk oc') (hr : LtI (r : Int) ((c : Int) + 1)) (P : Part tups T e r p) {T1 T2 : Addr} {n1 n2 : Nat} {t1 t2 : Tok} {z : Value} :
    LJ prog w (B + 1) od (gvs ++ [.ref T2]) avs oc' ((T2, tup [.str "unify" t1, e, .ref T1] n2) :: (T1, tup [.str "a" t2, z] n1) :: T) kvs H args (goals ++ [.unify p]) (max c (r + 1)) lv cal := by
  have hr2 : (r : Int) < (c : Int) + 1 := hr
  have G := good_term (q := .unify p) (n := r) j.good (by omega) (by omega) (fun _ _ => rfl) rfl rfl rfl (P.one2)
  refine j.more hok (fun q hq => .tail _ (.tail _ (P.sub q hq))) (allTup_cons (allTup_cons P.all)) ⟨T2, t1, e, .ref T1, rfl, ⟨n2, .head _⟩, TmIn.mono (fun q hq => .tail _ (.tail _ hq)) P.tm, ⟨T1, t2, z, "a", rfl, .inl rfl, n1, .tail _ (.head _)⟩⟩ (by simpa [isCall] using G) (by omega)
end
/-- a part reckoned: one path goes on -/
def PartEnd (h₀ : Heap) (L : Addr) (m : Str → Option Value) (I dd go ar co : Addr) (oI od : Obj) (gvs : List Value) (n1 : Nat) (avs : List Value) (n2 : Nat) (tups : List (Addr × Obj)) (r : Nat) (s : Shared) (v : Value) (s' : Shared) : Prop :=
  ∃ h' tk oc p T, s' = { s with heap := h', toks := tk } ∧ CoinsOk oc ∧ Part tups T v r p ∧ Fr h₀ L h' m ∧ News h₀ L h' ((I, oI) :: lnews dd go ar co od gvs n1 avs n2 oc T)
section
variable {h₀ h' : Heap} {L I dd go ar co : Addr} {m : Str → Option Value} {oI od oc : Obj} {gvs avs : List Value} {n1 n2 r : Nat} {tups T all : List (Addr × Obj)} {s : Shared}
theorem PartEnd.intro {p : Tm} {v : Value} {tk : Nat} (hok : CoinsOk oc) (P : Part tups T v r p) (F : Fr h₀ L h' m) (N : News h₀ L h' all) (hs : ∀ q ∈ ((I, oI) :: lnews dd go ar co od gvs n1 avs n2 oc T), q ∈ all) :
    PartEnd h₀ L m I dd go ar co oI od gvs n1 avs n2 tups r s v { s with heap := h', toks := tk } := ⟨h', tk, oc, p, T, rfl, hok, P, F, fun q hq => N q (hs q hq)⟩
theorem join_part {prog : Program} {w : World} {B : Nat} {oc₀ : Obj} {kvs H args goals} {c : Nat} {lv cal : Bool} {M : Model} {A : Around} {E : Value → Shared → Prop} {Q : Value → Shared → Prop} {t : Sem Value} {k : Int}
    (j : LJ prog w B od gvs avs oc₀ tups kvs H args goals c lv cal) (hI : oI.cls = .type "range_iterator") (_hr : LtI (r : Int) k) (_F : Fr h₀ L s.heap m) (_N : News h₀ L s.heap ((I, oI) :: (dd, od) :: (go, W.listOf gvs.toArray n1) :: (ar, W.listOf avs.toArray n2) :: (co, oc) :: tups))
    (h1 : wpAny M A t (PartEnd h₀ L m I dd go ar co oI od gvs n1 avs n2 tups r s) E s)
    (h2 : ∀ e p T oc h' tk, Part tups T e r p → CoinsOk oc → (∀ p ∈ T, p.1 ≠ dd) → (∀ p ∈ T, p.1 ≠ go) → (∀ p ∈ T, p.1 ≠ ar) → (∀ p ∈ T, p.1 ≠ co) → (∀ p ∈ T, p.1 ≠ I) →
      Fr h₀ L h' m → News h₀ L h' ((I, oI) :: (dd, od) :: (go, W.listOf gvs.toArray n1) :: (ar, W.listOf avs.toArray n2) :: (co, oc) :: T) → Q e { s with heap := h', toks := tk }) : wpAny M A t Q E s := by
  refine wpAny_mono h1 ?_ fun _ _ e => e
  rintro e s' ⟨h', tk, oc, p, T, rfl, hok, P, F, N⟩
  have hs : ∀ q ∈ T, q ∈ ((I, oI) :: lnews dd go ar co od gvs n1 avs n2 oc T) := fun q hq => .tail _ (.tail _ (.tail _ (.tail _ (.tail _ hq))))
  have hl : ∀ (l : Array Value) n, (W.listOf l n).cls = .type "list" := fun _ _ => rfl
  refine h2 e p T oc h' tk P hok (off_tups N (.tail _ (.head _)) hs P.all ?_) (off_tups N (.tail _ (.tail _ (.head _))) hs P.all ?_) (off_tups N (.tail _ (.tail _ (.tail _ (.head _)))) hs P.all ?_) (off_tups N (.tail _ (.tail _ (.tail _ (.tail _ (.head _))))) hs P.all ?_) (off_tups N (.head _) hs P.all ?_) F N
  · rw [dict_cls j.dict]; decide
  · rw [hl]; decide
  · rw [hl]; decide
  · rw [coins_cls hok]; decide
  · rw [hI]; decide
end
end Mine
end
/- Srt -/
noncomputable section
open PySem PySem.W PyProof.Rows
set_option maxRecDepth 100000
namespace Mine
section
variable {prog : Program} {w : World} {A : Around} {E : Value → Shared → Prop} {s : Shared} {h₀ : Heap} {L d : Addr} {m : Str → Option Value} {news : List (Addr × Obj)} {od : Obj} {kvs : List (Int × Value)}
theorem ints_keys : ∀ {vs : List Value} {ks : List Int}, vs.length = ks.length → (∀ (j : Nat) (v : Value), vs[j]? = some v → ∃ k, ks[j]? = some k ∧ ∃ t, v = .int k t) → IntsAre vs ks
  | [], [], _, _ => .nil
  | [], _ :: _, h, _ => by simp at h
  | _ :: _, [], h, _ => by simp at h
  | v :: vs, k :: ks, h, hv => by
    obtain ⟨k', hk, t, rfl⟩ := hv 0 v rfl
    have e : k = k' := by simpa using hk
    subst e
    exact .cons k t (ints_keys (by simpa using h) fun j v hj => hv (j + 1) v hj)
theorem sorted_keys {Q : Value → Shared → Prop} (hh : A.handled = none) (F : Fr h₀ L s.heap m) (N : News h₀ L s.heap news) (hm : (d, od) ∈ news) (hd : od.IsDictOf (intKind prog w) kvs) (lo : (d == sysModules) = false) (hz : kvs.length < 64)
    (h : ∀ D vs' ns' c h' tk, Fr h₀ L h' m → News h₀ L h' ((D, W.listOf vs'.toArray c) :: news) → (∀ q ∈ news, q.1 < D) → IntsAre vs' ns' → ns'.Perm (kvs.map (·.1)) → Q (.ref D) { s with heap := h', toks := tk }) :
    wpAny (model prog w) A (call (.builtin "sorted") [.ref d]) Q E s := by
  obtain ⟨ep, hat⟩ := (Heap.dictOf_iff.mpr ⟨od, (N _ hm).1, hd⟩ : s.heap.DictOf (intKind prog w) d kvs).dictAt
  refine kdu_sorted (kdl_dict (knd := intKind prog w) (kvs := kvs) (ep := ep) lo) hh F N hat (kdl_size (by omega)) fun D h' tk vs F' N' l1 hl hv => ?_
  have hi : IntsAre vs (kvs.map (·.1)) := ints_keys (by simpa using hl) fun j v e => by
    obtain ⟨k, x, hx, hk⟩ := hv j v e
    obtain ⟨t, rfl⟩ := Value.isInt_shape hk
    exact ⟨k, by rw [List.getElem?_map, hx]; rfl, t, rfl⟩
  have hne : ∀ p ∈ news, p.1 ≠ D := fun p hp => Nat.ne_of_lt (l1 p hp)
  refine ksk_lsort (news' := fun o => (D, o) :: news) F' N' (fun o => .head hne) (ksk_tl vs) hi (by simpa using hz) fun vs' ns' c h'' F'' N'' hi' _ hp _ _ => ?_

  exact h D vs' ns' c h'' tk F'' N'' l1 hi' hp
theorem ne_empty {Q : Value → Shared → Prop} {e : Addr} {oe : Obj} (N : News h₀ L s.heap news) (hm : (d, od) ∈ news) (he : (e, oe) ∈ news) (hd : od.IsDictOf (intKind prog w) kvs) (hde : oe.IsDictOf (intKind prog w) []) (lo : (d == sysModules) = false) (le : (e == sysModules) = false) (hu : A.units < cLine)
    (h0 : kvs = [] → Q (.bool false) s) (h1 : 0 < kvs.length → Q (.bool true) s) : wpAny (model prog w) A (compareOp .NotEq (.ref d) (.ref e)) Q E s := by
  refine keq_ne (r := true) lo le (Heap.dictOf_iff.mpr ⟨od, (N _ hm).1, hd⟩) (Heap.dictOf_iff.mpr ⟨oe, (N _ he).1, hde⟩) hu (fun q => ?_) ?_
  · have : kvs = [] := List.eq_nil_of_length_eq_zero (by simpa using q)
    rw [this]; exact .nil
  · cases kvs with
    | nil => exact h0 rfl
    | cons a r => exact h1 (Nat.succ_pos _)
theorem pick_key {Q : Value → Shared → Prop} {value slice : PySem.Expr} {l : Addr} {vs : List Value} {ns : List Int} {n r : Nat} {u : Tok} (N : News h₀ L s.heap news) (hm : (l, W.listOf vs.toArray n) ∈ news) (hi : IntsAre vs ns) (hp : ns.Perm (kvs.map (·.1))) (hr : (r : Int) < (kvs.length : Int)) (hz : kvs.length < 64)
    (h : ∀ x t, x ∈ kvs.map (·.1) → Q (.int x t) s)
    (hs : subscripted slice false (.ref l) (.int (r : Int) u) = operate [.ref l, .int (r : Int) u] (getItem (.ref l) (.int (r : Int) u)) := by with_unfolding_all rfl) :
    wpAny (model prog w) A (subscriptTail value slice (.ref l) (.int (r : Int) u)) Q E s := by
  have hl : ns.length = kvs.length := by rw [hp.length_eq, List.length_map]
  have hlt : r < ns.length := by omega
  obtain ⟨t, ht⟩ := hi.get r ns[r] (List.getElem?_eq_getElem hlt)
  have hin : ns[r] ∈ kvs.map (·.1) := hp.mem_iff.mp (List.getElem_mem hlt)
  exact item_litK (News.isL N hm) (Int.natCast_nonneg r) (by omega) (by simpa using ht) (h _ t hin) hs
theorem pick3 {Q : Value → Shared → Prop} {value slice : PySem.Expr} {l : Addr} {x0 x1 x2 : Value} {n r : Nat} {u : Tok} (N : News h₀ L s.heap news) (hm : (l, W.listOf #[x0, x1, x2] n) ∈ news) (h2 : 2 ≤ r) (h5 : (r : Int) < 5)
    (q0 : (r : Int) = 2 → Q x0 s) (q1 : (r : Int) = 3 → Q x1 s) (q2 : (r : Int) = 4 → Q x2 s)
    (hs : subscripted slice false (.ref l) (.int ((r : Int) - 2) u) = operate [.ref l, .int ((r : Int) - 2) u] (getItem (.ref l) (.int ((r : Int) - 2) u)) := by with_unfolding_all rfl) :
    wpAny (model prog w) A (subscriptTail value slice (.ref l) (.int ((r : Int) - 2) u)) Q E s := by
  have hl : s.heap.IsList l [x0, x1, x2].toArray := News.isL N hm
  have hc : r = 2 ∨ r = 3 ∨ r = 4 := by omega
  rcases hc with e | e | e
  · subst e; exact item_litK hl (by decide) (by decide) rfl (q0 rfl) hs
  · subst e; exact item_litK hl (by decide) (by decide) rfl (q1 rfl) hs
  · subst e; exact item_litK hl (by decide) (by decide) rfl (q2 rfl) hs
end
end Mine
end
/- Seqs -/
noncomputable section
open PySem PySem.W PyProof.Rows
set_option maxRecDepth 100000
namespace Mine
section
variable {prog : Program} {w : World} {A : Around} {E : Value → Shared → Prop} {s : Shared} {h₀ : Heap} {L a b l : Addr} {m : Str → Option Value} {news : List (Addr × Obj)} {n n' : Nat} {vs ws : List Value} {Q : Value → Shared → Prop} {value slice : PySem.Expr}
theorem eq_nil (N : News h₀ L s.heap news) (ha : (a, W.listOf vs.toArray n) ∈ news) (hb : (b, W.listOf ([] : List Value).toArray n') ∈ news) (hu : A.units < cLine) (r : Bool) (hr : vs.isEmpty = r) (h : Q (.bool r) s) :
    wpAny (model prog w) A (compareOp .Eq (.ref a) (.ref b)) Q E s := by
  cases vs with
  | nil =>
    have e : r = true := hr.symm
    subst e
    exact SeqAt.eq_listAt (e := fun _ => true) (News.isL N ha) (News.isL N hb) rfl hu (fun j h1 => absurd h1 (Nat.not_lt_zero _)) h
  | cons v r' =>
    have e : r = false := hr.symm
    subst e
    exact SeqAt.eq_list_lengthsAt (News.isL N ha) (News.isL N hb) (by simp) hu h
theorem pick_upto (k : Nat) : slicePick vs.toArray none (some (k : Int)) none = (vs.take k).toArray := by
  have e : sliceBounds none (some (k : Int)) none vs.toArray.size = (((0 : Nat) : Int), ((min k vs.toArray.size : Nat) : Int), 1) := by
    simp only [sliceBounds, Option.getD_none, show (1 : Int) > 0 by decide, if_true, if_neg (show ¬ ((k : Int) < 0) by omega)]
    congr 1
    congr 1
    omega
  rw [kmk_pick_nat _ e]
  show ((vs.drop 0).take (min k vs.toArray.size - 0)).toArray = _
  rw [List.drop_zero, Nat.sub_zero, List.size_toArray, kmk_take_min]
theorem pick_from (k : Nat) : slicePick vs.toArray (some (k : Int)) none none = (vs.drop k).toArray := by
  have e : sliceBounds (some (k : Int)) none none vs.toArray.size = (((min k vs.toArray.size : Nat) : Int), ((vs.toArray.size : Nat) : Int), 1) := by
    simp only [sliceBounds, Option.getD_none, show (1 : Int) > 0 by decide, if_true, if_neg (show ¬ ((k : Int) < 0) by omega)]
    congr 1
    omega
  rw [kmk_pick_nat _ e]
  show ((vs.drop (min k vs.toArray.size)).take (vs.toArray.size - min k vs.toArray.size)).toArray = _
  rw [List.size_toArray, kmk_drop_min, List.take_of_length_le (by rw [List.length_drop]; omega)]
theorem cut_upto {k : Nat} {t : Tok} (F : Fr h₀ L s.heap m) (N : News h₀ L s.heap news) (hm : (l, W.listOf vs.toArray n) ∈ news) (hz : vs.length ≤ 1000000)
    (h : ∀ D h', Fr h₀ L h' m → News h₀ L h' ((D, W.listOf (vs.take k).toArray 0) :: news) → (∀ p ∈ news, p.1 < D) → Q (.ref D) { s with heap := h' })
    (hs : subscripted slice false (.ref l) (.ref s.heap.objs.size) = operate [.ref s.heap.objs.size, .ref l] (getItem (.ref l) (.ref s.heap.objs.size))) (ht : ∀ r, letTemporaryGo value (.ref l) r = pure ()) :
    wpAny (model prog w) A (subscriptTail value slice (.ref l) (.ref s.heap.objs.size)) Q E { s with heap := s.heap.push { cls := .type "slice", data := .fields #[.none, .int (k : Int) t, .none] } } := by
  refine kmk_slice F N (News.isL N hm) .none (.int _ _) (fun D h' F' N' l1 => ?_) hs ht (by rw [sizeLine_eq, List.size_toArray]; omega)
  rw [pick_upto] at N'
  exact h D h' F' N' l1
theorem cut_from {k : Nat} {t : Tok} (F : Fr h₀ L s.heap m) (N : News h₀ L s.heap news) (hm : (l, W.listOf vs.toArray n) ∈ news) (hz : vs.length ≤ 1000000)
    (h : ∀ D h', Fr h₀ L h' m → News h₀ L h' ((D, W.listOf (vs.drop k).toArray 0) :: news) → (∀ p ∈ news, p.1 < D) → Q (.ref D) { s with heap := h' })
    (hs : subscripted slice false (.ref l) (.ref s.heap.objs.size) = operate [.ref s.heap.objs.size, .ref l] (getItem (.ref l) (.ref s.heap.objs.size))) (ht : ∀ r, letTemporaryGo value (.ref l) r = pure ()) :
    wpAny (model prog w) A (subscriptTail value slice (.ref l) (.ref s.heap.objs.size)) Q E { s with heap := s.heap.push { cls := .type "slice", data := .fields #[.int (k : Int) t, .none, .none] } } := by
  refine kmk_slice F N (News.isL N hm) (.int _ _) .none (fun D h' F' N' l1 => ?_) hs ht (by rw [sizeLine_eq, List.size_toArray]; omega)
  rw [pick_from] at N'
  exact h D h' F' N' l1
theorem add_L (F : Fr h₀ L s.heap m) (N : News h₀ L s.heap news) (ha : (a, W.listOf vs.toArray n) ∈ news) (hb : (b, W.listOf ws.toArray n') ∈ news) (hz : vs.length ≤ 1000000) (hz2 : ws.length ≤ 1000000)
    (h : ∀ D h', Fr h₀ L h' m → News h₀ L h' ((D, W.listOf (vs ++ ws).toArray 0) :: news) → (∀ p ∈ news, p.1 < D) → Q (.ref D) { s with heap := h' }) :
    wpAny (model prog w) A (binaryOp .Add (.ref a) (.ref b)) Q E s :=
  kmk_add_lit F N (its := vs.toArray) (its2 := ws.toArray) (News.isL N ha) (News.isL N hb) (by simp) h (by rw [sizeLine_eq]; simp; omega)
end
end Mine
end
/- Cmp -/
noncomputable section
open PySem PySem.W PyProof.Rows
set_option maxRecDepth 100000
namespace Mine
theorem glIn_head {T : List (Addr × Obj)} {v : Value} : ∀ {q : Gl}, GlIn T v q → ∃ a t r, v = .ref a ∧ TIn T a (.str (gKind q) t :: r)
  | .level _, ⟨a, t, u, e, e1⟩ => ⟨a, t, _, e, e1⟩
  | .mark _, ⟨a, t, u, e, e1⟩ => ⟨a, t, _, e, e1⟩
  | .cutto _, ⟨a, t, u, e, e1⟩ => ⟨a, t, _, e, e1⟩
  | .cut, ⟨a, t, e, e1⟩ => ⟨a, t, _, e, e1⟩
  | .fail, ⟨a, t, e, e1⟩ => ⟨a, t, _, e, e1⟩
  | .call _, ⟨a, t, y, b, e, h1, h2, _⟩ => ⟨a, t, _, h1, h2⟩
  | .builtin _, ⟨a, t, y, b, x1, x2, h1, h2, _⟩ => ⟨a, t, _, h1, h2⟩
  | .unify _, ⟨a, t, x1, x2, h1, h2, _⟩ => ⟨a, t, _, h1, h2⟩
theorem tin_eq {h₀ h : Heap} {L : Addr} {news T : List (Addr × Obj)} (N : News h₀ L h news) (hs : ∀ p ∈ T, p ∈ news) {a : Addr} {l l' : List Value} (x : TIn T a l) (y : TIn T a l') : l = l' := by
  obtain ⟨n, x⟩ := x
  obtain ⟨n', y⟩ := y
  have h1 := (N _ (hs _ x)).1
  have h2 := (N _ (hs _ y)).1
  have h3 := Option.some.inj (h1.symm.trans h2)
  simpa using congrArg Obj.data h3 |> fun e => (Data.seq.inj e).1
theorem glIn_call {h₀ h : Heap} {L : Addr} {news T : List (Addr × Obj)} (N : News h₀ L h news) (hs : ∀ p ∈ T, p ∈ news) {v : Value} {q q' : Gl} (x : GlIn T v q) (y : GlIn T v q') : isCall q = isCall q' := by
  obtain ⟨a, t, r, rfl, x1⟩ := glIn_head x
  obtain ⟨a', t', r', e, y1⟩ := glIn_head y
  cases e
  have h1 := tin_eq N hs x1 y1
  have h2 : gKind q = gKind q' := by
    have := (List.cons.inj h1).1
    injection this
  rw [← gKind_call, ← gKind_call, h2]
open Classical in
noncomputable def callIn (T : List (Addr × Obj)) (v : Value) : Bool := decide (∃ q, GlIn T v q ∧ isCall q = true)
theorem callIn_eq {h₀ h : Heap} {L : Addr} {news T : List (Addr × Obj)} (N : News h₀ L h news) (hs : ∀ p ∈ T, p ∈ news) {v : Value} {q : Gl} (x : GlIn T v q) : callIn T v = isCall q := by
  unfold callIn
  cases e : isCall q with
  | true => exact @decide_eq_true _ (_) ⟨q, x, e⟩
  | false => exact @decide_eq_false _ (_) fun ⟨q', y, e'⟩ => by rw [glIn_call N hs x y, e'] at e; cases e
theorem filter_empty {T : List (Addr × Obj)} {h₀ h : Heap} {L : Addr} {news : List (Addr × Obj)} (N : News h₀ L h news) (hs : ∀ p ∈ T, p ∈ news) {vs : List Value} {gs : List Gl} (hg : All2 (GlIn T) vs gs) : (vs.filter (callIn T)).isEmpty = !gs.any isCall := by
  induction hg with
  | nil => rfl
  | @cons a b l m x _ ih =>
    rw [List.filter_cons, callIn_eq N hs x, List.any_cons]
    cases isCall b with
    | true => rfl
    | false => simpa using ih
theorem paired_empty {F : Value → Value → Prop} {l m : List Value} (h : Paired F l m) : m.isEmpty = l.isEmpty := by cases h <;> rfl
section
variable {prog : Program} {w : World} {A : Around} {E : Value → Shared → Prop} {s : Shared} {h₀ : Heap} {m : Str → Option Value} {env : Env} {news : List (Addr × Obj)}
theorem comp_calls {elt iter ct : PySem.Expr} {x y : Str} {px py : Pos} {scope : Scope} {cl : List (Str × Addr)} {pos spos : Pos} {Q : Flow → Shared → Prop} {T : List (Addr × Obj)} {ax : Addr} {n : Nat} {vs : List Value} {gs : List Gl}
    (hh : A.handled = none) (F : Fr h₀ env.locals s.heap m) (N : News h₀ env.locals s.heap news) (hm : (ax, W.listOf vs.toArray n) ∈ news) (hT : ∀ p ∈ T, p ∈ news) (hg : All2 (GlIn T) vs gs) (hz : vs.length ≤ 1000000)
    (hsw : swapsWith (.ListComp elt [⟨.Name x px, iter, [ct], 0⟩] scope pos) (some (.Name y py)) spos.line env = pure true) (hclos : closureFor scope env = pure cl) (hcell : ∀ z ∈ scope.names, z.2 ≠ .cell) (hkind : scope.kind = .function)
    (hnames : ∀ z ∈ scope.names, z.2 = .local → scope.names.lookup z.1 = some .local) (hx : scope.names.lookup x = some .local)
    (hy : env.kindOf y = some .local) (hp : (env.scope.kind == .class || (env.scope.kind == .module && env.locals != env.globals)) = false)
    (hs : ∀ x, foldedSetIterable iter env x = pure x)
    (hiter : ∀ Q' : Value → Shared → Prop, Q' (.ref ax) s → wpAny (model prog w) A (eval iter env) Q' E s)
    (test : ∀ C q a t r s₃ (mc : Str → Option Value) (E' : Value → Shared → Prop), IsTup s₃.heap a (Value.str (gKind q) t :: r).toArray → Fr h₀ C s₃.heap (fun z => if z = x then some (.ref a) else mc z) →
      wpAny (model prog w) A (isTrue ct (compEnvC scope cl C env) (eval ct (compEnvC scope cl C env))) (fun ok s₄ => ok = (gKind q == ("call" : Str)) ∧ PySem.Keeps s₃ s₄) E' s₃)
    (el : ∀ C v s₃ (mc : Str → Option Value) (E' : Value → Shared → Prop), Fr h₀ C s₃.heap (fun z => if z = x then some v else mc z) → wpAny (model prog w) A (eval elt (compEnvC scope cl C env)) (fun _ s₄ => PySem.Keeps s₃ s₄) E' s₃)
    (done : ∀ D n' (ys : List Value) h' tk, Fr h₀ env.locals h' (fun z => if z = y then some (.ref D) else m z) → News h₀ env.locals h' ((D, W.listOf ys.toArray n') :: news) → ys.isEmpty = (!gs.any isCall) → (∀ p ∈ news, @Ne Nat p.1 D) → Q .next { s with heap := h', toks := tk }) :
    wpAny (model prog w) A (exec (.Assign [.Name y py] (.ListComp elt [⟨.Name x px, iter, [ct], 0⟩] scope pos) spos) env) Q E s := by
  refine wpAny_Assign_ListComp_free (callIn T) (fun _ _ => True) hsw hclos hcell hkind hnames hx hy hp (hiter _ ?_) hs
  have hl := News.isL N hm
  have hlt : ax < s.heap.objs.size := Heap.lt_size (N _ hm).1
  have up : ∀ (s₃ : Shared), (∀ b o, b ∉ [s.heap.objs.size] → (s.heap.push { cls := .type "list_iterator", data := .fields #[.ref ax, .int 0 0] }).get? b = some o → s₃.heap.get? b = some o) → ∀ b o, s.heap.get? b = some o → s₃.heap.get? b = some o :=
    fun s₃ hk b o e => hk b o (fun hm => by rcases List.mem_cons.mp hm with rfl | hm; exact Nat.lt_irrefl _ (Heap.lt_size e); cases hm) (Heap.get?_push_of_some _ e)
  have frC : ∀ (C : Addr) (s₃ : Shared) (mc : Str → Option Value), (s.heap.push { cls := .type "list_iterator", data := .fields #[.ref ax, .int 0 0] }).objs.size ≤ C → s₃.heap.Ns C mc → (∀ b o, s.heap.get? b = some o → s₃.heap.get? b = some o) → Fr h₀ C s₃.heap mc :=
    fun C s₃ mc hC hn hk => ⟨hn, fun b o e => hk b o (F.keep b o e), by
      have h1 := F.above
      have h2 := F.ns.lt
      rw [Heap.size_push] at hC
      exact Nat.le_trans h1 (Nat.le_trans (Nat.le_of_lt h2) (Nat.le_of_succ_le hC))⟩
  have same : ∀ {mc : Str → Option Value} {v : Value}, mc x = some v → mc = fun z => if z = x then some v else mc z := fun e => by
    funext z; by_cases hz : z = x
    · rw [if_pos hz, hz, e]
    · rw [if_neg hz]
  refine wpAny_pyIter_list hl ⟨s.heap.objs.size, [s.heap.objs.size, ax], [s.heap.objs.size], vs.toArray.size, _, _, m, rfl, Walks.list hh _ _ (Nat.ne_of_lt hlt) vs.toArray, (by rw [sizeLine_eq, List.size_toArray]; omega), ⟨⟨_, Heap.get?_push_size _ rfl, rfl, rfl⟩, hl.push _⟩, ?_, ?_, F.ns.push _, ⟨?_, ?_⟩, ?_⟩
  · intro b hb
    show b < (s.heap.push _).objs.size
    rw [Heap.size_push]
    rcases List.mem_cons.mp hb with rfl | hb
    · exact Nat.lt_succ_self _
    · rcases List.mem_cons.mp hb with rfl | hb
      · exact Nat.lt_succ_of_lt hlt
      · cases hb
  · intro hm
    rcases List.mem_cons.mp hm with e | hm
    · exact Nat.lt_irrefl _ (e ▸ F.ns.lt)
    · cases hm
  · intro C i v s₃ m₃ E' hC hP hn hm hk _
    obtain ⟨q, _, hq⟩ := hg.get (i := i) (a := v) (by simpa using hP)
    have keep := up s₃ hk
    obtain ⟨a, t, r, rfl, hT'⟩ := glIn_head hq
    rw [callIn_eq N hT hq, ← gKind_call]
    refine wpAny_tests_one (test C q a t r s₃ m₃ E' ?_ (same hm ▸ frC C s₃ m₃ hC hn keep))
    exact (TIn.at_ N hT hT').keeps keep
  · intro C i v s₃ m₃ E' hC hP hp' hn hm hk _
    exact wpAny_mono (el C v s₃ m₃ E' (same hm ▸ frC C s₃ m₃ hC hn (up s₃ hk))) (fun _ _ h => ⟨trivial, h⟩) fun _ _ e => e
  · intro D h' tk ys vs' hnew hlD hplD hlen hP hF hn' hk
    have e : vs' = vs := by simpa using list_of_places hlen hP
    subst e
    have keep : ∀ b o, b ≠ env.locals → s.heap.get? b = some o → h'.get? b = some o := fun b o hb e =>
      hk b o hb (fun hm => by rcases List.mem_cons.mp hm with rfl | hm; exact Nat.lt_irrefl _ (Heap.lt_size e); cases hm) (Heap.get?_push_of_some _ e)
    obtain ⟨n', hD⟩ := hplD
    have hnD : ∀ p ∈ news, @Ne Nat p.1 D := fun p hp e => by
      rw [← e, Heap.get?_push_of_some _ (N p hp).1] at hnew; cases hnew
    refine done D n' ys.toList h' tk ⟨hn', fun b o e => keep b o (Nat.ne_of_lt (Nat.lt_of_lt_of_le (Heap.lt_size e) F.above)) (F.keep b o e), F.above⟩ (fun p hp => ?_) ?_ hnD
    · rcases List.mem_cons.mp hp with rfl | hp
      · refine ⟨by rw [Array.toArray_toList]; exact hD, fun e => ?_, ?_⟩
        · obtain ⟨oL, _, _, hL, _⟩ := F.ns
          have e' : D = env.locals := e
          rw [e', Heap.get?_push_of_some _ hL] at hnew; cases hnew
        · cases e : h₀.get? D with
          | none => rfl
          | some o' => rw [Heap.get?_push_of_some _ (F.keep _ _ e)] at hnew; cases hnew
      · exact ⟨keep _ _ (N p hp).2.1 (N p hp).1, (N p hp).2⟩
    · rw [paired_empty hF]; exact filter_empty N hT hg
end
end Mine
end
/- Spot -/
noncomputable section
open PySem PySem.W PyProof.Rows
set_option maxRecDepth 100000
namespace Mine
section
variable {w : World} {A : Around} {s : Shared} {loose : List Str} {mean : ExcName → Option Value} {mg mb : Str → Option Value} {Q : Value → Shared → Prop} {E : Value → Shared → Prop} {h₀ : Heap} {L : Addr} {m : Str → Option Value} {news T : List (Addr × Obj)}
theorem tk_use (hA : A.handled = none) (hd1 : A.depth ≤ 480) (hu : A.units ≤ 80) (F : Fr h₀ L s.heap m) (N : News h₀ L s.heap news) (X : (hd.heap_39 w.params).In h₀) (TT : Top hd.view_39 loose mean mg mb h₀) {la lg : Addr} {n n' : Nat} {avs gvs : List Value} {args : List Tm} {goals : List Gl} {c : Nat} {u : Tok} {b : Bool}
    (hla : (la, W.listOf avs.toArray n) ∈ news) (hlg : (lg, W.listOf gvs.toArray n') ∈ news) (hb : check args goals c = b) (has : All2 (TmIn T) avs args) (hgs : All2 (GlIn T) gvs goals) (hs : ∀ p ∈ T, p ∈ news)
    (hB : args.length ≤ 300) (hB2 : goals.length ≤ 1000) (hc : c ≤ 1000) (hpos : ∀ q ∈ goals, gPos q = true)
    (hq : ∀ h' tk, Fr h₀ L h' m → News h₀ L h' news → Q (.bool b) { s with heap := h', toks := tk }) :
    wpAny (model PySem.Challenge.rw_rh0063_01.row.prog w) A (call (.ref 84) [.ref la, .ref lg, .int (c : Int) u]) Q E s := by
  refine weaken 480 80 (tk_spec (X.keeps F.keep) (TT.keeps F.keep) (News.isL N hla) (News.isL N hlg) (has.mono fun _ _ => TmIn.at_ N hs) (hgs.mono fun _ _ => GlIn.at_ N hs) (by have := wts_len args; omega) hB2 hc hpos fun h' tk k => ?_) hA hd1 hu
  obtain ⟨F', N'⟩ := keeps_back F N k
  rw [hb]
  exact hq h' tk F' N'
theorem tk_use1 (hA : A.handled = none) (hd1 : A.depth ≤ 480) (hu : A.units ≤ 80) (F : Fr h₀ L s.heap m) (N : News h₀ L s.heap news) (X : (hd.heap_39 w.params).In h₀) (TT : Top hd.view_39 loose mean mg mb h₀) {la lg : Addr} {n n' : Nat} {avs gvs : List Value} {args : List Tm} {goals : List Gl} {c : Nat} {u : Tok} {b : Bool}
    (hla : (la, W.listOf avs.toArray n) ∈ news) (hlg : (lg, W.listOf gvs.toArray n') ∈ news) (hb : check args goals (c + 1) = b) (has : All2 (TmIn T) avs args) (hgs : All2 (GlIn T) gvs goals) (hs : ∀ p ∈ T, p ∈ news)
    (hB : args.length ≤ 300) (hB2 : goals.length ≤ 1000) (hc : c + 1 ≤ 1000) (hpos : ∀ q ∈ goals, gPos q = true)
    (hq : ∀ h' tk, Fr h₀ L h' m → News h₀ L h' news → Q (.bool b) { s with heap := h', toks := tk }) :
    wpAny (model PySem.Challenge.rw_rh0063_01.row.prog w) A (call (.ref 84) [.ref la, .ref lg, .int ((c : Int) + 1) u]) Q E s :=
  tk_use (c := c + 1) hA hd1 hu F N X TT hla hlg hb has hgs hs hB hB2 hc hpos hq
end
/-- a value reckoned, nothing stored -/
def BoolEnd (b : Bool) (s : Shared) (v : Value) (s' : Shared) : Prop := v = .bool b ∧ ∃ tk, s' = { s with toks := tk }
theorem BoolEnd.intro {b b' : Bool} {s : Shared} {tk : Nat} (h : b' = b) : BoolEnd b s (.bool b') { s with toks := tk } := ⟨by rw [h], tk, rfl⟩
section
variable {M : Model} {A : Around} {E : Value → Shared → Prop} {s : Shared} {Q : Value → Shared → Prop} {t : Sem Value}
theorem join_bool (b : Bool) (h1 : wpAny M A t (BoolEnd b s) E s) (h2 : ∀ tk, Q (.bool b) { s with toks := tk }) : wpAny M A t Q E s :=
  wpAny_mono h1 (fun v s' h => by obtain ⟨rfl, tk, rfl⟩ := h; exact h2 tk) fun _ _ e => e
end
/-- the spot loop -/
def J3 (dd go ar co : Addr) (od : Obj) (gvs : List Value) (n1 : Nat) (avs : List Value) (n2 : Nat) (tups : List (Addr × Obj)) (news : List (Addr × Obj)) : Prop :=
  ∃ oc, news = lnews dd go ar co od gvs n1 avs n2 oc tups ∧ CoinsOk oc
section
variable {prog : Program} {w : World} {A : Around} {E : Value → Shared → Prop} {Q : Flow → Shared → Prop} {s : Shared} {env : Env} {h₀ : Heap} {x : Str} {body : List Stmt}
theorem iter_spot {r dd go ar co : Addr} {n n1 n2 : Nat} {od oc : Obj} {gvs avs : List Value} {tups : List (Addr × Obj)} {kvs H args goals} {c B : Nat} {lv cal : Bool} {t₀ u₀ v₀ : Tok} {m₀ : Str → Option Value} (hh : A.handled = none) (hr : IsRange s.heap r 0 (n : Int) 1 t₀ u₀ v₀) (hn : n ≤ 1000)
    (j : LJ prog w B od gvs avs oc tups kvs H args goals c lv cal)
    (F : Fr h₀ env.locals s.heap m₀) (N : News h₀ env.locals s.heap ((dd, od) :: (go, W.listOf gvs.toArray n1) :: (ar, W.listOf avs.toArray n2) :: (co, oc) :: tups))
    (turn : ∀ (i : Nat) t u oc h tk I oI, i < n → oI.cls = .type "range_iterator" → CoinsOk oc →
        (∀ p ∈ tups, p.1 ≠ dd) → (∀ p ∈ tups, p.1 ≠ go) → (∀ p ∈ tups, p.1 ≠ ar) → (∀ p ∈ tups, p.1 ≠ co) → @Ne Nat dd I → @Ne Nat go I → @Ne Nat ar I → @Ne Nat co I → (∀ p ∈ tups, p.1 ≠ I) →
        Fr h₀ env.locals h (fun y => if y = x then some (.int (i : Int) t) else ovr ["ahead", "behind", "free", "calls", "lap", "number", "due"] u m₀ y) → News h₀ env.locals h ((I, oI) :: (dd, od) :: (go, W.listOf gvs.toArray n1) :: (ar, W.listOf avs.toArray n2) :: (co, oc) :: tups) →
      wpAny (model prog w) A (execs body env) (TPostG h₀ env.locals [x, "ahead", "behind", "free", "calls", "lap", "number", "due"] m₀ (fun _ => J3 dd go ar co od gvs n1 avs n2 tups) I oI { s with heap := h, toks := tk } Q) E { s with heap := h, toks := tk })
    (done : ∀ u oc h tk, Fr h₀ env.locals h (ovr [x, "ahead", "behind", "free", "calls", "lap", "number", "due"] u m₀) → News h₀ env.locals h ((dd, od) :: (go, W.listOf gvs.toArray n1) :: (ar, W.listOf avs.toArray n2) :: (co, oc) :: tups) → Q .next { s with heap := h, toks := tk }) :
    wpAny (model prog w) A (pyIter (.ref r)) (fun it s₂ => LoopAtV prog w A h₀ env x body Q E it s₂) E s := by
  refine iter_rngG ["ahead", "behind", "free", "calls", "lap", "number", "due"] (fun _ _ => J3 dd go ar co od gvs n1 avs n2 tups) hh hr hn F N ⟨oc, rfl, j.coins⟩ ?_ ?_
  · rintro i t u news₁ h tk I oI hi ha hI ⟨oc, rfl, hok⟩ F₁ N₁
    obtain ⟨o1, o2, o3, o4⟩ := lj_off (dd := dd) (go := go) (ar := ar) (co := co) (n1 := n1) (n2 := n2) (j.same (Nat.le_refl _) hok) (fun p hp => N₁ p (.tail _ hp))
    exact turn i t u oc h tk I oI hi hI hok o1 o2 o3 o4 (ha _ (.head _)) (ha _ (.tail _ (.head _))) (ha _ (.tail _ (.tail _ (.head _)))) (ha _ (.tail _ (.tail _ (.tail _ (.head _))))) (fun p hp => ha p (.tail _ (.tail _ (.tail _ (.tail _ hp))))) F₁ N₁
  · rintro u news₁ h tk ⟨oc, rfl, hok⟩ F₁ N₁
    exact done u oc h tk F₁ N₁
/-- the inner loop: two lists more, that stay -/
def lapNews (ah be J dd go ar co : Addr) (hvs : List Value) (n3 : Nat) (bvs : List Value) (n4 : Nat) (oJ od : Obj) (gvs : List Value) (n1 : Nat) (avs : List Value) (n2 : Nat) (oc : Obj) (tups : List (Addr × Obj)) : List (Addr × Obj) :=
  (ah, W.listOf hvs.toArray n3) :: (be, W.listOf bvs.toArray n4) :: (J, oJ) :: (dd, od) :: (go, W.listOf gvs.toArray n1) :: (ar, W.listOf avs.toArray n2) :: (co, oc) :: tups
theorem lapNews_adr {ah be J dd go ar co I : Addr} {hvs : List Value} {n3 : Nat} {bvs : List Value} {n4 : Nat} {oJ od : Obj} {gvs : List Value} {n1 : Nat} {avs : List Value} {n2 : Nat} {oc oc' : Obj} {tups : List (Addr × Obj)}
    (h : ∀ p ∈ lapNews ah be J dd go ar co hvs n3 bvs n4 oJ od gvs n1 avs n2 oc tups, p.1 ≠ I) : ∀ p ∈ lapNews ah be J dd go ar co hvs n3 bvs n4 oJ od gvs n1 avs n2 oc' tups, p.1 ≠ I := by
  have e : (lapNews ah be J dd go ar co hvs n3 bvs n4 oJ od gvs n1 avs n2 oc' tups).map (·.1) = (lapNews ah be J dd go ar co hvs n3 bvs n4 oJ od gvs n1 avs n2 oc tups).map (·.1) := rfl
  intro p hp
  have h1 : p.1 ∈ (lapNews ah be J dd go ar co hvs n3 bvs n4 oJ od gvs n1 avs n2 oc' tups).map (·.1) := List.mem_map_of_mem hp
  rw [e] at h1
  obtain ⟨q, hq, e2⟩ := List.mem_map.mp h1
  rw [← e2]; exact h q hq
theorem iter_lap {r dd go ar co ah be J : Addr} {oJ : Obj} {n n1 n2 n3 n4 : Nat} {od oc oc₀ : Obj} {gvs avs hvs bvs : List Value} {tups all : List (Addr × Obj)} {kvs H args goals} {c B : Nat} {lv cal : Bool} {t₀ u₀ v₀ : Tok} {m₀ : Str → Option Value} (hh : A.handled = none) (hr : IsRange s.heap r 0 (n : Int) 1 t₀ u₀ v₀) (hn : n ≤ 1000)
    (j : LJ prog w B od gvs avs oc₀ tups kvs H args goals c lv cal) (hok : CoinsOk oc)
    (F : Fr h₀ env.locals s.heap m₀) (N : News h₀ env.locals s.heap all) (hs : ∀ p ∈ lapNews ah be J dd go ar co hvs n3 bvs n4 oJ od gvs n1 avs n2 oc tups, p ∈ all)
    (turn : ∀ (i : Nat) t u oc h tk I oI, i < n → CoinsOk oc → (∀ p ∈ lapNews ah be J dd go ar co hvs n3 bvs n4 oJ od gvs n1 avs n2 oc tups, p.1 ≠ I) →
        (∀ p ∈ tups, p.1 ≠ co) → @Ne Nat I co →
        Fr h₀ env.locals h (fun y => if y = x then some (.int (i : Int) t) else ovr ["number", "due"] u m₀ y) → News h₀ env.locals h ((I, oI) :: (ah, W.listOf hvs.toArray n3) :: (be, W.listOf bvs.toArray n4) :: (J, oJ) :: (dd, od) :: (go, W.listOf gvs.toArray n1) :: (ar, W.listOf avs.toArray n2) :: (co, oc) :: tups) →
      wpAny (model prog w) A (execs body env) (TPostG h₀ env.locals [x, "number", "due"] m₀ (fun _ news => ∃ oc, news = lapNews ah be J dd go ar co hvs n3 bvs n4 oJ od gvs n1 avs n2 oc tups ∧ CoinsOk oc) I oI { s with heap := h, toks := tk } Q) E { s with heap := h, toks := tk })
    (done : ∀ u oc h tk, CoinsOk oc → Fr h₀ env.locals h (ovr [x, "number", "due"] u m₀) → News h₀ env.locals h ((ah, W.listOf hvs.toArray n3) :: (be, W.listOf bvs.toArray n4) :: (J, oJ) :: (dd, od) :: (go, W.listOf gvs.toArray n1) :: (ar, W.listOf avs.toArray n2) :: (co, oc) :: tups) → Q .next { s with heap := h, toks := tk }) :
    wpAny (model prog w) A (pyIter (.ref r)) (fun it s₂ => LoopAtV prog w A h₀ env x body Q E it s₂) E s := by
  refine iter_rngG ["number", "due"] (fun _ _ news => ∃ oc, news = lapNews ah be J dd go ar co hvs n3 bvs n4 oJ od gvs n1 avs n2 oc tups ∧ CoinsOk oc) hh hr hn F (fun p hp => N p (hs p hp)) ⟨oc, rfl, hok⟩ ?_ ?_
  · rintro i t u news₁ h tk I oI hi ha hI ⟨oc, rfl, hok⟩ F₁ N₁
    obtain ⟨_, _, _, o4⟩ := lj_off (dd := dd) (go := go) (ar := ar) (co := co) (n1 := n1) (n2 := n2) (j.same (Nat.le_refl _) hok) (fun p hp => N₁ p (.tail _ (.tail _ (.tail _ (.tail _ hp)))))
    exact turn i t u oc h tk I oI hi hok ha o4 (fun q => ha _ (.tail _ (.tail _ (.tail _ (.tail _ (.tail _ (.tail _ (.head _))))))) q.symm) F₁ N₁
  · rintro u news₁ h tk ⟨oc, rfl, hok⟩ F₁ N₁
    exact done u oc h tk hok F₁ N₁
theorem end_lap {h' : Heap} {L : Addr} {s₁ : Shared} {tk : Nat} {ah be J dd go ar co : Addr} {oJ : Obj} {n1 n2 n3 n4 : Nat} {od oc oc' : Obj} {gvs avs hvs bvs : List Value} {tups all : List (Addr × Obj)} {I : Addr} {oI : Obj} {names : List Str} {m₀ m' : Str → Option Value}
    (hok : CoinsOk oc') (ha : ∀ p ∈ lapNews ah be J dd go ar co hvs n3 bvs n4 oJ od gvs n1 avs n2 oc tups, p.1 ≠ I) (F : Fr h₀ L h' m') (N : News h₀ L h' all) (hz : ∀ z, z ∉ names → m' z = m₀ z)
    (hs : ∀ p ∈ ((I, oI) :: lapNews ah be J dd go ar co hvs n3 bvs n4 oJ od gvs n1 avs n2 oc' tups), p ∈ all) :
    TPostG h₀ L names m₀ (fun _ news => ∃ oc, news = lapNews ah be J dd go ar co hvs n3 bvs n4 oJ od gvs n1 avs n2 oc tups ∧ CoinsOk oc) I oI s₁ Q .next { s₁ with heap := h', toks := tk } :=
  TPostG.next F (fun p hp => N p (hs p hp)) hz (lapNews_adr ha) ⟨oc', rfl, hok⟩
theorem end_spot {h' : Heap} {L : Addr} {s₁ : Shared} {tk : Nat} {dd go ar co : Addr} {n1 n2 : Nat} {od oc oc' : Obj} {gvs avs : List Value} {tups all : List (Addr × Obj)} {kvs H args goals} {c B : Nat} {lv cal : Bool} {I : Addr} {oI : Obj} {names : List Str} {m₀ m' : Str → Option Value}
    (j : LJ prog w B od gvs avs oc tups kvs H args goals c lv cal) (hok : CoinsOk oc') (F : Fr h₀ L h' m') (N : News h₀ L h' all) (hI : oI.cls = .type "range_iterator") (hz : ∀ z, z ∉ names → m' z = m₀ z)
    (hs : ∀ p ∈ ((I, oI) :: lnews dd go ar co od gvs n1 avs n2 oc' tups), p ∈ all) :
    TPostG h₀ L names m₀ (fun _ => J3 dd go ar co od gvs n1 avs n2 tups) I oI s₁ Q .next { s₁ with heap := h', toks := tk } := by
  obtain ⟨N2, ha⟩ := lj_news (j.same (Nat.le_refl _) hok) N hI hs
  exact TPostG.next F N2 hz ha ⟨oc', rfl, hok⟩
end
/-- a value reckoned, the heap may have grown -/
def BoolEndH (h₀ : Heap) (L : Addr) (m : Str → Option Value) (news : List (Addr × Obj)) (b : Bool) (s : Shared) (v : Value) (s' : Shared) : Prop := v = .bool b ∧ ∃ h' tk, s' = { s with heap := h', toks := tk } ∧ Fr h₀ L h' m ∧ News h₀ L h' news
theorem BoolEndH.intro {h₀ h' : Heap} {L : Addr} {m : Str → Option Value} {news all : List (Addr × Obj)} {b b' : Bool} {s : Shared} {tk : Nat} (F : Fr h₀ L h' m) (N : News h₀ L h' all) (hs : ∀ p ∈ news, p ∈ all) (h : b' = b) : BoolEndH h₀ L m news b s (.bool b') { s with heap := h', toks := tk } := ⟨by rw [h], h', tk, rfl, F, fun p hp => N p (hs p hp)⟩
section
variable {M : Model} {A : Around} {E : Value → Shared → Prop} {s : Shared} {Q : Value → Shared → Prop} {t : Sem Value}
theorem join_boolH {h₀ : Heap} {L : Addr} {m : Str → Option Value} {news : List (Addr × Obj)} (b : Bool) (_F : Fr h₀ L s.heap m) (_N : News h₀ L s.heap news) (h1 : wpAny M A t (BoolEndH h₀ L m news b s) E s) (h2 : ∀ h' tk, Fr h₀ L h' m → News h₀ L h' news → Q (.bool b) { s with heap := h', toks := tk }) : wpAny M A t Q E s :=
  wpAny_mono h1 (fun v s' h => by obtain ⟨rfl, h', tk, rfl, F, N⟩ := h; exact h2 h' tk F N) fun _ _ e => e
end
theorem his_at {kvs : List (Int × Value)} {H : List (Int × Int)} (h : HIs kvs H) {r : Nat} {k : Int} (_ : LtI (r : Int) k) : (hget H (r : Int) = none ∧ (valueAt kvs (r : Int)).isSome = false) ∨ ∃ j t, hget H (r : Int) = some j ∧ valueAt kvs (r : Int) = some (.int j t) ∧ (valueAt kvs (r : Int)).isSome = true := by
  rcases his_get h (r : Int) with ⟨h1, h2⟩ | ⟨j, t, h1, h2⟩
  · exact .inl ⟨h1, by rw [h2]; rfl⟩
  · exact .inr ⟨j, t, h1, h2, by rw [h2]; rfl⟩
theorem join_due {prog : Program} {w : World} {M : Model} {A : Around} {E : Value → Shared → Prop} {s : Shared} {Q : Value → Shared → Prop} {t : Sem Value} {B : Nat} {od oc : Obj} {gvs avs : List Value} {tups : List (Addr × Obj)} {kvs : List (Int × Value)} {H : List (Int × Int)} {args : List Tm} {goals : List Gl} {c : Nat} {lv cal : Bool}
    (j : LJ prog w B od gvs avs oc tups kvs H args goals c lv cal) {r : Nat} {k : Int} (hr : LtI (r : Int) k) (i : Nat)
    (h1 : ((hget H (r : Int) = none ∧ (valueAt kvs (r : Int)).isSome = false) ∨ ∃ j t, hget H (r : Int) = some j ∧ valueAt kvs (r : Int) = some (.int j t) ∧ (valueAt kvs (r : Int)).isSome = true) → wpAny M A t (BoolEnd ((decide (0 < i) || !lv) && (match hget H (r : Int) with | some j => decide (j < (i : Int)) | none => false)) s) E s)
    (h2 : ∀ tk, Q (.bool ((decide (0 < i) || !lv) && (match hget H (r : Int) with | some j => decide (j < (i : Int)) | none => false))) { s with toks := tk }) : wpAny M A t Q E s := join_bool _ (h1 (his_at j.his hr)) h2
theorem name_any {M : Model} {A : Around} {E : Value → Shared → Prop} {s : Shared} {Q : Value → Shared → Prop} {env : Env} {x : Str} {pos : Pos} {v : Value} {h₀ : Heap} {m : Str → Option Value} (F : Fr h₀ env.locals s.heap m) (hk : env.scope.kind = .function) (hx : env.kindOf x = some .local) (hd : (x == ("__debug__" : Str)) = false) (hv : m x = some v) (h : Q v s) :
    wpAny M A (eval (.Name x pos) env) Q E s := wpAny_Name (wpAny_loadName_local hk hx F.ns hv h) hd
theorem item0 {prog : Program} {w : World} {A : Around} {E : Value → Shared → Prop} {s : Shared} {Q : Value → Shared → Prop} {value slice : PySem.Expr} {t : Addr} {x : Value} {r : List Value} {u : Tok} (ht : IsTup s.heap t (x :: r).toArray) (h : Q x s)
    (hs : subscripted slice false (.ref t) (.int 0 u) = operate [.ref t, .int 0 u] (getItem (.ref t) (.int 0 u)) := by with_unfolding_all rfl) : wpAny (model prog w) A (subscriptTail value slice (.ref t) (.int 0 u)) Q E s :=
  item_tupleT ht (by decide) (by decide) (j := 0) (by simp [seqIndex?]) rfl h hs
theorem ne_same {prog : Program} {w : World} {A : Around} {E : Value → Shared → Prop} {s : Shared} {Q : Value → Shared → Prop} {c : Bool} (h : Q (.bool false) s) : wpAny (model prog w) A (compareOp .NotEq (.bool c) (.bool c)) Q E s := ne_bool (by simpa using h)
section
variable {w : World} {A : Around} {s : Shared} {loose : List Str} {mean : ExcName → Option Value} {mg mb : Str → Option Value} {Q : Value → Shared → Prop} {E : Value → Shared → Prop} {h₀ : Heap} {L : Addr} {m : Str → Option Value} {news tups : List (Addr × Obj)}
  {B : Nat} {od oc : Obj} {gvs avs : List Value} {kvs : List (Int × Value)} {H : List (Int × Int)} {args : List Tm} {goals : List Gl} {c i n n' nt : Nat} {lv cal : Bool} {la lg T0 : Addr} {u tt : Tok}
theorem ins_all {T : List (Addr × Obj)} {x : Value} {q : Gl} {i : Nat} (h : All2 (GlIn T) gvs goals) (hx : GlIn T x q) : All2 (GlIn T) (gvs.take i ++ [x] ++ gvs.drop i) (goals.take i ++ [q] ++ goals.drop i) := ((h.take i).append (.one hx)).append (h.drop i)
theorem ins_len {q : Gl} {i : Nat} : (goals.take i ++ [q] ++ goals.drop i).length = goals.length + 1 := by
  have h := congrArg List.length (List.take_append_drop i goals)
  simp only [List.length_append, List.length_singleton] at h ⊢
  omega
theorem ins_pos {q : Gl} {i : Nat} (h : ∀ x ∈ goals, gPos x = true) (hq : gPos q = true) : ∀ x ∈ goals.take i ++ [q] ++ goals.drop i, gPos x = true := fun x hx => by
  rcases List.mem_append.mp hx with hx | hx
  · rcases List.mem_append.mp hx with hx | hx
    · exact h x (List.mem_of_mem_take hx)
    · rw [List.mem_singleton.mp hx]; exact hq
  · exact h x (List.mem_of_mem_drop hx)
theorem tk_cut {prog : Program} (hA : A.handled = none) (hd1 : A.depth ≤ 480) (hu : A.units ≤ 80) (F : Fr h₀ L s.heap m) (N : News h₀ L s.heap news) (X : (hd.heap_39 w.params).In h₀) (TT : Top hd.view_39 loose mean mg mb h₀)
    (j : LJ prog w B od gvs avs oc tups kvs H args goals c lv cal)
    (hla : (la, W.listOf avs.toArray n) ∈ news) (hlg : (lg, W.listOf (gvs.take i ++ [Value.ref T0] ++ gvs.drop i).toArray n') ∈ news) (hT : (T0, tup [.str "cut" tt] nt) ∈ news) (hs : ∀ p ∈ tups, p ∈ news) (hB : B ≤ 300) (hi : i ≤ goals.length)
    (hq : ∀ h' tk, Fr h₀ L h' m → News h₀ L h' news → Q (.bool ((decide (0 < i) || !lv) && !(goals.take i).any isCall)) { s with heap := h', toks := tk }) :
    wpAny (model PySem.Challenge.rw_rh0063_01.row.prog w) A (call (.ref 84) [.ref la, .ref lg, .int (c : Int) u]) Q E s := by
  have hsub : ∀ p ∈ tups, p ∈ ((T0, tup [.str "cut" tt] nt) :: tups) := fun p hp => .tail _ hp
  have b1 := j.ba
  have b2 := j.bg
  have b3 := j.bc
  refine tk_use (T := (T0, tup [.str "cut" tt] nt) :: tups) hA hd1 hu F N X TT hla hlg (good_ins_cut j.good hi) (LJ.mono_tm hsub j.fargs) (ins_all (LJ.mono_gl hsub j.fgoals) ⟨T0, tt, rfl, nt, .head _⟩) (fun p hp => ?_) (by omega) (by rw [ins_len]; omega) (by omega) (ins_pos j.good.pos rfl) hq
  rcases List.mem_cons.mp hp with rfl | hp
  · exact hT
  · exact hs p hp
theorem tk_cutto {prog : Program} {k : Nat} {tt2 : Tok} (hA : A.handled = none) (hd1 : A.depth ≤ 480) (hu : A.units ≤ 80) (F : Fr h₀ L s.heap m) (N : News h₀ L s.heap news) (X : (hd.heap_39 w.params).In h₀) (TT : Top hd.view_39 loose mean mg mb h₀)
    (j : LJ prog w B od gvs avs oc tups kvs H args goals c lv cal)
    (hla : (la, W.listOf avs.toArray n) ∈ news) (hlg : (lg, W.listOf (gvs.take i ++ [Value.ref T0] ++ gvs.drop i).toArray n') ∈ news) (hT : (T0, tup [.str "cutto" tt, .int (k : Int) tt2] nt) ∈ news) (hs : ∀ p ∈ tups, p ∈ news) (hB : B ≤ 300) (hi : i ≤ goals.length)
    (hq : ∀ h' tk, Fr h₀ L h' m → News h₀ L h' news → Q (.bool ((decide (0 < i) || !lv) && (match hget H (k : Int) with | some j => decide (j < (i : Int)) | none => false))) { s with heap := h', toks := tk }) :
    wpAny (model PySem.Challenge.rw_rh0063_01.row.prog w) A (call (.ref 84) [.ref la, .ref lg, .int (c : Int) u]) Q E s := by
  have hsub : ∀ p ∈ tups, p ∈ ((T0, tup [.str "cutto" tt, .int (k : Int) tt2] nt) :: tups) := fun p hp => .tail _ hp
  have b1 := j.ba
  have b2 := j.bg
  have b3 := j.bc
  refine tk_use (T := (T0, tup [.str "cutto" tt, .int (k : Int) tt2] nt) :: tups) hA hd1 hu F N X TT hla hlg (good_ins_cutto j.good hi _) (LJ.mono_tm hsub j.fargs) (ins_all (LJ.mono_gl hsub j.fgoals) ⟨T0, tt, tt2, rfl, nt, .head _⟩) (fun p hp => ?_) (by omega) (by rw [ins_len]; omega) (by omega) (ins_pos j.good.pos (decide_eq_true (Int.natCast_nonneg k))) hq
  rcases List.mem_cons.mp hp with rfl | hp
  · exact hT
  · exact hs p hp
end
/-- the entry of the law: the call as code -/
theorem code_ro {prog : Program} {w : World} {A : Around} {s : Shared} {K : Frag} {p : Program} {loose : List Str} {mean : ExcName → Option Value} {mg mb : Str → Option Value}
    {R : Result → Shared → Prop} {name qual : Str} {params : Arguments} {body : List Stmt} {scope : Scope} {dV kV doc pm cdv ct oc : Value} {an od : Option Addr} {osl : Array (Option Value)} {f : Addr} {args : List Value} {binds : List (Str × Value)}
    (X : K.In s.heap) (T : Top p loose mean mg mb s.heap)
    (ho : K.lookup f = some ⟨oc, od, .func (fnOf name qual params body scope dV kV doc pm an cdv ct), osl⟩) (hcd : codeIn K cdv qual = true) (hroom : A.depth < recursionLimit)
    (hbind : BindsTo s (fnOf name qual params body scope dV kV doc pm an cdv ct) ⟨args, []⟩ binds) (hloc : ∀ y ∈ binds, scope.names.lookup y.1 = some .local)
    (hco : scope.isCoroutine = false) (hgen : scope.isGenerator = false) (hk : scope.kind = .function) (hcell : ∀ x ∈ scope.names, x.2 ≠ .cell)
    (h : ∀ h₁ L', L' = s.heap.objs.size → Fr s.heap L' h₁ (fun y => binds.reverse.lookup y) → News s.heap L' h₁ [] →
      wpAny (model prog w) (A.deeper (envOf qual scope L' f cdv)) (execs body (envOf qual scope L' f cdv))
        (fun fl s' => R (.ok (.ret (match fl with | .ret v => v | _ => .none))) s') (fun _ _ => False)
        { s with heap := h₁, toks := s.toks + binds.length }) : codeAny (model prog w) A (.call (.ref f) ⟨args, []⟩) R s := by
  refine codeAny_call_def (fd := fnOf name qual params body scope dV kV doc pm an cdv ct) (body := body) (binds := binds) hroom (X _ _ ho) rfl T.nolimit (codeRec_of X hcd) rfl hbind hcell hloc (fun h₁ hns hk₁ => ?_) hco hgen hk
  exact wpAny_mono (h h₁ _ rfl ⟨hns, hk₁, Nat.le_refl _⟩ News.nil) (fun _ _ x => x) (fun _ _ x => x.elim)
theorem code_weaken {M : Model} {A : Around} {c : Code} {R : Result → Shared → Prop} {s : Shared} (d u : Nat)
    (h : codeAny M (AK d u) c R s) (h1 : A.handled = none) (h2 : A.depth ≤ d) (h3 : A.units ≤ u) : codeAny M A c R s :=
  fun Γ p hc hΓ => h Γ p hc ⟨hΓ.1.trans h1, Nat.le_trans hΓ.2.1 h2, (fun _ hl => by injection hl), (fun _ hg => by injection hg), Nat.le_trans hΓ.2.2.2.2 h3⟩
end Mine
end
/- Law -/
noncomputable section
open PySem PySem.W PyProof.Rows
set_option maxRecDepth 100000
set_option maxHeartbeats 8000000
namespace Mine
section
variable {w : World} {A : Around} {s : Shared} {loose : List Str} {mean : ExcName → Option Value} {mg mb : Str → Option Value} {Q : Value → Shared → Prop} {E : Value → Shared → Prop} {h₀ : Heap} {L : Addr} {m : Str → Option Value} {news : List (Addr × Obj)}
theorem coins_use (hA : A.handled = none) (hd1 : A.depth ≤ 480) (hu : A.units ≤ 80) (F : Fr h₀ L s.heap m) (N : News h₀ L s.heap news) (X : (hd.heap_39 w.params).In h₀) (T : Top hd.view_39 loose mean mg mb h₀) {sl : Addr} {vs : List Value} {ns : List Int} (hsl : h₀.IsList sl vs.toArray) (hi : IntsAre vs ns) (hlen : ns.length ≤ 63)
    (hq : ∀ r oc h' tk, Fr h₀ L h' m → News h₀ L h' ((r, oc) :: news) → CoinsOk oc → Q (.ref r) { s with heap := h', toks := tk }) :
    wpAny (model PySem.Challenge.rw_rh0063_01.row.prog w) A (call (.ref 70) [.ref sl]) Q E s := by
  refine weaken 480 80 (coins_spec (X.keeps F.keep) (T.keeps F.keep) (isl_base F hsl) hi hlen fun r oc h' tk k hr hg hok => ?_) hA hd1 hu
  obtain ⟨F', N'⟩ := keeps_back F N k
  refine hq r oc h' tk F' (fun p hp => ?_) hok
  rcases List.mem_cons.mp hp with rfl | hp
  · refine ⟨hg, fun q => ?_, ?_⟩
    · obtain ⟨oL, _, _, hL, _⟩ := F.ns
      rw [← q, hr] at hL; cases hL
    · cases e : h₀.get? r with
      | none => rfl
      | some o => have := F.keep _ _ e; rw [hr] at this; cases this
  · exact N' p hp
theorem coin_nat {news' : Obj → List (Addr × Obj)} (hA : A.handled = none) (hd1 : A.depth ≤ 480) (hu : A.units ≤ 80) (F : Fr h₀ L s.heap m) (N : News h₀ L s.heap news) (X : (hd.heap_39 w.params).In h₀) (T : Top hd.view_39 loose mean mg mb h₀)
    {c : Addr} {oc : Obj} {k : Int} {t : Tok} (U : UpdF c oc news news') (hok : CoinsOk oc) (hk : 0 < k) (hk2 : k < 1000000)
    (hq : ∀ (r : Nat) t h' tk oc', LtI (r : Int) k → CoinsOk oc' → Fr h₀ L h' m → News h₀ L h' (news' oc') → Q (.int (r : Int) t) { s with heap := h', toks := tk }) :
    wpAny (model PySem.Challenge.rw_rh0063_01.row.prog w) A (call (.ref 77) [.ref c, .int k t]) Q E s := by
  refine coin_use hA hd1 hu F N X T U hok hk hk2 fun r t h' tk oc' h0 h1 hok' F' N' => ?_
  obtain ⟨n, rfl⟩ := Int.eq_ofNat_of_zero_le h0
  exact hq n t h' tk oc' h1 hok' F' N'
end
local macro_rules | `(tactic| k_all) => `(tactic| assumption)
theorem words_Law : True := by
  k_with_none
  k_with "my steps" => (repeat' ((fail_if_success (with_reducible show wpAny _ _ (exec (PySem.Stmt.While _ _ _ _) _) _ _ _)); (fail_if_success (with_reducible show wpAny _ _ (exec (PySem.Stmt.For _ _ _ _ _) _) _ _ _)); (fail_if_success (with_reducible show wpAny _ _ (pyIter _) _ _ _)); first | (k_unfold; (try dsimp only)) | walk1 | (dsimp only; walk1) | (leave1; walk_say "STEP leave1"; try dsimp only) | fail "no step"))
  k_with "call builtin:list.append" => (((with_reducible show wpAny _ _ (call (Value.builtin _) [Value.ref _, _]) _ _ _); (k_dflt (refine append_L (by assumption) (by assumption) (by k_upd) (by omega) ?_)); intro h' F' N'; (try k_sweep)))
  k_with "setItem ref int" => ((k_dflt (refine kda_set (knd := PySem.intKind _ _) (by assumption) (by assumption) (by k_updF) (by assumption) (intKind_is _ _ _ _) (by rw [PySem.sizeLine_eq]; omega) ?_); intro h' o' F' N' hd'; (try dsimp only at N'); (try k_sweep)))
  k_with "callWith" => (((with_reducible show wpAny _ _ (callWith _ (Value.builtin _) [_] _ _) _ _ _); k_dflt (refine PyProof.Rows.callWith_method1 ?_)))
  k_with "newTuple" => ((k_dflt (refine kup_newTuple (by assumption) (by assumption) ?_ (by rw [PySem.sizeLine_eq]; exact Nat.le_of_ble_eq_true rfl)); intro D' h' F' N' l1; (repeat ((have x' := ltN (List.forall_mem_cons.mp l1).1); (try dsimp only at x'); (replace l1 := (List.forall_mem_cons.mp l1).2))); (try k_sweep)))
  k_with "call builtin:len" => (((with_reducible show wpAny _ _ (call (Value.builtin "len") [Value.ref _]) _ _ _); first | k_dflt (refine len_L (News.isL (by assumption) (by k_mem)) (by omega) ?_) | k_dflt (refine kda_len (knd := PySem.intKind _ _) (by assumption) (by k_mem) (by assumption) (by assumption) (by omega) ?_)))
  k_with "call builtin:sorted" => (((with_reducible show wpAny _ _ (call (Value.builtin "sorted") [Value.ref _]) _ _ _); k_dflt (refine sorted_keys (by rfl) (by assumption) (by assumption) (by k_mem) (by assumption) (by assumption) (by omega) ?_); intro D' vs' ns' c' h' tk' F' N' l1 hi' hp'; (try k_lt l1); (try k_sweep)))
  k_with "compareOp NotEq ref ref" => ((k_dflt (refine ne_empty (by assumption) (by k_mem) (by k_mem) (by assumption) (by assumption) (by assumption) (by assumption) (by k_units) ?_ ?_) <;> intro a'))
  k_with "subscriptTail" => (first   | ((with_reducible show wpAny _ _ (subscriptTail _ _ (Value.ref _) (Value.int (_ - 2) _)) _ _ _); (k_dflt (refine pick3 (by assumption) (by k_mem) (by omega) (by omega) ?_ ?_ ?_)); all_goals intro a')   | ((with_reducible show wpAny _ _ (subscriptTail _ _ (Value.ref _) (Value.int _ _)) _ _ _); k_dflt (refine pick_key (by assumption) (by k_mem) (by assumption) (by assumption) (by show LtI _ _; assumption) (by omega) ?_); intro x' t' hx')   | ((with_reducible show wpAny _ _ (subscriptTail _ _ (Value.ref _) (Value.int _ _)) _ _ _); k_dflt (refine kda_item (knd := PySem.intKind _ _) (by assumption) (by k_mem) (by assumption) (intKind_is _ _ _ _) (by assumption) ?_))   | ((with_reducible show wpAny _ _ (subscriptTail _ _ (Value.ref _) (Value.int _ _)) _ _ _); k_dflt (refine item0 (by assumption) ?_)))
  k_with "eval Name" => (((with_reducible show wpAny _ _ (eval (PySem.Expr.Name _ _) (compEnvC _ _ _ _)) _ _ _); k_dflt (refine name_any (by assumption) (by rfl) (by rfl) (by decide) (by rfl) ?_)))
  k_with "binaryOp Add ref ref" => (((with_reducible show wpAny _ _ (binaryOp _ (Value.ref _) (Value.ref _)) _ _ _); k_dflt (refine add_L (by assumption) (by assumption) (by k_mem) (by k_mem) (by (simp only [List.length_append, List.length_take, List.length_drop, List.length_cons, List.length_nil]; omega)) (by (simp only [List.length_append, List.length_take, List.length_drop, List.length_cons, List.length_nil]; omega)) ?_); intro D' h' F' N' l1; (try k_lt l1); (try k_sweep)))
  k_with "compareOp Eq ref ref" => (((with_reducible show wpAny _ _ (compareOp CmpOp.Eq (Value.ref _) (Value.ref _)) _ _ _); k_dflt (refine eq_nil (by assumption) (by k_mem) (by k_mem) (by k_units) _ (by assumption) ?_)))
  k_with "compareOp In int ref" => (((with_reducible show wpAny _ _ (compareOp CmpOp.In (Value.int _ _) (Value.ref _)) _ _ _); k_dflt (refine kda_in (knd := PySem.intKind _ _) (by assumption) (by k_mem) (by assumption) (by assumption) (intKind_is _ _ _ _) _ (by assumption) ?_)))
  k_with "compareOp NotEq bool bool" => ((refine ne_same ?_))
  k_with "subscriptTail Name Slice ref ref" => (first   | ((with_reducible show wpAny _ _ (subscriptTail _ (PySem.Expr.Slice none (some _) none _) (Value.ref _) (Value.ref _)) _ _ _); k_dflt (refine cut_upto (by assumption) (by assumption) (by k_mem) (by omega) ?_ (by with_unfolding_all rfl) (by (intro _; with_unfolding_all rfl))); intro D' h' F' N' l1; (try k_lt l1); (try k_sweep))   | ((with_reducible show wpAny _ _ (subscriptTail _ (PySem.Expr.Slice (some _) none none _) (Value.ref _) (Value.ref _)) _ _ _); k_dflt (refine cut_from (by assumption) (by assumption) (by k_mem) (by omega) ?_ (by with_unfolding_all rfl) (by (intro _; with_unfolding_all rfl))); intro D' h' F' N' l1; (try k_lt l1); (try k_sweep)))
  k_with "to if" => (repeat' ((fail_if_success (with_reducible show wpAny _ _ (exec (PySem.Stmt.If _ _ _ _) _) _ _ _)); first | (k_unfold; (try dsimp only)) | walk1 | (dsimp only; walk1) | (leave1; walk_say "STEP leave1"; try dsimp only) | fail "no step"))
  k_with "to bool" => (repeat' ((fail_if_success (with_reducible show wpAny _ _ (eval (PySem.Expr.BoolOp _ _ _) _) _ _ _)); (fail_if_success (with_reducible show wpAny _ _ (exec (PySem.Stmt.Assign _ (PySem.Expr.ListComp _ _ _ _) _) _) _ _ _)); (fail_if_success (with_reducible show wpAny _ _ (exec (PySem.Stmt.For _ _ _ _ _) _) _ _ _)); (fail_if_success (with_reducible show wpAny _ _ (pyIter _) _ _ _)); first | (k_unfold; (try dsimp only)) | walk1 | (dsimp only; walk1) | (leave1; walk_say "STEP leave1"; try dsimp only) | fail "no step"))
  k_with "to part" => (repeat' ((fail_if_success (with_reducible show wpAny _ _ (eval (PySem.Expr.IfExp _ _ _ _) _) _ _ _)); first | (k_unfold; (try dsimp only)) | walk1 | (dsimp only; walk1) | (leave1; walk_say "STEP leave1"; try dsimp only) | fail "no step"))
  k_with "mem tail" => ((intro p hp; repeat (first | exact hp | refine List.Mem.tail _ ?_)))
  k_with "call ref" => (first   | ((with_reducible show wpAny _ _ (call (Value.ref _) [_, _, Value.int _ _]) _ _ _); (k_dflt (refine tk_cut (by rfl) (by exact Nat.le_of_ble_eq_true rfl) (by exact Nat.le_of_ble_eq_true rfl) (by assumption) (by assumption) (by assumption) (by assumption) (by assumption) (by k_mem) (by k_mem) (by k_mem) (by walk_at "mem tail") (by omega) (by omega) ?_)); intro h' tk' F' N')   | ((with_reducible show wpAny _ _ (call (Value.ref _) [_, _, Value.int _ _]) _ _ _); (k_dflt (refine tk_cutto (by rfl) (by exact Nat.le_of_ble_eq_true rfl) (by exact Nat.le_of_ble_eq_true rfl) (by assumption) (by assumption) (by assumption) (by assumption) (by assumption) (by k_mem) (by k_mem) (by k_mem) (by walk_at "mem tail") (by omega) (by omega) ?_)); intro h' tk' F' N')   | ((with_reducible show wpAny _ _ (call (Value.ref _) [_, _, Value.int (_ + 1) _]) _ _ _); (k_dflt (refine tk_use1 (by rfl) (by exact Nat.le_of_ble_eq_true rfl) (by exact Nat.le_of_ble_eq_true rfl) (by assumption) (by assumption) (by assumption) (by assumption) (by k_mem) (by k_mem) (by assumption) (by assumption) (by assumption) (by walk_at "mem tail") (by omega) (by omega) (by omega) (by assumption) ?_)); intro h' tk' F' N')   | ((with_reducible show wpAny _ _ (call (Value.ref _) [_, _, Value.int _ _]) _ _ _); (k_dflt (refine tk_use (by rfl) (by exact Nat.le_of_ble_eq_true rfl) (by exact Nat.le_of_ble_eq_true rfl) (by assumption) (by assumption) (by assumption) (by assumption) (by k_mem) (by k_mem) (by assumption) (by assumption) (by assumption) (by walk_at "mem tail") (by omega) (by omega) (by omega) (by assumption) ?_)); intro h' tk' F' N')   | (k_dflt (refine coins_use (by rfl) (Nat.le_of_ble_eq_true rfl) (Nat.le_of_ble_eq_true rfl) (by assumption) (by assumption) (by assumption) (by assumption) (by assumption) (by assumption) (by assumption) ?_); intro r' oc' h' tk' F' N' hok'; (try k_sweep))   | (k_dflt (refine coin_nat (by rfl) (by exact Nat.le_of_ble_eq_true rfl) (by exact Nat.le_of_ble_eq_true rfl) (by assumption) (by assumption) (by assumption) (by assumption) (by k_updF) (by assumption) (by omega) (by omega) ?_); intro r' t' h' tk' oc' hr' hok' F' N'; (try dsimp only at N'); (try k_sweep)))
  k_with "mem all" => (first   | (refine List.forall_mem_cons.mpr ⟨(by k_mem), (by walk_at "mem all")⟩)   | (intro p hp; repeat (first | exact hp | refine List.Mem.tail _ ?_)))
  trivial
section
variable {w : World} {s : Shared} {loose : List Str} {mean : ExcName → Option Value} {mg mb : Str → Option Value} {R : Result → Shared → Prop}
theorem law_spec (X : (hd.heap_39 w.params).In s.heap) (T : Top hd.view_39 loose mean mg mb s.heap) {sl : Addr} {vs : List Value} {ns : List Int} (hsl : s.heap.IsList sl vs.toArray) (hi : IntsAre vs ns) (hlen : ns.length ≤ 63)
    (hq : ∀ h' tk L m, Fr s.heap L h' m → R (.ok (.ret (.bool true))) { s with heap := h', toks := tk }) :
    codeAny (model PySem.Challenge.rw_rh0063_01.row.prog w) (AK 470 70) (.call (.ref 89) ⟨[.ref sl], []⟩) R s := by
  refine code_ro X T (by rfl) (by kernel_rfl) (by decide) (BindsTo.of_eq rfl) (locs rfl) rfl rfl rfl (by decide) ?_
  intro h₁ L hL F N
  walk_at "my steps"
  refine For_invV s.heap rfl rfl ?_
  walk_at "my steps"
  (rename Fr _ _ _ _ => F1)
  (rename News _ _ _ _ => N1)
  (rename IsRange _ _ _ _ _ _ _ _ => hR)
  (rename LtI _ _ => hn)
  (rename Obj.IsDictOf (intKind _ _) _ _ => hdict)
  (rename CoinsOk _ => hok)
  (rename (_ == sysModules) = false => hlo)
  refine iter_args rfl hR (by have := hn; unfold LtI at this; omega) rfl F1 N1 hdict hok ?_ ?_
  · intro i t u od n1 avs n2 oc tups kvs H args c tc h tk I oI hi hoI hc j o1 o2 o3 o4 d1 d2 d3 d4 o5 F2 N2
    clear F1 N1 hR hdict hok
    dsimp only [ovr] at F2
    rw [hc] at F2
    have hcb := j.bc
    have hok := j.coins
    have hdict := j.dict
    have hlen := j.fargs.length
    have hlb := j.ba
    have hkb := j.bk
    have hs0 := sizeLine_eq
    walk_at "my steps"
    · (rename Fr _ _ _ _ => F9)
      (rename News _ _ _ _ => N9)
      (rename LtI _ _ => hr)
      (rename CoinsOk _ => hok9)
      skip
      refine' end1 (j.adds hr hok9) F9 N9 hoI ?hz ?hc ?hs
      case hs => (unfold lnews; walk_at "mem all")
      case hz =>
        intro z hz
        simp only [List.mem_cons, List.not_mem_nil, or_false, not_or] at hz
        obtain ⟨z1, z2, z3, z4⟩ := hz
        simp only [if_neg z1, if_neg z2, if_neg z3, if_neg z4]
      case hc =>
        refine (if_pos rfl).trans ?_
        refine congrArg (fun z => some (Value.int z _)) ?_
        first | omega | (split <;> omega) | (simp only [Int.max_def]; split <;> omega)
    · (rename Fr _ _ _ _ => F9)
      (rename News _ _ _ _ => N9)
      (rename LtI _ _ => hr)
      (rename CoinsOk _ => hok9)
      (rename Obj.IsDictOf (intKind _ _) _ _ => hd9)
      refine' end1 (j.addv hr hok9 hd9) F9 N9 hoI ?hz ?hc ?hs
      case hs => (unfold lnews; walk_at "mem all")
      case hz =>
        intro z hz
        simp only [List.mem_cons, List.not_mem_nil, or_false, not_or] at hz
        obtain ⟨z1, z2, z3, z4⟩ := hz
        simp only [if_neg z1, if_neg z2, if_neg z3, if_neg z4]
      case hc =>
        refine (if_pos rfl).trans ?_
        refine congrArg (fun z => some (Value.int z _)) ?_
        first | omega | (split <;> omega) | (simp only [Int.max_def]; split <;> omega)
  · intro u od n1 avs n2 oc tups kvs H args c tc h tk hc j o1 o2 o3 o4 F2 N2
    clear F1 N1 hR hdict hok
    dsimp only [ovr] at F2
    rw [hc] at F2
    have hcb := j.bc
    have hok := j.coins
    have hdict := j.dict
    have hlen := j.fargs.length
    have hlb := j.ba
    have hkb := j.bk
    have hs0 := sizeLine_eq
    (try dsimp only)
    walk_at "to if"
    (rename Fr _ _ _ _ => F3)
    (rename News _ _ _ _ => N3)
    (rename CoinsOk _ => hok3)
    (rename LtI _ _ => hlv)
    have hcase : ∀ {x : Int}, LtI x 2 → ∃ lv : Bool, (x == 1) = lv := fun _ => ⟨_, rfl⟩
    obtain ⟨lv, hlv2⟩ := hcase hlv
    rw [hlv2] at F3
    refine lv_step (prog := PySem.Challenge.rw_rh0063_01.row.prog) (w := w) lv F3 N3 ?_ ?_
    · cases lv
      · walk_at "my steps"
        (rename Fr _ _ _ _ => F9)
        (rename News _ _ _ _ => N9)
        refine' lvEnd_of (j.same (by decide) hok3) F9 N9 (fun _ _ => rfl) ?hc ?hs
        case hs => (unfold lnews; walk_at "mem all")
        case hc => rfl
      · walk_at "my steps"
        (rename Fr _ _ _ _ => F9)
        (rename News _ _ _ _ => N9)
        (rename Obj.IsDictOf (intKind _ _) _ _ => hd9)
        refine' lvEnd_of (j.level hok3 hd9) F9 N9 ?hz ?hc ?hs
        case hs => (unfold lnews; walk_at "mem all")
        case hz =>
          intro z hz
          simp only [if_neg hz]
        case hc => rfl
    · clear F3 N3 hok3
      intro u od gvs n1 avs n2 oc tups kvs H args goals c tc h tk hc j o1 o2 o3 o4 F2 N2
      dsimp only [ovr] at F2
      rw [hc] at F2
      have hok := j.coins
      (try dsimp only)
      walk_at "my steps"
      refine For_invV s.heap rfl rfl ?_
      walk_at "my steps"
      (rename Fr _ _ _ _ => F3)
      (rename News _ _ _ _ => N3)
      (rename IsRange _ _ _ _ _ _ _ _ => hR)
      (rename LtI _ _ => hn)
      (rename CoinsOk _ => hok3)
      have hcast : ∀ {x : Nat}, LtI (x : Int) 4 → (4 : Int) - (x : Int) = ((4 - x : Nat) : Int) := fun h => by unfold LtI at h; omega
      rw [hcast hn] at hR
      refine iter_goals2 rfl hR (by omega) rfl rfl (j.same (Nat.le_refl _) hok3) F3 N3 ?_ ?_
      · intro i t u od gvs n1 avs n2 oc tups kvs H args goals c tc cal h tk I oI hi hoI hc hcal j o1 o2 o3 o4 d1 d2 d3 d4 o5 F2 N2
        clear F3 N3 hR hok3
        dsimp only [ovr] at F2
        rw [hc, hcal] at F2
        have hcb := j.bc
        have hok := j.coins
        have hdict := j.dict
        have hlen := j.fgoals.length
        have hlb := j.bg
        have hkb := j.bk
        have hs0 := sizeLine_eq
        walk_at "to part"
        · (rename Fr _ _ _ _ => F9)
          (rename News _ _ _ _ => N9)
          (rename CoinsOk _ => hok9)
          (rename Obj.IsDictOf (intKind _ _) _ _ => hd9)
          refine' end2 (LJ.mark j hok9 hd9) F9 N9 hoI ?hz ?hc ?hc2 ?hs
          case hs => (unfold lnews; walk_at "mem all")
          case hz =>
            intro z hz
            simp only [List.mem_cons, List.not_mem_nil, or_false, not_or] at hz
            obtain ⟨z1, z2, z3, z4, z5, z6⟩ := hz
            repeat (first | exact Eq.refl _ | refine (if_neg (by assumption)).trans ?_)
          case hc =>
            refine Eq.trans (by rfl : _ = some (Value.int _ _)) ?_
            refine congrArg (fun z => some (Value.int z _)) ?_
            first | rfl | omega | (split <;> omega) | (simp only [Int.max_def]; split <;> omega)
          case hc2 =>
            refine Eq.trans (by rfl : _ = some (Value.bool _)) ?_
            refine congrArg (fun z => some (Value.bool z)) ?_
            first | rfl | assumption | (symm; assumption) | (rw [beq_iff_eq]; omega) | (have hq9 := ‹cal = false›; rw [hq9, beq_eq_false_iff_ne]; omega)
        · exfalso; omega
        · (rename Fr _ _ _ _ => F9)
          (rename News _ _ _ _ => N9)
          (rename CoinsOk _ => hok9)
          refine' end2 (LJ.fail j hok9) F9 N9 hoI ?hz ?hc ?hc2 ?hs
          case hs => (unfold lnews; walk_at "mem all")
          case hz =>
            intro z hz
            simp only [List.mem_cons, List.not_mem_nil, or_false, not_or] at hz
            obtain ⟨z1, z2, z3, z4, z5, z6⟩ := hz
            repeat (first | exact Eq.refl _ | refine (if_neg (by assumption)).trans ?_)
          case hc =>
            refine Eq.trans (by rfl : _ = some (Value.int _ _)) ?_
            refine congrArg (fun z => some (Value.int z _)) ?_
            first | rfl | omega | (split <;> omega) | (simp only [Int.max_def]; split <;> omega)
          case hc2 =>
            refine Eq.trans (by rfl : _ = some (Value.bool _)) ?_
            refine congrArg (fun z => some (Value.bool z)) ?_
            first | rfl | assumption | (symm; assumption) | (rw [beq_iff_eq]; omega) | (have hq9 := ‹cal = false›; rw [hq9, beq_eq_false_iff_ne]; omega)
        · (rename Fr _ _ _ _ => F9)
          (rename News _ _ _ _ => N9)
          (rename CoinsOk _ => hok9)
          (rename _ ∈ List.map _ _ => hx9)
          refine' end2 (LJ.cutto j hok9 hx9) F9 N9 hoI ?hz ?hc ?hc2 ?hs
          case hs => (unfold lnews; walk_at "mem all")
          case hz =>
            intro z hz
            simp only [List.mem_cons, List.not_mem_nil, or_false, not_or] at hz
            obtain ⟨z1, z2, z3, z4, z5, z6⟩ := hz
            repeat (first | exact Eq.refl _ | refine (if_neg (by assumption)).trans ?_)
          case hc =>
            refine Eq.trans (by rfl : _ = some (Value.int _ _)) ?_
            refine congrArg (fun z => some (Value.int z _)) ?_
            first | rfl | omega | (split <;> omega) | (simp only [Int.max_def]; split <;> omega)
          case hc2 =>
            refine Eq.trans (by rfl : _ = some (Value.bool _)) ?_
            refine congrArg (fun z => some (Value.bool z)) ?_
            first | rfl | assumption | (symm; assumption) | (rw [beq_iff_eq]; omega) | (have hq9 := ‹cal = false›; rw [hq9, beq_eq_false_iff_ne]; omega)
        · (rename Fr _ _ _ _ => F9)
          (rename News _ _ _ _ => N9)
          (rename CoinsOk _ => hok9)
          refine' end2 (LJ.fail j hok9) F9 N9 hoI ?hz ?hc ?hc2 ?hs
          case hs => (unfold lnews; walk_at "mem all")
          case hz =>
            intro z hz
            simp only [List.mem_cons, List.not_mem_nil, or_false, not_or] at hz
            obtain ⟨z1, z2, z3, z4, z5, z6⟩ := hz
            repeat (first | exact Eq.refl _ | refine (if_neg (by assumption)).trans ?_)
          case hc =>
            refine Eq.trans (by rfl : _ = some (Value.int _ _)) ?_
            refine congrArg (fun z => some (Value.int z _)) ?_
            first | rfl | omega | (split <;> omega) | (simp only [Int.max_def]; split <;> omega)
          case hc2 =>
            refine Eq.trans (by rfl : _ = some (Value.bool _)) ?_
            refine congrArg (fun z => some (Value.bool z)) ?_
            first | rfl | assumption | (symm; assumption) | (rw [beq_iff_eq]; omega) | (have hq9 := ‹cal = false›; rw [hq9, beq_eq_false_iff_ne]; omega)
        · (rename Fr _ _ _ _ => F9)
          (rename News _ _ _ _ => N9)
          (rename CoinsOk _ => hok9)
          have hq8 := ‹cal = false›
          have j9 := j
          rw [hq8] at j9
          refine' end2 (LJ.cut j9 hok9) F9 N9 hoI ?hz ?hc ?hc2 ?hs
          case hs => (unfold lnews; walk_at "mem all")
          case hz =>
            intro z hz
            simp only [List.mem_cons, List.not_mem_nil, or_false, not_or] at hz
            obtain ⟨z1, z2, z3, z4, z5, z6⟩ := hz
            repeat (first | exact Eq.refl _ | refine (if_neg (by assumption)).trans ?_)
          case hc =>
            refine Eq.trans (by rfl : _ = some (Value.int _ _)) ?_
            refine congrArg (fun z => some (Value.int z _)) ?_
            first | rfl | omega | (split <;> omega) | (simp only [Int.max_def]; split <;> omega)
          case hc2 =>
            refine Eq.trans (by rfl : _ = some (Value.bool _)) ?_
            refine congrArg (fun z => some (Value.bool z)) ?_
            first | rfl | assumption | (symm; assumption) | (rw [beq_iff_eq]; omega) | (have hq9 := ‹cal = false›; rw [hq9, beq_eq_false_iff_ne]; omega)
        · (rename LtI _ (_ + 1) => hr)
          (rename Fr _ _ _ _ => F8)
          (rename News _ _ _ _ => N8)
          refine join_part j hoI hr F8 N8 ?_ ?_
          · walk_at "my steps"
            · (rename Fr _ _ _ _ => F9)
              (rename News _ _ _ _ => N9)
              (rename CoinsOk _ => hok9)
              refine' PartEnd.intro hok9 (part_s j.ftups) F9 N9 ?hs
              case hs => (unfold lnews; walk_at "mem all")
            · (rename Fr _ _ _ _ => F9)
              (rename News _ _ _ _ => N9)
              (rename CoinsOk _ => hok9)
              refine' PartEnd.intro hok9 (part_v j.ftups) F9 N9 ?hs
              case hs => (unfold lnews; walk_at "mem all")
          · intro e p T oc9 h' tk P hok9 o1 o2 o3 o4 o5 F10 N10
            clear F8 N8
            walk_at "to bool"
            · refine join_bool true ?_ ?_
              · walk_at "my steps"
                · exact BoolEnd.intro (by assumption)
                · exact BoolEnd.intro (by rw [beq_iff_eq]; omega)
              · intro tk
                walk_at "my steps"
                · (rename Fr _ _ _ _ => F9)
                  (rename News _ _ _ _ => N9)
                  (rename CoinsOk _ => hok9)
                  refine' end2 (LJ.call j hok9 hr P) F9 N9 hoI ?hz ?hc ?hc2 ?hs
                  case hs => (unfold lnews; walk_at "mem all")
                  case hz =>
                    intro z hz
                    simp only [List.mem_cons, List.not_mem_nil, or_false, not_or] at hz
                    obtain ⟨z1, z2, z3, z4, z5, z6⟩ := hz
                    repeat (first | exact Eq.refl _ | refine (if_neg (by assumption)).trans ?_)
                  case hc =>
                    refine Eq.trans (by rfl : _ = some (Value.int _ _)) ?_
                    refine congrArg (fun z => some (Value.int z _)) ?_
                    first | rfl | omega | (split <;> omega) | (simp only [Int.max_def]; split <;> omega)
                  case hc2 =>
                    refine Eq.trans (by rfl : _ = some (Value.bool _)) ?_
                    refine congrArg (fun z => some (Value.bool z)) ?_
                    first | rfl | assumption | (symm; assumption) | (rw [beq_iff_eq]; omega) | (have hq9 := ‹cal = false›; rw [hq9, beq_eq_false_iff_ne]; omega)
            · refine join_bool cal ?_ ?_
              · walk_at "my steps"
                · exact BoolEnd.intro rfl
                · exact BoolEnd.intro (by have hq9 := ‹cal = false›; rw [hq9, beq_eq_false_iff_ne]; omega)
              · intro tk
                walk_at "my steps"
                · (rename Fr _ _ _ _ => F9)
                  (rename News _ _ _ _ => N9)
                  (rename CoinsOk _ => hok9)
                  refine' end2 (LJ.builtin j hok9 hr P) F9 N9 hoI ?hz ?hc ?hc2 ?hs
                  case hs => (unfold lnews; walk_at "mem all")
                  case hz =>
                    intro z hz
                    simp only [List.mem_cons, List.not_mem_nil, or_false, not_or] at hz
                    obtain ⟨z1, z2, z3, z4, z5, z6⟩ := hz
                    repeat (first | exact Eq.refl _ | refine (if_neg (by assumption)).trans ?_)
                  case hc =>
                    refine Eq.trans (by rfl : _ = some (Value.int _ _)) ?_
                    refine congrArg (fun z => some (Value.int z _)) ?_
                    first | rfl | omega | (split <;> omega) | (simp only [Int.max_def]; split <;> omega)
                  case hc2 =>
                    refine Eq.trans (by rfl : _ = some (Value.bool _)) ?_
                    refine congrArg (fun z => some (Value.bool z)) ?_
                    first | rfl | assumption | (symm; assumption) | (rw [beq_iff_eq]; omega) | (have hq9 := ‹cal = false›; rw [hq9, beq_eq_false_iff_ne]; omega)
            · refine join_bool cal ?_ ?_
              · walk_at "my steps"
                · exact BoolEnd.intro rfl
                · exact BoolEnd.intro (by have hq9 := ‹cal = false›; rw [hq9, beq_eq_false_iff_ne]; omega)
              · intro tk
                walk_at "my steps"
                · (rename Fr _ _ _ _ => F9)
                  (rename News _ _ _ _ => N9)
                  (rename CoinsOk _ => hok9)
                  refine' end2 (LJ.unify j hok9 hr P) F9 N9 hoI ?hz ?hc ?hc2 ?hs
                  case hs => (unfold lnews; walk_at "mem all")
                  case hz =>
                    intro z hz
                    simp only [List.mem_cons, List.not_mem_nil, or_false, not_or] at hz
                    obtain ⟨z1, z2, z3, z4, z5, z6⟩ := hz
                    repeat (first | exact Eq.refl _ | refine (if_neg (by assumption)).trans ?_)
                  case hc =>
                    refine Eq.trans (by rfl : _ = some (Value.int _ _)) ?_
                    refine congrArg (fun z => some (Value.int z _)) ?_
                    first | rfl | omega | (split <;> omega) | (simp only [Int.max_def]; split <;> omega)
                  case hc2 =>
                    refine Eq.trans (by rfl : _ = some (Value.bool _)) ?_
                    refine congrArg (fun z => some (Value.bool z)) ?_
                    first | rfl | assumption | (symm; assumption) | (rw [beq_iff_eq]; omega) | (have hq9 := ‹cal = false›; rw [hq9, beq_eq_false_iff_ne]; omega)
        · (rename Fr _ _ _ _ => F9)
          (rename News _ _ _ _ => N9)
          (rename CoinsOk _ => hok9)
          refine' end2 (LJ.fail j hok9) F9 N9 hoI ?hz ?hc ?hc2 ?hs
          case hs => (unfold lnews; walk_at "mem all")
          case hz =>
            intro z hz
            simp only [List.mem_cons, List.not_mem_nil, or_false, not_or] at hz
            obtain ⟨z1, z2, z3, z4, z5, z6⟩ := hz
            repeat (first | exact Eq.refl _ | refine (if_neg (by assumption)).trans ?_)
          case hc =>
            refine Eq.trans (by rfl : _ = some (Value.int _ _)) ?_
            refine congrArg (fun z => some (Value.int z _)) ?_
            first | rfl | omega | (split <;> omega) | (simp only [Int.max_def]; split <;> omega)
          case hc2 =>
            refine Eq.trans (by rfl : _ = some (Value.bool _)) ?_
            refine congrArg (fun z => some (Value.bool z)) ?_
            first | rfl | assumption | (symm; assumption) | (rw [beq_iff_eq]; omega) | (have hq9 := ‹cal = false›; rw [hq9, beq_eq_false_iff_ne]; omega)
      · intro u od gvs n1 avs n2 oc tups kvs H args goals c tc cal h tk hc hcal j o1 o2 o3 o4 F2 N2
        clear F3 N3 hR hok3
        dsimp only [ovr] at F2
        rw [hc, hcal] at F2
        have hcb := j.bc
        have hok := j.coins
        have hdict := j.dict
        have hlen := j.fgoals.length
        have hlb := j.bg
        have hla := j.ba
        have hkb := j.bk
        have has := j.fargs
        have hgs := j.fgoals
        have hpos := j.good.pos
        have hck := good_count j.good
        have hck1 := good_count1 j.good
        have hs0 := sizeLine_eq
        (try dsimp only)
        walk_at "my steps"
        refine For_invV s.heap rfl rfl ?_
        walk_at "my steps"
        (rename Fr _ _ _ _ => F3)
        (rename News _ _ _ _ => N3)
        (rename IsRange _ _ _ _ _ _ _ _ => hR)
        have hcast2 : ((gvs.length : Int) + 1) = ((gvs.length + 1 : Nat) : Int) := rfl
        rw [hcast2] at hR
        refine iter_spot rfl hR (by omega) j F3 N3 ?_ ?_
        · intro i t u oc h tk I oI hi hoI hok o1 o2 o3 o4 d1 d2 d3 d4 o5 F4 N4
          clear F3 N3 hR
          dsimp only [ovr] at F4
          have hi2 : i ≤ goals.length := by omega
          (try dsimp only)
          walk_at "to bool"
          refine join_bool (decide (0 < i) || !lv) ?_ ?_
          · walk_at "my steps"
            · exact BoolEnd.intro (by have h9 : 0 < i := by omega
                                      simp [h9])
            · exact BoolEnd.intro (by have h9 : ¬ 0 < i := by omega
                                      simp [h9])
          · intro tk
            walk_at "to bool"
            refine comp_calls (T := tups) (gs := goals.take i) rfl (by assumption) (by assumption) (by k_mem) (by walk_at "mem tail") (j.fgoals.take i) (by rw [List.length_take]; omega) (by rfl) (by with_unfolding_all rfl) (by decide) (by rfl) (by decide) (by rfl) (by rfl) (by rfl) (by intro _; with_unfolding_all rfl) ?_ ?_ ?_ ?_
            · intro Q' hq'
              walk_at "my steps"
              exact hq'
            · intro C q a t r s₃ mc E' ht hF
              walk_at "my steps"
              first | exact ⟨rfl, _, _, rfl, fun _ _ e => e⟩ | exact ⟨_, _, rfl, fun _ _ e => e⟩
            · intro C v s₃ mc E' hF
              walk_at "my steps"
              exact ⟨_, _, rfl, fun _ _ e => e⟩
            · intro D n' ys h' tk F5 N5 hys hne
              (try k_sweep)
              (try dsimp only)
              walk_at "to bool"
              (rename Fr _ _ _ _ => F9)
              (rename News _ _ _ _ => N9)
              refine join_boolH ((decide (0 < i) || !lv) && !(goals.take i).any isCall) F9 N9 ?_ ?_
              · walk_at "my steps"
                · (rename _ = true => ha9)
                  (rename Fr _ _ _ _ => F10)
                  (rename News _ _ _ _ => N10)
                  exact BoolEndH.intro F10 N10 (by walk_at "mem tail") (by rw [ha9]; rfl)
                · (rename _ = false => ha9)
                  exact BoolEndH.intro F9 N9 (by walk_at "mem tail") (by rw [ha9]; rfl)
              · intro h' tk F10 N10
                walk_at "my steps"
                refine For_invV s.heap rfl rfl ?_
                walk_at "my steps"
                (rename Fr _ _ _ _ => F3)
                (rename News _ _ _ _ => N3)
                (rename IsRange _ _ _ _ _ _ _ _ => hR)
                refine iter_lap (n := 3) (hvs := gvs.take i) (n3 := 0) (bvs := gvs.drop i) (n4 := 0) (J := I) (oJ := oI) rfl hR (by omega) j hok F3 N3 (by unfold lapNews; walk_at "mem all") ?_ ?_
                · intro i2 t2 u2 oc h tk I2 oI2 hi3 hok hall o4 d5 F5 N5
                  clear F3 N3 hR
                  dsimp only [ovr] at F5
                  (try dsimp only)
                  walk_at "to bool"
                  (rename LtI _ (_ + 1) => hr)
                  (rename CoinsOk _ => hok9)
                  refine join_due j hr i ?_ ?_
                  · rintro (⟨hg, hin⟩ | ⟨jj, tj, hg, hv, hin⟩)
                    · walk_at "my steps"
                      · exact BoolEnd.intro (by rw [hg, Bool.and_false])
                      · (rename _ = false => ha9)
                        exact BoolEnd.intro (by rw [ha9]; rfl)
                    · walk_at "my steps"
                      · (rename _ = true => ha9)
                        exact BoolEnd.intro (by rw [ha9, hg]; rfl)
                      · (rename _ = false => ha9)
                        exact BoolEnd.intro (by rw [ha9]; rfl)
                  · intro tk
                    walk_at "my steps"
                    (rename Fr _ _ _ _ => F9)
                    (rename News _ _ _ _ => N9)
                    refine' end_lap hok9 hall F9 N9 ?hz ?hs
                    case hs => (unfold lapNews; walk_at "mem all")
                    case hz =>
                      intro z hz
                      simp only [List.mem_cons, List.not_mem_nil, or_false, not_or] at hz
                      obtain ⟨z1, z2, z3⟩ := hz
                      simp only [if_neg z1, if_neg z2, if_neg z3]
                · intro u2 oc h tk hok F5 N5
                  (try dsimp only)
                  walk_at "my steps"
                  dsimp only [ovr] at F5
                  refine' end_spot j hok F5 N5 hoI ?hz ?hs
                  case hs => (unfold lnews; walk_at "mem all")
                  case hz =>
                    intro z hz
                    simp only [List.mem_cons, List.not_mem_nil, or_false, not_or] at hz
                    obtain ⟨z1, z2, z3, z4, z5, z6, z7, z8⟩ := hz
                    simp only [if_neg z1, if_neg z2, if_neg z3, if_neg z4, if_neg z5, if_neg z6, if_neg z7, if_neg z8]
        · intro u oc h tk F4 N4
          (try dsimp only)
          walk_at "my steps"
          (rename Fr _ _ _ _ => F9)
          (try dsimp only)
          exact hq _ _ _ _ F9
end
end Mine
end
/- Fin -/
section
open PySem PySem.W PyProof.Rows
set_option maxRecDepth 100000
set_option maxHeartbeats 8000000
theorem PySem.Challenge.cw_rh0063_01_holds : PySem.Challenge.rw_rh0063_01.Holds := by
  k_with_none
  refine Mine.hd ?_
  k_fill
  intro w s₀ s₁ mg mb G Y fa o pm cd doc dV kV ho hd hcd hD hmg hg args vals as hpre hlay hrd hwl hlo
  have KX := kIn_of Y
  have X := (Ground.X G).1
  have V := (Ground.X G).2
  refine Ground.open G ?_
  intro T B D TE TW
  try (refine guard_noD D (by decide +kernel) ?_; clear D)
  obtain ⟨_, _, M⟩ := bmod_of_top T
  have TA := at_of_top T
  wrow_args hpre hlay hrd hwl hlo
  all_goals first | refine callC_kw (enter_call ?_) | refine enter_call ?_
  w_top on
  have h89 := mg_of (n := Str.ofString "law") (v := Value.ref 89) KX T.g (by kernel_rfl)
  have e89 := Value.ref.inj (Option.some.inj (hmg.symm.trans h89))
  subst e89
  refine codeAny_mono ?_ (fun _ _ g => GoodW.toG g)
  refine Mine.code_weaken 470 70 (Mine.law_spec KX T (by assumption) (by assumption) (by omega) fun h' tk L m F => ?_) rfl (by decide) (by decide)
  exact goodW_bool F hg (fun _ => rfl) (by kc_post)
end
