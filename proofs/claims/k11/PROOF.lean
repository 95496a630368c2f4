import PyProof.Rows.All
import Wide.All
import OpenK.AllK
import Wide.FinOn
import PyProof.ZipIter
import PyProof.Draws
import HandS.Zip
import KE.GoesEnumKw
import PyProof.Rows.CallKwBuiltin
import HandS.SortKw
import KE.GoesMore
import HandS.ForMost
import HandS.Deep
import HandS.IsInst
import HandS.WideBits
import HandS.Wide
import HandS.TupAny
import HandS.Comp
import HandS.More
import KE.KDictKeyed
import HandS.NoneIn
import PySem.Challenge.RW_landweave_k11_noise_by_itself
set_option Elab.async false
set_option linter.all false
set_option maxRecDepth 100000
set_option maxHeartbeats 2000000
/-! Zip: zip(tuple, ascii text, strict=True), both of one length. -/
namespace Iv
open PySem
open PySem.Sem (wp)
abbrev IsZipS (h : Heap) (z TI TO : Addr) (f0 : Value) : Prop :=
  h.get? z = some { cls := .type "zip", dict := none, data := .fields #[f0, .bool false, .bool true, .ref TI, .ref TO], slots := #[] }
section
variable {prog : Program} {w : World} {A : Around} {E : Value → Shared → Prop} {s : Shared}
theorem nextOrEnd_of {it : Value} {Q : Option Value → Shared → Prop} (h : wpAny (model prog w) A (Builtin.SmallTypes.nextOf it) (fun v s' => Q (some v) s') (fun e s' => (∃ a o, e = .ref a ∧ s'.heap.get? a = some o ∧ o.cls = .type "StopIteration") ∧ Q none s') s) :
    wpAny (model prog w) A (Builtin.SmallTypes.nextOrEnd it) Q E s := by
  unfold Builtin.SmallTypes.nextOrEnd
  refine wpAny_bind (wpAny_attempt (wpAny_mono h (fun v s' q => ?_) (fun e s' q => ?_)))
  · exact wpAny_pure q
  · obtain ⟨⟨a, o, rfl, ho, hc⟩, q⟩ := q
    refine wpAny_bind (wpAny_isInstance (T := "StopIteration") (b := true) ⟨o, ho, hc⟩ isSubtype_stop ?_)
    exact wpAny_pure q
theorem zipS_next_item {z TI TO i1 i2 l1 : Addr} {k : Nat} {xs : Array Value} {x a b : Value} {t : Tok} {y : Str} {c : Nat} {Q : Value → Shared → Prop} (D : ZipApart z TI TO i1 i2 l1 l1)
    (hz : IsZipS s.heap z TI TO .none) (hTI : IsPair s.heap TI (.ref i1) (.ref i2)) (hTO : IsPair s.heap TO a b)
    (h1 : s.heap.IsTupleIter i1 l1 k) (h2 : s.heap.IsStrIter i2 "str_ascii_iterator" y t k) (hl1 : s.heap.IsTuple l1 xs) (hx : xs[k]? = some x) (hy : y.cps[k]? = some c)
    (hQ : ∀ h', IsZipS h' z TI TO (rawInt s.heap.objs.size) → IsPair h' TO x (.str ⟨#[c]⟩ s.toks) → h'.IsTupleIter i1 l1 (k + 1) → h'.IsStrIter i2 "str_ascii_iterator" y t (k + 1) → IsPair h' s.heap.objs.size x (.str ⟨#[c]⟩ s.toks) → h'.objs.size = s.heap.objs.size + 1 →
      (∀ c o, c ≠ z → c ≠ TO → c ≠ i1 → c ≠ i2 → s.heap.get? c = some o → h'.get? c = some o) → Q (.ref s.heap.objs.size) { s with heap := h', toks := s.toks + 1 }) :
    wpAny (model prog w) A (Builtin.«zip.__next__» ⟨[.ref z], []⟩) (fun fin s' => ∃ v, fin = .done (.ret v) ∧ Q v s') E s := by
  show wpAny _ _ (field (.ref z) 2 >>= _) _ _ _
  refine wpAny_bind (wpAny_field hz rfl (x := .bool true) rfl ?_)
  show wpAny _ _ (field (.ref z) 3 >>= _) _ _ _
  refine wpAny_bind (wpAny_field hz rfl (x := .ref TI) rfl ?_)
  refine wpAny_bind (wpAny_seqItems hTI rfl ?_)
  show wpAny _ _ (Builtin.SmallTypes.ownedTupleIsFree (.ref z) >>= _) _ _ _
  refine wpAny_bind ?_
  unfold Builtin.SmallTypes.ownedTupleIsFree
  refine wpAny_bind (wpAny_field hz rfl (x := .none) rfl (wpAny_pure ?_))
  simp only [if_true]
  refine wpAny_bind (wpAny_rule ?_)
  refine wpAny_bind (wpAny_field hz rfl (x := .ref TO) rfl ?_)
  refine wpAny_bind (wpAny_setField_rec hz (by simp) fun h₁ hz₁ hs₁ => ?_)
  replace hz₁ : IsZipS h₁ z TI TO .ellipsis := hz₁
  refine wpAny_bind ?_
  simp only [List.zipIdx_cons, List.zipIdx_nil, List.forIn_cons, List.forIn_nil]
  refine wpAny_bind (wpAny_bind (wpAny_onRaise ?_))
  show wpAny _ _ (Builtin.SmallTypes.nextOrEnd (.ref i1)) _ _ _
  refine nextOrEnd_of (RZ.nextOf_tuple_item (h1.extBut hs₁.extBut D.i1z) (hl1.extBut hs₁.extBut D.l1z) hx fun h₂ h1₂ hs₂ => ?_)
  have hTO₂ : IsPair h₂ TO a b := hs₂.extBut _ _ D.TOi1 (hs₁.extBut _ _ D.TOz hTO)
  refine wpAny_bind (wpAny_seqItems hTO₂ rfl ?_)
  refine wpAny_bind (wpAny_updateSeq_pair hTO₂ fun h₃ hTO₃ hs₃ => ?_)
  replace hTO₃ : IsPair h₃ TO x b := hTO₃
  refine wpAny_bind (wpAny_letGo (wpAny_pure ?_))
  refine wpAny_bind (wpAny_bind (wpAny_onRaise ?_))
  show wpAny _ _ (Builtin.SmallTypes.nextOrEnd (.ref i2)) _ _ _
  refine nextOrEnd_of (wpAny_nextOf_ascii_item (((h2.extBut hs₁.extBut D.i2z).extBut hs₂.extBut D.i12.symm).extBut hs₃.extBut D.TOi2.symm) hy fun h₄ h2₄ hs₄ => ?_)
  have hTO₄ : IsPair h₄ TO x b := hs₄.extBut _ _ D.TOi2 hTO₃
  refine wpAny_bind (wpAny_seqItems hTO₄ rfl ?_)
  refine wpAny_bind (wpAny_updateSeq_pair hTO₄ fun h₅ hTO₅ hs₅ => ?_)
  replace hTO₅ : IsPair h₅ TO x (.str ⟨#[c]⟩ s.toks) := hTO₅
  refine wpAny_bind (wpAny_letGo (wpAny_pure (wpAny_pure ?_)))
  refine wpAny_bind (wpAny_seqItems hTO₅ rfl ?_)
  refine wpAny_bind (wpAny_newTuple ?_)
  have hsz : h₅.objs.size = s.heap.objs.size := by rw [hs₅.1, hs₄.1, hs₃.1, hs₂.1, hs₁.1]
  have hz₅ : IsZipS h₅ z TI TO .ellipsis := hs₅.extBut _ _ D.TOz.symm (hs₄.extBut _ _ D.i2z.symm (hs₃.extBut _ _ D.TOz.symm (hs₂.extBut _ _ D.i1z.symm hz₁)))
  have hk₅ : ∀ c o, c ≠ z → c ≠ TO → c ≠ i1 → c ≠ i2 → s.heap.get? c = some o → h₅.get? c = some o := fun c o c1 c2 c3 c4 e =>
    hs₅.extBut _ _ c2 (hs₄.extBut _ _ c4 (hs₃.extBut _ _ c2 (hs₂.extBut _ _ c3 (hs₁.extBut _ _ c1 e))))
  have h1₅ : h₅.IsTupleIter i1 l1 (k + 1) := ((h1₂.extBut hs₃.extBut D.TOi1.symm).extBut hs₄.extBut D.i12).extBut hs₅.extBut D.TOi1.symm
  have h2₅ : h₅.IsStrIter i2 "str_ascii_iterator" y t (k + 1) := h2₄.extBut hs₅.extBut D.TOi2.symm
  have hzlt : z < h₅.objs.size := Heap.lt_size hz₅
  show wpAny _ _ (Builtin.SmallTypes.ownedTupleHandOut (.ref z) (.ref h₅.objs.size) >>= _) _ _ _
  refine wpAny_bind ?_
  unfold Builtin.SmallTypes.ownedTupleHandOut
  have hz₆ : IsZipS (h₅.push { cls := .type "tuple", data := .seq #[x, .str ⟨#[c]⟩ s.toks] }) z TI TO .ellipsis := Heap.get?_push_of_some _ hz₅
  refine wpAny_bind (wpAny_setField_rec hz₆ (by simp) fun h₇ hz₇ hs₇ => ?_)
  replace hz₇ : IsZipS h₇ z TI TO (rawInt h₅.objs.size) := hz₇
  refine wpAny_setField_rec hz₇ (by simp) fun h₈ hz₈ hs₈ => ?_
  replace hz₈ : IsZipS h₈ z TI TO (rawInt h₅.objs.size) := hz₈
  have up : ∀ c o, c ≠ z → h₅.get? c = some o → h₈.get? c = some o := fun c o c1 e => hs₈.extBut _ _ c1 (hs₇.extBut _ _ c1 (Heap.get?_push_of_some _ e))
  have hT₈ : IsPair h₈ h₅.objs.size x (.str ⟨#[c]⟩ s.toks) := hs₈.extBut _ _ (Nat.ne_of_gt hzlt) (hs₇.extBut _ _ (Nat.ne_of_gt hzlt) (Heap.get?_push_size _ rfl))
  have hz8 : h₈.objs.size = h₅.objs.size + 1 := by rw [hs₈.1, hs₇.1, Heap.size_push]
  rw [hsz] at hz₈ hT₈ hz8
  refine wpAny_pure ⟨_, rfl, ?_⟩
  show Q (.ref h₅.objs.size) _
  rw [hsz]
  refine hQ h₈ hz₈ (up _ _ D.TOz hTO₅) (h1₅.at fun o e => up _ o D.i1z e) ?_ hT₈ hz8 fun c o c1 c2 c3 c4 e => up c o c1 (hk₅ c o c1 c2 c3 c4 e)
  obtain ⟨o, e, r⟩ := h2₅
  exact ⟨o, up _ o D.i2z e, r⟩
theorem zipS_next_end {z TI TO i1 i2 l1 : Addr} {k : Nat} {xs : Array Value} {a b : Value} {t : Tok} {y : Str} {Q : Fin → Shared → Prop} (hh : A.handled = none) (D : ZipApart z TI TO i1 i2 l1 l1)
    (hz : IsZipS s.heap z TI TO .none) (hTI : IsPair s.heap TI (.ref i1) (.ref i2)) (hTO : IsPair s.heap TO a b)
    (h1 : s.heap.IsTupleIter i1 l1 k) (h2 : s.heap.IsStrIter i2 "str_ascii_iterator" y t k) (hl1 : s.heap.IsTuple l1 xs) (hx : xs[k]? = none) (hy : y.cps[k]? = none)
    (hE : ∀ h' e, (∀ c o, c ≠ z → c ≠ TO → c ≠ i1 → c ≠ i2 → s.heap.get? c = some o → h'.get? c = some o) → (∃ o, h'.get? e = some o ∧ o.cls = .type "StopIteration") → E (.ref e) { s with heap := h' }) :
    wpAny (model prog w) A (Builtin.«zip.__next__» ⟨[.ref z], []⟩) Q E s := by
  show wpAny _ _ (field (.ref z) 2 >>= _) _ _ _
  refine wpAny_bind (wpAny_field hz rfl (x := .bool true) rfl ?_)
  show wpAny _ _ (field (.ref z) 3 >>= _) _ _ _
  refine wpAny_bind (wpAny_field hz rfl (x := .ref TI) rfl ?_)
  refine wpAny_bind (wpAny_seqItems hTI rfl ?_)
  show wpAny _ _ (Builtin.SmallTypes.ownedTupleIsFree (.ref z) >>= _) _ _ _
  refine wpAny_bind ?_
  unfold Builtin.SmallTypes.ownedTupleIsFree
  refine wpAny_bind (wpAny_field hz rfl (x := .none) rfl (wpAny_pure ?_))
  simp only [if_true]
  refine wpAny_bind (wpAny_rule ?_)
  refine wpAny_bind (wpAny_field hz rfl (x := .ref TO) rfl ?_)
  refine wpAny_bind (wpAny_setField_rec hz (by simp) fun h₁ hz₁ hs₁ => ?_)
  replace hz₁ : IsZipS h₁ z TI TO .ellipsis := hz₁
  refine wpAny_bind ?_
  simp only [List.zipIdx_cons, List.zipIdx_nil, List.forIn_cons, List.forIn_nil]
  refine wpAny_bind (wpAny_bind (wpAny_onRaise ?_))
  show wpAny _ _ (Builtin.SmallTypes.nextOrEnd (.ref i1)) _ _ _
  refine nextOrEnd_of (RZ.nextOf_tuple_end hh (h1.extBut hs₁.extBut D.i1z) (hl1.extBut hs₁.extBut D.l1z) hx fun h₂ e hs₂ he => ?_)
  obtain ⟨oe, hoe, hce⟩ := he
  refine ⟨⟨e, oe, rfl, hoe, hce⟩, ?_⟩
  have hz₂ : IsZipS h₂ z TI TO .ellipsis := hs₂ _ _ D.i1z.symm hz₁
  refine wpAny_bind (wpAny_setField_rec hz₂ (by simp) fun h₃ hz₃ hs₃ => ?_)
  refine wpAny_bind ?_
  show wpAny _ _ (forIn (([Value.ref i1, Value.ref i2].drop 1).zipIdx 1) _ _ >>= _) _ _ _
  simp only [List.drop_succ_cons, List.drop_zero, List.zipIdx_cons, List.zipIdx_nil, List.forIn_cons, List.forIn_nil]
  refine wpAny_bind (wpAny_bind (wpAny_bind ?_))
  refine nextOrEnd_of (wpAny_nextOf_ascii_end hh (((h2.extBut hs₁.extBut D.i2z).extBut hs₂ D.i12.symm).extBut hs₃.extBut D.i2z) hy fun h₄ e2 hs₄ he2 => ?_)
  obtain ⟨oe2, hoe2, hce2⟩ := he2
  refine ⟨⟨e2, oe2, rfl, hoe2, hce2⟩, ?_⟩
  refine wpAny_pure (wpAny_pure ?_)
  refine wpAny_bind (wpAny_rule ?_)
  show wpAny _ _ (newExc (.type "StopIteration") [] >>= _) _ _ _
  refine wpAny_bind ?_
  simp only [newExc, newTuple]
  refine wpAny_bind (wpAny_newObj_type ?_ (by size_fits))
  refine wpAny_bind (m := firstArgMember _ _) (wpAny_of_eq (a := Value.none) (by first | rfl | (simp only [firstArgMember]; rfl)) ?_)
  refine wpAny_newObj_type ?_ (by size_fits)
  simp only [raiseNew]
  refine wpAny_bind (wpAny_handled ?_)
  first | rw [show A.in1.handled = none from hh] | rw [hh]
  refine wpAny_bind (wpAny_pure (wpAny_throw ?_))
  exact hE _ _ (fun c o c1 c2 c3 c4 e => Heap.get?_push_of_some _ (Heap.get?_push_of_some _ (hs₄ _ _ c4 (hs₃.extBut _ _ c1 (hs₂ _ _ c3 (hs₁.extBut _ _ c1 e)))))) ⟨_, Heap.get?_push_size _ rfl, rfl⟩
theorem pyNext_zipS_item {z TI TO i1 i2 l1 : Addr} {k : Nat} {xs : Array Value} {x a b : Value} {t : Tok} {y : Str} {c : Nat} {Q : Option Value → Shared → Prop} (D : ZipApart z TI TO i1 i2 l1 l1)
    (hz : IsZipS s.heap z TI TO .none) (hTI : IsPair s.heap TI (.ref i1) (.ref i2)) (hTO : IsPair s.heap TO a b)
    (h1 : s.heap.IsTupleIter i1 l1 k) (h2 : s.heap.IsStrIter i2 "str_ascii_iterator" y t k) (hl1 : s.heap.IsTuple l1 xs) (hx : xs[k]? = some x) (hy : y.cps[k]? = some c)
    (hQ : ∀ h', IsZipS h' z TI TO (rawInt s.heap.objs.size) → IsPair h' TO x (.str ⟨#[c]⟩ s.toks) → h'.IsTupleIter i1 l1 (k + 1) → h'.IsStrIter i2 "str_ascii_iterator" y t (k + 1) → IsPair h' s.heap.objs.size x (.str ⟨#[c]⟩ s.toks) → h'.objs.size = s.heap.objs.size + 1 →
      (∀ c o, c ≠ z → c ≠ TO → c ≠ i1 → c ≠ i2 → s.heap.get? c = some o → h'.get? c = some o) → Q (some (.ref s.heap.objs.size)) { s with heap := h', toks := s.toks + 1 }) :
    wpAny (model prog w) A (pyNext (.ref z)) Q E s := by
  have hT : s.TypeIs (.ref z) "zip" := ⟨_, hz, rfl⟩
  unfold pyNext
  exact wpAny_bind (wpAny_attempt (wpAny_callSpecial?_slot (name := Str.ofString "__next__") hT F.slot_zip_next
    (wpAny_call_entry F.slot_zip_next hT F.entry_zip_next
      (zipS_next_item D hz hTI hTO h1 h2 hl1 hx hy fun h' a1 a2 a3 a4 a5 a6 a7 => wpAny_pure (hQ h' a1 a2 a3 a4 a5 a6 a7)) (F.args_zip_next_1 _))))
theorem pyNext_zipS_end {z TI TO i1 i2 l1 : Addr} {k : Nat} {xs : Array Value} {a b : Value} {t : Tok} {y : Str} {Q : Option Value → Shared → Prop} (hh : A.handled = none) (D : ZipApart z TI TO i1 i2 l1 l1)
    (hz : IsZipS s.heap z TI TO .none) (hTI : IsPair s.heap TI (.ref i1) (.ref i2)) (hTO : IsPair s.heap TO a b)
    (h1 : s.heap.IsTupleIter i1 l1 k) (h2 : s.heap.IsStrIter i2 "str_ascii_iterator" y t k) (hl1 : s.heap.IsTuple l1 xs) (hx : xs[k]? = none) (hy : y.cps[k]? = none)
    (hQ : ∀ h', (∀ c o, c ≠ z → c ≠ TO → c ≠ i1 → c ≠ i2 → s.heap.get? c = some o → h'.get? c = some o) → Q none { s with heap := h' }) : wpAny (model prog w) A (pyNext (.ref z)) Q E s := by
  have hT : s.TypeIs (.ref z) "zip" := ⟨_, hz, rfl⟩
  unfold pyNext
  refine wpAny_bind (wpAny_attempt (wpAny_callSpecial?_slot (name := Str.ofString "__next__") hT F.slot_zip_next
    (wpAny_call_entry F.slot_zip_next hT F.entry_zip_next (zipS_next_end hh D hz hTI hTO h1 h2 hl1 hx hy fun h' e hk he => ?_) (F.args_zip_next_1 _))))
  obtain ⟨o, ho, hc⟩ := he
  refine wpAny_bind (wpAny_isInstance (T := "StopIteration") (b := true) ⟨o, ho, hc⟩ isSubtype_stop ?_)
  exact wpAny_pure (hQ _ hk)
theorem letOwnedTupleGo_zipS {elts : List Expr} {x1} {pos : Pos} {z TI TO T : Addr} {Q : Unit → Shared → Prop} (hz : IsZipS s.heap z TI TO (rawInt T))
    (hQ : ∀ h', IsZipS h' z TI TO .none → Heap.SameBut z s.heap h' → Q () { s with heap := h' }) :
    wpAny (model prog w) A (letOwnedTupleGo (.Tuple elts x1 pos) (.ref z) (.ref T)) Q E s := by
  unfold letOwnedTupleGo
  refine wpAny_bind (wpAny_load hz ?_)
  show wpAny _ _ (if (["enumerate", "zip", "dict_itemiterator", "dict_reverseitemiterator", "odict_iterator", "itertools.zip_longest", "itertools.pairwise"].contains "zip" &&
      (#[rawInt T, .bool false, .bool true, .ref TI, .ref TO] : Array Value)[0]? == some (rawInt T)) = true then _ else _) Q E s
  rw [if_pos (by simp)]
  refine wpAny_bind (wpAny_rule ?_)
  show wpAny _ _ (setField (.ref z) 0 .none) Q E s
  exact wpAny_setField_rec hz (by simp) fun h' hz' hs' => hQ h' hz' hs'
theorem pyIter_zipS {z TI TO : Addr} {f0 : Value} {Q : Value → Shared → Prop} (hz : IsZipS s.heap z TI TO f0) (h : Q (.ref z) s) : wpAny (model prog w) A (pyIter (.ref z)) Q E s := by
  have hT : s.TypeIs (.ref z) "zip" := ⟨_, hz, rfl⟩
  refine wpAny_pyIter_slot hT F.slot_zip_iter (wpAny_call_entry F.slot_zip_iter hT F.entry_zip_iter ?_ (F.args_zip_iter_1 _))
  show wpAny _ _ (ret (.ref z)) _ _ s
  exact wpAny_pure ⟨_, rfl, "zip", _, hT, F.slot_zip_next.lookup, h⟩
end
abbrev zsH1 (h : Heap) (l1 : Addr) : Heap := h.push { cls := .type "tuple_iterator", data := .fields #[.ref l1, .int 0 0] }
abbrev zsH2 (h : Heap) (l1 : Addr) (y : Str) (t : Tok) : Heap := (zsH1 h l1).push { cls := .type "str_ascii_iterator", data := .fields #[.str y t, .int 0 0] }
abbrev zsH3 (h : Heap) (l1 : Addr) (y : Str) (t : Tok) : Heap := (zsH2 h l1 y t).push { cls := .type "tuple", data := .seq #[.ref h.objs.size, .ref (zsH1 h l1).objs.size] }
abbrev zsH4 (h : Heap) (l1 : Addr) (y : Str) (t : Tok) : Heap := (zsH3 h l1 y t).push { cls := .type "tuple", data := .seq #[.none, .none] }
abbrev zsH5 (h : Heap) (l1 : Addr) (y : Str) (t : Tok) : Heap := (zsH4 h l1 y t).push { cls := .type "zip", data := .fields #[.none, .bool false, .bool true, .ref (zsH2 h l1 y t).objs.size, .ref (zsH3 h l1 y t).objs.size] }
theorem meets_zipS_new (l1 : Addr) (xs : Array Value) (y : Str) (t : Tok) (ha : y.cps.all (· < 128) = true) :
    Meets (Builtin.«zip.__new__» ⟨[.type "zip", .ref l1, .str y t], [("strict", .bool true)]⟩) (fun _ R s => s.heap.IsTuple l1 xs ∧
      R (.ok (.ret (.ref (zsH4 s.heap l1 y t).objs.size))) { s with heap := zsH5 s.heap l1 y t }) :=
  .of_wp fun prog w A R s h => by
    obtain ⟨hp, g, d, tk, os⟩ := s; obtain ⟨hl1, h⟩ := h
    have hsub := sub_zip
    have hL1 : Heap.IsTuple (Shared.heap ⟨hp, g, d, tk, os⟩) l1 xs := hl1
    wp_walk using wpAny_pyIter_tuple hL1, wpAny_pyIter_ascii ha
    exact ⟨_, rfl, h⟩
theorem typeCall_zipS (a b : Value) : checkTypeCall "zip" ⟨[a, b], [("strict", .bool true)]⟩ = pure () := by kernel_rfl
theorem newCall_zipS (a b : Value) : checkBuiltinCall "zip.__new__" ⟨[.type "zip", a, b], [("strict", .bool true)]⟩ = pure () := by kernel_rfl
theorem args_init_zipS (obj a b : Value) : argsOk "object.__init__" ⟨[obj, a, b], [("strict", .bool true)]⟩ := by unfold argsOk; kernel_rfl
section
variable {prog : Program} {w : World} {A : Around} {E : Value → Shared → Prop} {s : Shared}
theorem call_zipS {l1 : Addr} {xs : Array Value} {y : Str} {t : Tok} {Q : Value → Shared → Prop} (hl1 : s.heap.IsTuple l1 xs) (ha : y.cps.all (· < 128) = true)
    (h : ∀ h', IsZipS h' (s.heap.objs.size + 4) (s.heap.objs.size + 2) (s.heap.objs.size + 3) .none → IsPair h' (s.heap.objs.size + 2) (.ref s.heap.objs.size) (.ref (s.heap.objs.size + 1)) →
      IsPair h' (s.heap.objs.size + 3) .none .none → h'.IsTupleIter s.heap.objs.size l1 0 → h'.IsStrIter (s.heap.objs.size + 1) "str_ascii_iterator" y t 0 → h'.objs.size = s.heap.objs.size + 5 →
      (∀ c o, s.heap.get? c = some o → h'.get? c = some o) → Q (.ref (s.heap.objs.size + 4)) { s with heap := h' }) :
    wpAny (model prog w) A (call (.type "zip") [.ref l1, .str y t] [("strict", .bool true)]) Q E s := by
  refine callType_newKw F.called_zip (by decide) (typeCall_zipS _ _) (newCall_zipS _ _) (fun obj => args_init_zipS obj _ _) F.entry_zip_new
    (meets_zipS_new l1 xs y t ha) ⟨hl1, ?_⟩
  have z1 : (zsH1 s.heap l1).objs.size = s.heap.objs.size + 1 := Heap.size_push ..
  have z2 : (zsH2 s.heap l1 y t).objs.size = s.heap.objs.size + 2 := by rw [Heap.size_push, z1]
  have z3 : (zsH3 s.heap l1 y t).objs.size = s.heap.objs.size + 3 := by rw [Heap.size_push, z2]
  have z4 : (zsH4 s.heap l1 y t).objs.size = s.heap.objs.size + 4 := by rw [Heap.size_push, z3]
  have z5 : (zsH5 s.heap l1 y t).objs.size = s.heap.objs.size + 5 := by rw [Heap.size_push, z4]
  have g5 : (zsH5 s.heap l1 y t).get? (zsH4 s.heap l1 y t).objs.size = some _ := Heap.get?_push_size _ rfl
  have g4 : (zsH5 s.heap l1 y t).get? (zsH3 s.heap l1 y t).objs.size = some _ := Heap.get?_push_of_some _ (Heap.get?_push_size _ rfl)
  have g3 : (zsH5 s.heap l1 y t).get? (zsH2 s.heap l1 y t).objs.size = some _ := Heap.get?_push_of_some _ (Heap.get?_push_of_some _ (Heap.get?_push_size _ rfl))
  have g2 : (zsH5 s.heap l1 y t).get? (zsH1 s.heap l1).objs.size = some _ := Heap.get?_push_of_some _ (Heap.get?_push_of_some _ (Heap.get?_push_of_some _ (Heap.get?_push_size _ rfl)))
  have g1 : (zsH5 s.heap l1 y t).get? s.heap.objs.size = some _ := Heap.get?_push_of_some _ (Heap.get?_push_of_some _ (Heap.get?_push_of_some _ (Heap.get?_push_of_some _ (Heap.get?_push_size _ rfl))))
  show _ ∧ _
  rw [z2, z3, z4] at g5
  rw [z1, z2] at g3
  rw [z3] at g4
  rw [z1] at g2
  rw [z4]
  exact ⟨⟨_, g5, rfl⟩, h _ g5 g3 g4 ⟨_, g1, rfl, rfl⟩ ⟨_, g2, rfl, rfl⟩ z5 fun c o x =>
    Heap.get?_push_of_some _ (Heap.get?_push_of_some _ (Heap.get?_push_of_some _ (Heap.get?_push_of_some _ (Heap.get?_push_of_some _ x))))⟩
end
end Iv
namespace Iv
open PySem PySem.Spec PyProof.Rows L2
/-- the tuple at a and the text y, turn by turn, in new pairs; both end together -/
def ItzS (K : PySem.W.Frag) (a : Addr) (y : Str) : L2.It :=
  ⟨fun i H => ∃ (xs : List V) (x : V) (c : Nat), SqT K H a xs ∧ xs[i]? = some x ∧ y.cps[i]? = some c,
    fun i H v H' => ∃ T x c, v = .ref T ∧ H T = none ∧ H' = upd H T (.tup [x, .str ⟨#[c]⟩]) ∧ (∀ xs, SqT K H a xs → xs[i]? = some x) ∧ y.cps[i]? = some c,
    fun i H => ∃ xs : List V, SqT K H a xs ∧ xs.length ≤ i ∧ y.cps.size ≤ i⟩
theorem turn_zipS {P : Program} {w : World} {K : PySem.W.Frag} {elts : List Expr} {kk : Nat} {tpos : Pos} {a z TI TO i1 i2 : Addr} {y : Str} {t : Tok} (D : ZipApart z TI TO i1 i2 a a) :
    Turn P w K (.Tuple elts kk tpos) (ItzS K a y) [z, TI, TO, i1, i2] z (fun i h => IsZipS h z TI TO .none ∧ IsPair h TI (.ref i1) (.ref i2) ∧ (∃ x y, IsPair h TO x y) ∧ h.IsTupleIter i1 a i ∧ h.IsStrIter i2 "str_ascii_iterator" y t i) where
  mem := by simp
  obj := fun i h st c hc => by
    obtain ⟨hz, hTI, ⟨x, y, hTO⟩, ⟨o1, e1, _, d1⟩, ⟨o2, e2, _, d2⟩⟩ := st
    have e' : c = z ∨ c = TI ∨ c = TO ∨ c = i1 ∨ c = i2 := by simpa using hc
    rcases e' with q | q | q | q | q
    · rw [q]; exact ⟨_, hz, fun v q => nomatch q⟩
    · rw [q]; exact ⟨_, hTI, fun v q => nomatch q⟩
    · rw [q]; exact ⟨_, hTO, fun v q => nomatch q⟩
    · rw [q]; exact ⟨o1, e1, fun v q => by rw [d1] at q; cases q⟩
    · rw [q]; exact ⟨o2, e2, fun v q => by rw [d2] at q; cases q⟩
  keep := fun i h h' st k => by
    obtain ⟨hz, hTI, ⟨x, y, hTO⟩, h1, ⟨o2, e2, r2⟩⟩ := st
    exact ⟨k z (by simp) _ hz, k TI (by simp) _ hTI, ⟨x, y, k TO (by simp) _ hTO⟩, h1.at fun o q => k i1 (by simp) o q, ⟨o2, k i2 (by simp) o2 e2, r2⟩⟩
  item := by
    intro X hP hw hK hc i pins s σ H E I hf st hg
    subst hP hw hK
    obtain ⟨hz, hTI, ⟨x0, y0, hTO⟩, h1, h2⟩ := st
    obtain ⟨xs, x, c, hqx, hx, hy⟩ := hg
    obtain ⟨its, rv, p, _⟩ := I.tuple hqx
    obtain ⟨u, hu, ru⟩ := rv.get hx
    have hzl : z < s.heap.objs.size := Heap.lt_size hz
    refine pyNext_zipS_item D hz hTI hTO h1 h2 p (x := u) (by simpa using hu) hy fun h' z' TO' h1' h2' hT hsz hk => ?_
    refine ⟨_, rfl, letOwnedTupleGo_zipS (s := { s with heap := h', toks := s.toks + 1 }) z' fun h'' z'' sb => ?_⟩
    have hT2 : h''.get? s.heap.objs.size = some { cls := .type "tuple", data := .seq #[u, .str ⟨#[c]⟩ s.toks] } := (sb.2 _ (Nat.ne_of_gt hzl)).trans hT
    have new : ObjOk X.prog X.w (upd H s.heap.objs.size (.tup [x, .str ⟨#[c]⟩])) h'' s.heap.objs.size (.tup [x, .str ⟨#[c]⟩]) :=
      ⟨by show 2 ≤ sizeLine; decide, [u, .str ⟨#[c]⟩ s.toks], .cons ru (.cons ⟨_, rfl⟩ .nil), ⟨_, hT2, rfl, _, rfl⟩⟩
    have I1 : Inv X pins σ (upd H s.heap.objs.size (.tup [x, .str ⟨#[c]⟩])) { s with heap := h'', toks := s.toks + 1 } :=
      I.turnedNew (t' := s.toks + 1) (ch := [z, TI, TO, i1, i2]) (fun c o hb q => (sb.2 c (fun q' => hb (by simp [q']))).trans (hk c o (fun q' => hb (by simp [q'])) (fun q' => hb (by simp [q'])) (fun q' => hb (by simp [q'])) (fun q' => hb (by simp [q'])) q)) hf (Nat.le_refl _) new
    refine ⟨.ref s.heap.objs.size, _, I1, rfl, ⟨_, x, c, rfl, I.hok.fresh (Nat.le_refl _), rfl, fun l hl => by rw [I.tuple_inj hl hqx]; exact hx, hy⟩, ⟨z'', ?_, ⟨u, .str ⟨#[c]⟩ s.toks, ?_⟩, ?_, ?_⟩, fun c hcm => ?_⟩
    · exact (sb.2 _ D.TIz).trans (hk _ _ D.TIz D.TITO D.TIi1 D.TIi2 hTI)
    · exact (sb.2 _ D.TOz).trans TO'
    · exact h1'.at fun o q => (sb.2 _ D.i1z).trans q
    · obtain ⟨o2, e2, r2⟩ := h2'
      exact ⟨o2, (sb.2 _ D.i2z).trans e2, r2⟩
    · have hlt : c < s.heap.objs.size := by
        have e' : c = z ∨ c = TI ∨ c = TO ∨ c = i1 ∨ c = i2 := by simpa using hcm
        rcases e' with q | q | q | q | q
        · rw [q]; exact hzl
        · rw [q]; exact Heap.lt_size hTI
        · rw [q]; exact Heap.lt_size hTO
        · rw [q]; obtain ⟨_, e1, _⟩ := h1; exact Heap.lt_size e1
        · rw [q]; obtain ⟨_, e2, _⟩ := h2; exact Heap.lt_size e2
      rw [upd_ne (Nat.ne_of_lt hlt)]
      exact (hf c hcm).1
  done := by
    intro X hP hw hK hc i pins s σ H E I hf st hg
    subst hP hw hK
    obtain ⟨hz, hTI, ⟨x0, y0, hTO⟩, h1, h2⟩ := st
    obtain ⟨xs, hqx, hx, hy⟩ := hg
    obtain ⟨its, rv, p, _⟩ := I.tuple hqx
    have l1 := rv.length
    exact pyNext_zipS_end (I.ok.hd hc) D hz hTI hTO h1 h2 p (by simp; omega) (Array.getElem?_eq_none hy) fun h' hk => ⟨rfl, I.turnedL (t' := s.toks) (ch := [z, TI, TO, i1, i2]) (fun c o hb q =>
      hk c o (fun q' => hb (by simp [q'])) (fun q' => hb (by simp [q'])) (fun q' => hb (by simp [q'])) (fun q' => hb (by simp [q'])) q) hf⟩
  self := fun A i s Q E st h => pyIter_zipS st.1 h
theorem callWith_type_kw {M : Model} {A : Around} {E : Value → Shared → Prop} {s : Shared} {pos : Pos} {T : String} {first : List Value} {args : List (Bool × Sem Value)} {keywords : List (Option Str × Sem Value)} {Q : Value → Shared → Prop}
    (hplain : args.any (·.1) = false) (hkw : keywords.any (·.1.isNone) = false)
    (h : wpAny M A (evalArgs (.type T) true args keywords) (fun a s₁ => wpAny M A (call (.type T) (first ++ a.pos) a.kw) Q E s₁) E s) :
    wpAny M A (callWith pos (.type T) first args keywords) Q E s := by
  unfold callWith
  refine wpAny_bind (wpAny_holding (wpAny_mono h (fun a s₁ h₁ => wpAny_bind (wpAny_standAt ?_)) fun _ _ x => x))
  simp only [hplain, hkw, Bool.or_false]
  refine wpAny_bind (wpAny_pure ?_)
  exact wpAny_bind (wpAny_mono h₁ (fun r s₂ hr => wpAny_bind (wpAny_holding (wpAny_point (wpAny_pure hr)))) fun _ _ x => x)
/-- zip(t, text, strict=True) walked by a target written as a tuple -/
def iZipS (K : PySem.W.Frag) (ta : TA) : TI := fun σ H R => ta σ H fun vs H1 => ∃ a xs y, vs = [.ref a, .str y] ∧ SqT K H1 a xs ∧ y.cps.all (· < 128) = true ∧ R (ItzS K a y) H1
theorem pi_zipS {X : Cx} {e e2 : Expr} {ta : TA} {p pos tpos kp cp : Pos} {ck : Nat} {elts : List Expr} {kk : Nat} (hg : Gl X "zip") (hm : X.mg "zip" = none) (ha : PA X [e, e2] ta)
    (hs : starEach [e, e2] X.env = (false, eval e X.env) :: (false, eval e2 X.env) :: []) :
    PI X (.Tuple elts kk tpos) (.Call (.Name "zip" p) [e, e2] [⟨some "strict", .Constant (.bool true) ck cp, kp⟩] pos) (iZipS X.K ta) := by
  refine ⟨fun pins s σ H R I h => ?_⟩
  refine wpAny_Call_Name_kw (ld_blt I hg hm PyProof.Rows.boot_zip ?_)
  have hA := ha.run pos pins s σ H _ I h
  rw [hs] at hA ⊢
  refine callWith_type_kw rfl rfl (evalArgs_kwB rfl (thn hA fun us s1 ⟨vs, H1, I1, r1, q1⟩ => ?_))
  obtain ⟨a, xs, y, ex, hqx, hy, q⟩ := q1
  subst ex
  have hk : PK X [⟨some "strict", .Constant (.bool true) ck cp, kp⟩] (tCons (fun _ H Q => Q (.bl true) H) tNil) := pk_cons pe_bl pk_nil
  refine thn (hk.run pos pins s1 σ H1 (fun zs H2 => zs = [.bl true] ∧ H2 = H1) I1 ⟨rfl, rfl⟩) fun ws s2 ⟨zs, H2, I2, vy, hz, hH⟩ => ?_
  subst hz hH
  cases r1 with
  | cons r rr =>
    cases rr with
    | cons r' rr =>
      cases rr
      cases r
      obtain ⟨tk, rfl⟩ := r'
      obtain ⟨u, rfl, ru⟩ := vals1 vy
      cases ru
      obtain ⟨its, rv, p1, _⟩ := I2.tuple hqx
      obtain ⟨o1, ho1, _⟩ := id p1
      show wpAny _ _ (call (.type "zip") [.ref a, .str y tk] [("strict", .bool true)]) _ _ _
      refine call_zipS (show s2.heap.IsTuple a its.toArray from p1) hy fun h' hz hTI hTO h1 h2 hsz hkp => pyIter_zipS hz ?_
      have I3 : Inv X pins σ H2 { s2 with heap := h' } := I2.kept (t' := s2.toks) hkp
      have fresh5 : ∀ c, c ∈ [s2.heap.objs.size + 4, s2.heap.objs.size + 2, s2.heap.objs.size + 3, s2.heap.objs.size, s2.heap.objs.size + 1] → FpOk X pins H2 c := fun c hcm => by
        have e' : c = s2.heap.objs.size + 4 ∨ c = s2.heap.objs.size + 2 ∨ c = s2.heap.objs.size + 3 ∨ c = s2.heap.objs.size ∨ c = s2.heap.objs.size + 1 := by simpa using hcm
        have hle : s2.heap.objs.size ≤ c := by
          rcases e' with z | z | z | z | z
          · rw [z]; exact Nat.le_add_right _ _
          · rw [z]; exact Nat.le_add_right _ _
          · rw [z]; exact Nat.le_add_right _ _
          · rw [z]; exact Nat.le_refl _
          · rw [z]; exact Nat.le_add_right _ _
        exact I2.fpOk hle (I2.hok.fresh hle)
      exact ⟨s2.heap.objs.size + 4, [s2.heap.objs.size + 4, s2.heap.objs.size + 2, s2.heap.objs.size + 3, s2.heap.objs.size, s2.heap.objs.size + 1], _, _, H2, rfl, I3, turn_zipS (PySem.W.ktu_apart s2.heap.objs.size a a (Heap.lt_size ho1) (Heap.lt_size ho1)), ⟨hz, hTI, ⟨_, _, hTO⟩, h1, h2⟩, fresh5, q⟩
end Iv

set_option maxHeartbeats 2000000
/-! Enum: enumerate(text, start=k). -/
namespace Iv
open PySem
theorem Draws.shift {prog : Program} {w : World} {A : Around} {it : Addr} {fp : List Addr} {n : Nat} {P : Nat → Value → Prop} {St : Nat → Heap → Prop} (D : Draws prog w A it fp n P St) (k : Nat) :
    Draws prog w A it fp (n + k) (fun i v => P (i - k) v) (fun i h => k ≤ i ∧ St (i - k) h) where
  live := fun i h st => D.live _ _ st.2
  frame := fun i h h' st hk => ⟨st.1, D.frame _ _ _ st.2 hk⟩
  item := fun i s Q E hi st hQ => D.item (i - k) s Q E (by have := st.1; omega) st.2 fun x h' tk p st' sb => hQ x h' tk p (by
    have h0 := st.1
    have e : i + 1 - k = i - k + 1 := by omega
    exact ⟨by omega, by rw [e]; exact st'⟩) sb
  done := fun s Q E st hE => D.done s Q E (by
    have e : n + k - k = n := by omega
    rw [← e]; exact st.2) hE
end Iv
namespace Iv
open PySem PySem.Spec PyProof.Rows L2
def ItEnS (y : Str) (k : Nat) : L2.It :=
  ⟨fun i _ => ∃ c : Nat, y.cps[i]? = some c,
    fun i H v H' => ∃ T c, v = .ref T ∧ H T = none ∧ H' = upd H T (.tup [.int ((i + k : Nat) : Int), .str ⟨#[c]⟩]) ∧ y.cps[i]? = some c,
    fun i _ => i = y.cps.size⟩
theorem turn_enumS {P : Program} {w : World} {K : PySem.W.Frag} {elts : List Expr} {kk : Nat} {tpos : Pos} (e it : Addr) (y : Str) (k : Nat) (t : Tok) :
    Turn P w K (.Tuple elts kk tpos) (ItEnS y k) [e, it] e (fun i h => (∃ old, IsEnum h e it ((i + k : Nat) : Int) old) ∧ h.IsStrIter it (strIterType y) y t i ∧ e ≠ it) where
  mem := by simp
  obj := fun i h st b hb => by
    obtain ⟨⟨old, he⟩, ⟨o, ho, hc, hd⟩, _⟩ := st
    have e' : b = e ∨ b = it := by simpa using hb
    rcases e' with z | z
    · rw [z]; exact ⟨_, he, fun v q => nomatch q⟩
    · rw [z]; exact ⟨o, ho, fun v q => by rw [hd] at q; cases q⟩
  keep := fun i h h' st k => let ⟨⟨old, he⟩, ⟨o, ho, r⟩, hne⟩ := st; ⟨⟨old, k e (by simp) _ he⟩, ⟨o, k it (by simp) o ho, r⟩, hne⟩
  item := by
    intro X hP hw hK hc i pins s σ H E I hf st hg
    subst hP hw hK
    obtain ⟨⟨old, he⟩, hit, hne⟩ := st
    obtain ⟨c, hy⟩ := hg
    have hel : e < s.heap.objs.size := Heap.lt_size he
    have hil : it < s.heap.objs.size := by obtain ⟨_, q, _⟩ := hit; exact Heap.lt_size q
    have hlt : i < y.cps.size := (Array.getElem?_eq_some_iff.mp hy).1
    have D := Draws.shift (PySem.Draws.text (prog := X.prog) (w := X.w) (A := X.A.in1) (I.ok.hd hc) it y t) k
    refine wpAny_pyNext_enum_itemD (i := i + k) D he ⟨Nat.le_add_left _ _, by rw [Nat.add_sub_cancel]; exact hit⟩ (by omega) hne (by simpa using hne) fun x h' tk px ho hit' hT hsz hk => ?_
    obtain ⟨c', u', hy', rfl⟩ := px
    rw [Nat.add_sub_cancel] at hy'
    have ec : c = c' := Option.some.inj (hy.symm.trans hy')
    subst ec
    refine ⟨_, rfl, wpAny_letOwnedTupleGo_enum (s := { s with heap := h', toks := tk + 1 }) ho fun h'' he' sb => ?_⟩
    have hT2 : h''.get? s.heap.objs.size = some { cls := .type "tuple", data := .seq #[.int ((i + k : Nat) : Int) tk, .str ⟨#[c]⟩ u'] } := (sb.2 _ (Nat.ne_of_gt hel)).trans hT
    have new : ObjOk X.prog X.w (upd H s.heap.objs.size (.tup [.int ((i + k : Nat) : Int), .str ⟨#[c]⟩])) h'' s.heap.objs.size (.tup [.int ((i + k : Nat) : Int), .str ⟨#[c]⟩]) :=
      ⟨by show 2 ≤ sizeLine; decide, [.int ((i + k : Nat) : Int) tk, .str ⟨#[c]⟩ u'], .cons ⟨_, rfl⟩ (.cons ⟨_, rfl⟩ .nil), ⟨_, hT2, rfl, _, rfl⟩⟩
    have I1 : Inv X pins σ (upd H s.heap.objs.size (.tup [.int ((i + k : Nat) : Int), .str ⟨#[c]⟩])) { s with heap := h'', toks := tk + 1 } :=
      I.turnedNew (t' := tk + 1) (ch := [e, it]) (fun b ob hb q => (sb.2 b (fun z => hb (by simp [z]))).trans (hk b ob (fun z => hb (by simp [z])) (fun z => hb (by simp [z])) q)) hf (Nat.le_refl _) new
    refine ⟨.ref s.heap.objs.size, _, I1, rfl, ⟨_, c, rfl, I.hok.fresh (Nat.le_refl _), rfl, hy⟩, ⟨⟨.str ⟨#[c]⟩ u', ?_⟩, ?_, hne⟩, fun b hb => ?_⟩
    · have e1 : ((i + 1 + k : Nat) : Int) = ((i + k : Nat) : Int) + 1 := by omega
      rw [e1]; exact he'
    · have e2 : i + k + 1 - k = i + 1 := by omega
      rw [e2] at hit'
      obtain ⟨_, o, h0, r⟩ := hit'
      exact ⟨o, (sb.2 it (Ne.symm hne)).trans h0, r⟩
    · have hb' : b < s.heap.objs.size := by
        have e' : b = e ∨ b = it := by simpa using hb
        rcases e' with z | z
        · rw [z]; exact hel
        · rw [z]; exact hil
      rw [upd_ne (Nat.ne_of_lt hb')]
      exact (hf b hb).1
  done := by
    intro X hP hw hK hc i pins s σ H E I hf st hg
    subst hP hw hK
    obtain ⟨⟨old, he⟩, hit, hne⟩ := st
    have hg : i = y.cps.size := hg
    subst hg
    obtain ⟨f0, f1, f2, f3, f4, f5⟩ := hf it (by simp)
    have D := Draws.shift (PySem.Draws.text (prog := X.prog) (w := X.w) (A := X.A.in1) (I.ok.hd hc) it y t) k
    exact wpAny_pyNext_enum_endD D he ⟨Nat.le_add_left _ _, by rw [Nat.add_sub_cancel]; exact hit⟩ fun h' eb => ⟨rfl, I.turned (t' := s.toks) (fun b o hb q => eb b o hb q) f0 f1 f3 f4 f5⟩
  self := fun A i s Q E st h => let ⟨⟨_, he⟩, _⟩ := st; wpAny_pyIter_enum he h
/-- enumerate(text, start=k), k written -/
def iEnumS (k : Nat) (ta : TA) : TI := fun σ H R => ta σ H fun vs H1 => ∃ y, vs = [.str y] ∧ R (ItEnS y k) H1
theorem pi_enumS {X : Cx} {e : Expr} {ta : TA} {p pos tpos kp cp : Pos} {ck k : Nat} {elts : List Expr} {kk : Nat} (hk0 : (k : Int) < 2 ^ 63) (hg : Gl X "enumerate") (hm : X.mg "enumerate" = none) (ha : PA X [e] ta)
    (hs : starEach [e] X.env = [(false, eval e X.env)]) :
    PI X (.Tuple elts kk tpos) (.Call (.Name "enumerate" p) [e] [⟨some "start", .Constant (.int (k : Int)) ck cp, kp⟩] pos) (iEnumS k ta) := by
  refine ⟨fun pins s σ H R I h => ?_⟩
  refine wpAny_Call_Name_kw (ld_blt I hg hm boot_enumerate ?_)
  have hA := ha.run pos pins s σ H _ I h
  rw [hs] at hA ⊢
  refine callWith_type_kw rfl rfl (evalArgs_kwB rfl (thn hA fun us s1 ⟨vs, H1, I1, r1, q1⟩ => ?_))
  obtain ⟨y, ex, q⟩ := q1
  subst ex
  have hk : PK X [⟨some "start", .Constant (.int (k : Int)) ck cp, kp⟩] (tCons (fun _ H Q => Q (.int (k : Int)) H) tNil) := pk_cons pe_int pk_nil
  refine thn (hk.run pos pins s1 σ H1 (fun zs H2 => zs = [.int (k : Int)] ∧ H2 = H1) I1 ⟨rfl, rfl⟩) fun ws s2 ⟨zs, H2, I2, vy, hz, hH⟩ => ?_
  subst hz hH
  obtain ⟨u, rfl, tk, rfl⟩ := vals1 r1
  obtain ⟨u2, rfl, tk2, rfl⟩ := vals1 vy
  show wpAny _ _ (call (.type "enumerate") [.str y tk] [(Str.ofString "start", .int (k : Int) tk2)]) _ _ _
  refine enum_begins_start (begins_text y tk) trivial (by omega) hk0 fun h' he hit hsz hkp => wpAny_pyIter_enum he ?_
  have I3 : Inv X pins σ H2 { s2 with heap := h' } := I2.kept (t' := s2.toks) hkp
  refine ⟨s2.heap.objs.size + 1, [s2.heap.objs.size + 1, s2.heap.objs.size], _, _, H2, rfl, I3, turn_enumS (s2.heap.objs.size + 1) s2.heap.objs.size y k tk, ⟨⟨.none, ?_⟩, ⟨_, hit, rfl, rfl⟩, Nat.succ_ne_self _⟩, fun b hb => ?_, q⟩
  · rw [Nat.zero_add]; exact he
  · have e' : b = s2.heap.objs.size + 1 ∨ b = s2.heap.objs.size := by simpa using hb
    have hle : s2.heap.objs.size ≤ b := by
      rcases e' with z | z
      · rw [z]; exact Nat.le_add_right _ _
      · rw [z]; exact Nat.le_refl _
    exact I2.fpOk hle (I2.hok.fresh hle)
end Iv

/-! Core: own data, an abstract heap, a small language and what it computes. -/
namespace Iv
open PySem

/-- data: lst, dct are lists and dicts that nobody changes any more; ref n the n-th object of the abstract heap -/
inductive D where
  | non | bl (b : Bool) | int (i : Int) | str (x : Str)
  | tup (ds : List D) | lst (ds : List D) | dct (t : Bool) (ks vs : List D) | ref (n : Nat)
  deriving Inhabited

mutual
def D.beq : D → D → Bool
  | .non, .non => true
  | .bl a, .bl b => a == b
  | .int a, .int b => decide (a = b)
  | .str a, .str b => decide (a = b)
  | .tup a, .tup b => D.beqs a b
  | .lst a, .lst b => D.beqs a b
  | .dct t a b, .dct u c d => t == u && (D.beqs a c && D.beqs b d)
  | .ref m, .ref n => decide (m = n)
  | _, _ => false
def D.beqs : List D → List D → Bool
  | [], [] => true
  | x :: xs, y :: ys => D.beq x y && D.beqs xs ys
  | _, _ => false
end
mutual
theorem D.beq_eq : ∀ {a b : D}, D.beq a b = true → a = b
  | .non, b, h => by cases b <;> simp [D.beq] at h ⊢
  | .bl x, b, h => by cases b <;> simp [D.beq] at h ⊢; exact h
  | .int x, b, h => by cases b <;> simp [D.beq] at h ⊢; exact h
  | .str x, b, h => by cases b <;> simp [D.beq] at h ⊢; exact h
  | .tup x, b, h => by
    cases b <;> simp [D.beq] at h ⊢
    exact D.beqs_eq h
  | .lst x, b, h => by
    cases b <;> simp [D.beq] at h ⊢
    exact D.beqs_eq h
  | .dct t x y, b, h => by
    cases b <;> simp [D.beq] at h ⊢
    exact ⟨h.1, D.beqs_eq h.2.1, D.beqs_eq h.2.2⟩
  | .ref x, b, h => by cases b <;> simp [D.beq] at h ⊢; exact h
theorem D.beqs_eq : ∀ {a b : List D}, D.beqs a b = true → a = b
  | [], b, h => by cases b <;> simp [D.beqs] at h ⊢
  | x :: xs, b, h => by
    cases b with
    | nil => simp [D.beqs] at h
    | cons y ys =>
      simp [D.beqs] at h
      rw [D.beq_eq h.1, D.beqs_eq h.2]
end
mutual
/-- no ref within -/
def D.rf : D → Bool
  | .tup ds => D.rfs ds
  | .lst ds => D.rfs ds
  | .dct _ ks vs => D.rfs ks && D.rfs vs
  | .ref _ => false
  | _ => true
def D.rfs : List D → Bool
  | [] => true
  | d :: ds => D.rf d && D.rfs ds
end
theorem D.rfs_append {a b : List D} : D.rfs (a ++ b) = (D.rfs a && D.rfs b) := by
  induction a with
  | nil => simp [D.rfs]
  | cons x a ih => simp [D.rfs, ih, Bool.and_assoc]
theorem D.rfs_all {a : List D} : D.rfs a = a.all D.rf := by
  induction a with
  | nil => rfl
  | cons x a ih => simp [D.rfs, ih]
mutual
/-- as Python data, where it is that -/
def D.py : D → Option PyData
  | .non => some .none
  | .bl b => some (.bool b)
  | .int i => some (.int i)
  | .str x => some (.str x)
  | .tup ds => (D.pys ds).map .tuple
  | .lst ds => (D.pys ds).map .list
  | .dct _ _ _ => none
  | .ref _ => none
def D.pys : List D → Option (List PyData)
  | [] => some []
  | d :: ds => match D.py d, D.pys ds with
    | some p, some ps => some (p :: ps)
    | _, _ => none
end

/-- an object of the abstract heap; what a list, a dict holds bears no ref -/
inductive AO where
  | lst (ds : List D)
  | dct (t : Bool) (ks vs : List D)
  | ins (c : Str) (ns : List Str) (ds : List D)
  deriving Inhabited
/-! ### keys of dicts -/
mutual
/-- as a key, where it is one: ints, truths, texts, None, tuples of such -/
def D.nk : D → Option NestedKey
  | .non => some .none
  | .bl b => some (.num (if b = true then 1 else 0))
  | .int i => some (.num i)
  | .str x => some (.text x)
  | .tup ds => (D.nks ds).map .tup
  | _ => none
def D.nks : List D → Option (List NestedKey)
  | [] => some []
  | d :: ds => match D.nk d, D.nks ds with
    | some p, some ps => some (p :: ps)
    | _, _ => none
end
/-- a key that is an int or a text -/
def D.kk : D → Option L2.Key
  | .int i => some (.inl i)
  | .str x => some (.inr x)
  | _ => none
def D.kt : D → Option NestedKey
  | .tup ds => match (D.nks ds).map .tup with
    | some k => if k.depth ≤ 8 then some k else none
    | none => none
  | _ => none
/-- two keys of a kind alike -/
def keyB (t : Bool) (a b : D) : Bool := if t = true then (match D.kt a, D.kt b with
    | some p, some q => decide (p = q)
    | _, _ => false) else match D.kk a, D.kk b with
    | some p, some q => decide (p = q)
    | _, _ => false
def keyOk (t : Bool) (a : D) : Bool := if t = true then (D.kt a).isSome else (D.kk a).isSome
def dgetD (t : Bool) : List D → List D → D → Option D
  | k :: ks, v :: vs, x => if keyB t k x = true then some v else dgetD t ks vs x
  | _, _, _ => none
def dputV (t : Bool) (ks vs : List D) (x y : D) : List D := if (ks.any fun k => keyB t k x) = true then List.zipWith (fun k v => if keyB t k x = true then y else v) ks vs else vs ++ [y]
def dputK (t : Bool) (ks : List D) (x : D) : List D := if (ks.any fun k => keyB t k x) = true then ks else ks ++ [x]
abbrev AH := List AO
/-- what is done with the heap: a value and a heap, or nothing is said -/
abbrev M (α : Type) := AH → Option (α × AH)
def ret {α : Type} (a : α) : M α := fun h => some (a, h)
def bad {α : Type} : M α := fun _ => none
def bnd {α β : Type} (m : M α) (f : α → M β) : M β := fun h => match m h with
  | some (a, h') => f a h'
  | none => none
def opt {α : Type} (o : Option α) : M α := fun h => match o with
  | some a => some (a, h)
  | none => none
/-- the heap's word -/
def ask {α : Type} (f : AH → Option α) : M α := fun h => match f h with
  | some a => some (a, h)
  | none => none
abbrev St := List (Option D)

/-! ### what operators make of values -/
def mulOk (i j : Int) : Bool := decide (i.natAbs < 2 ^ 64) || decide (j.natAbs < 2 ^ 64) || (decide (i.natAbs < 2 ^ 250) && decide (j.natAbs < 2 ^ 250))
def divOk (j : Int) : Bool := decide (0 < j) && decide (j.natAbs < 2 ^ 250)
def powOk (i j : Int) : Bool := decide (0 ≤ j) && decide (j ≤ 100000) && decide (i.natAbs < 2 ^ 250)
def shlOk (i j : Int) : Bool := decide (0 ≤ j) && decide (j ≤ 100000) && decide (i.natAbs < 2 ^ 64)

inductive Bop where | add | sub | mul | fdiv | mod | pow | shl deriving DecidableEq
inductive Cop where | lt | le | gt | ge | eq | ne | isN | notN | isin | notin deriving DecidableEq

def sizeMax : Nat := 16777216
theorem sizeMax_eq : sizeLine = sizeMax := by decide
def binD : Bop → D → D → Option D
  | .add, .int i, .int j => some (.int (i + j))
  | .sub, .int i, .int j => some (.int (i - j))
  | .mul, .int i, .int j => if mulOk i j = true then some (.int (i * j)) else none
  | .fdiv, .int i, .int j => if divOk j = true then some (.int (i / j)) else none
  | .mod, .int i, .int j => if decide (0 < j) = true then some (.int (i % j)) else none
  | .pow, .int i, .int j => if powOk i j = true then some (.int (i ^ j.toNat)) else none
  | .shl, .int i, .int j => if shlOk i j = true then some (.int (i * 2 ^ j.toNat)) else none
  | .add, .str i, .str j => if i.length + j.length ≤ sizeMax then some (.str (i ++ j)) else none
  | .add, .tup i, .tup j => if i.length + j.length ≤ sizeMax then some (.tup (i ++ j)) else none
  | _, _, _ => none
/-- x += e -/
def augD : Bop → D → D → Option D
  | .add, .int i, .int j => some (.int (i + j))
  | .sub, .int i, .int j => some (.int (i - j))
  | _, _, _ => none
def isNon : D → Bool
  | .non => true
  | _ => false
/-- a list of the heap as data -/
def derefD (h : AH) : D → D
  | .ref n => match h[n]? with
    | some (.lst ds) => .lst ds
    | _ => .ref n
  | d => d
/-- ==, of data -/
def eqD (h : AH) : D → D → Option Bool
  | .int i, .int j => some (decide (i = j))
  | .str i, .str j => some (decide (i = j))
  | .bl i, .bl j => some (i == j)
  | .non, .non => some true
  | a, b => match D.py (derefD h a), D.py (derefD h b) with
    | some p, some q => if SeqAt.shaped p = true ∧ SeqAt.shaped q = true then some (PyData.eqv p q) else none
    | _, _ => none
/-- a dict: its kind, keys, values -/
def dctOf (h : AH) : D → Option (Bool × List D × List D)
  | .dct t ks vs => some (t, ks, vs)
  | .ref n => match h[n]? with
    | some (.dct t ks vs) => some (t, ks, vs)
    | _ => none
  | _ => none
/-- a list's or tuple's items -/
def seqOf (h : AH) : D → Option (List D)
  | .lst ds => some ds
  | .tup ds => some ds
  | .ref n => match h[n]? with
    | some (.lst ds) => some ds
    | _ => none
  | _ => none
/-- a list's alone -/
def lstOf (h : AH) : D → Option (List D)
  | .lst ds => some ds
  | .ref n => match h[n]? with
    | some (.lst ds) => some ds
    | _ => none
  | _ => none
def flatD : D → Bool
  | .non => true
  | .bl _ => true
  | .int _ => true
  | .str _ => true
  | _ => false
/-- == of flat ones -/
def eqF : D → D → Bool
  | .non, .non => true
  | .bl a, .bl b => a == b
  | .bl a, .int b => (if a then 1 else 0) == b
  | .int a, .bl b => a == (if b then 1 else 0)
  | .int a, .int b => a == b
  | .str a, .str b => a == b
  | _, _ => false
def inD (h : AH) (x y : D) : Option Bool := match x, y with
  | .str i, .str j => some (!(Builtin.Str.occurrences j i 0 j.length 1).isEmpty)
  | x, y => match seqOf h y with
    | some ds => if flatD x = true ∧ ds.all flatD = true then some (ds.any fun d => eqF d x) else none
    | none => match dctOf h y with
      | some (t, ks, vs) => if keyOk t x = true then some (dgetD t ks vs x).isSome else none
      | none => none
def cmpD (h : AH) : Cop → D → D → Option Bool
  | .lt, .int i, .int j => some (decide (i < j))
  | .le, .int i, .int j => some (decide (i ≤ j))
  | .gt, .int i, .int j => some (decide (j < i))
  | .ge, .int i, .int j => some (decide (j ≤ i))
  | .eq, a, b => eqD h a b
  | .ne, a, b => (eqD h a b).map (!·)
  | .isN, a, .non => some (isNon a)
  | .notN, a, .non => some (!isNon a)
  | .isin, a, b => inD h a b
  | .notin, a, b => (inD h a b).map (!·)
  | _, _, _ => none
/-- the items of xs[lo:hi] -/
def cutD (ds : List D) (lo hi : Option Int) : List D := (ds.drop (HT.sIx ds.length 0 lo)).take (HT.sIx ds.length ds.length hi - HT.sIx ds.length 0 lo)
/-- a slice's bound -/
def partD : D → Option (Option Int)
  | .int i => some (some i)
  | _ => none
def sliD (x : D) (lo hi : Option Int) : Option D := match x with
  | .tup ds => some (.tup (cutD ds lo hi))
  | .str z => if z.length ≤ sizeMax then some (.str (L2.cutS z lo hi)) else none
  | _ => none
def idxD (h : AH) (x i : D) : Option D := match seqOf h x with
  | some ds => (match i with
    | .int i => L2.atI ds i
    | _ => none)
  | none => match dctOf h x with
    | some (t, ks, vs) => if keyOk t i = true then dgetD t ks vs i else none
    | none => none

/-! ### the language -/
inductive Ty where | int | bool | str | tuple | list | dict deriving DecidableEq
inductive Bi where | len | abs | min2 | max2 | bitlen | isa (t : Ty) | sum | min1 | max1 | all | any | divmod | int1 | tup1 deriving DecidableEq
/-- a built-in type's name, as isinstance wants it -/
def tyOf (h : AH) : D → Option Ty
  | .bl _ => some .bool
  | .int _ => some .int
  | .str _ => some .str
  | .tup _ => some .tuple
  | .lst _ => some .list
  | .ref n => match h[n]? with
    | some (.lst _) => some .list
    | _ => none
  | _ => none
def isaB (t c : Ty) : Bool := decide (t = c) || (decide (t = .bool) && decide (c = .int))

/-- a module's dict read by a text -/
def kidxD (tab : List (Str × D)) : D → Option D
  | .str z => tab.lookup z
  | _ => none
def intsD : List D → Option (List Int)
  | [] => some []
  | .int i :: ds => (intsD ds).map (i :: ·)
  | _ => none
def blsD : List D → Option (List Bool)
  | [] => some []
  | .bl i :: ds => (blsD ds).map (i :: ·)
  | _ => none
def maxI : Int → List Int → Int
  | m, [] => m
  | m, x :: xs => maxI (if x > m then x else m) xs
def minI : Int → List Int → Int
  | m, [] => m
  | m, x :: xs => minI (if x < m then x else m) xs
def biD (h : AH) : Bi → List D → Option D
  | .len, [.str z] => if z.length ≤ sizeMax then some (.int z.length) else none
  | .len, [x] => (seqOf h x).map fun ds => .int ds.length
  | .abs, [.int i] => some (.int (if i < 0 then -i else i))
  | .min2, [.int i, .int j] => some (.int (if j < i then j else i))
  | .max2, [.int i, .int j] => some (.int (if j > i then j else i))
  | .bitlen, [.int i] => some (.int (Builtin.Int.intBits i : Nat))
  | .isa c, [d] => match d with
    | .non => some (.bl false)
    | d => (tyOf h d).map fun t => .bl (isaB t c)
  | .sum, [x] => ((lstOf h x).bind intsD).map fun ns => .int ns.sum
  | .max1, [x] => match (lstOf h x).bind intsD with
    | some (n :: ns) => some (.int (maxI n ns))
    | _ => none
  | .min1, [x] => match (lstOf h x).bind intsD with
    | some (n :: ns) => some (.int (minI n ns))
    | _ => none
  | .all, [x] => ((lstOf h x).bind blsD).map fun bs => .bl (bs.all id)
  | .any, [x] => ((lstOf h x).bind blsD).map fun bs => .bl (bs.any id)
  | .divmod, [.int i, .int j] => if divOk j = true then some (.tup [.int (i / j), .int (i % j)]) else none
  | .int1, [.int i] => some (.int i)
  | .int1, [.bl i] => some (.int (if i = true then 1 else 0))
  | .tup1, [.tup ds] => some (.tup ds)
  | .tup1, [x] => (lstOf h x).map .tup
  | _, _ => none

/-- targets of names -/
inductive Pt where
  | nm (i : Nat)
  | tup (ts : List Pt)
mutual
/-- expressions -/
inductive E where
  | v (i : Nat)
  | c (d : D)
  | tup (es : List E)
  | lstv (f : F)
  | alloc (f : F)
  | bin (op : Bop) (a b : E)
  | neg (a : E)
  | cmp (op : Cop) (a b : E)
  | chain (op op' : Cop) (a b c : E)
  | and (a b : E)
  | or (a b : E)
  | not (a : E)
  | ite (t a b : E)
  | idx (a i : E)
  | call (f : Nat) (perm : List Nat) (es : List E)
  | bi (b : Bi) (es : List E)
  | slice (bl bh : Bool) (a lo hi : E)
  | kidx (n : Str) (tab : List (Str × D)) (a : E)
  | kget (n : Str) (tab : List (Str × D)) (a : E)
  | dnew (t : Bool)
  | dfin (t : Bool)
  | bad
/-- new lists -/
inductive F where
  | disp (es : List E)
  | comp (p : Pt) (own : List Nat) (it : It) (ifs : List E) (elt : E)
  | cat (a b : E)
  | slc (bl bh : Bool) (a lo hi : E)
  | lst1 (a : E)
/-- what a for walks -/
inductive It where
  | range1 (a : E)
  | range2 (a b : E)
  | seq (e : E)
  | zipS (a b : E)
  | enumS (k : Nat) (a : E)
end
instance : Inhabited E := ⟨.v 0⟩
inductive Tg where
  | nm (i : Nat)
  | tup (ts : List Tg)
  | sub (a i : E)
inductive S where
  | asg (t : Tg) (e : E)
  | aug (i : Nat) (op : Bop) (e : E)
  | expr (e : E)
  | ret (e : E)
  | retN
  | ite (t : E) (a b : List S)
  | for (t : Tg) (it : It) (body : List S)
  | while (t : E) (body : List S)
  | pass
  | app (a e : E)
  | setF (al : Bool) (i : Nat) (f : F)
  | dext (i : Nat) (a k v : E)
  | bad
instance : Inhabited S := ⟨.pass⟩
/-- what becomes of a def's own objects at its end: let go (what it hands back is read only); a new object handed to the caller; all kept -/
inductive Md where | cut | own | keep deriving DecidableEq, Inhabited
/-- a def: how many parameters, slots; what becomes of its objects -/
structure Fn where
  np : Nat
  ns : Nat
  own : Md
  body : List S
  deriving Inhabited

/-! ### what it computes -/
/-- the n-th def called -/
abbrev Cal := Nat → List D → M D
/-- a new object -/
def newLst (ds : List D) : M D := fun h => if D.rfs ds = true then some (.ref h.length, h ++ [.lst ds]) else none
def tBl : D → Option Bool
  | .bl b => some b
  | _ => none
/-- a walked range's items -/
def rangeL (lo : Int) (n : Nat) : List D := (List.range n).map fun k : Nat => .int (lo + (k : Int))
def rgOk (i : Int) : Bool := decide (-(2 ^ 62) ≤ i) && decide (i < 2 ^ 62)
mutual
def semP : Pt → D → St → Option St
  | .nm i, d, s => if i < s.length then some (s.set i (some d)) else none
  | .tup ts, d, s => match d with
    | .tup ds => semPs ts ds s
    | _ => none
def semPs : List Pt → List D → St → Option St
  | [], [], s => some s
  | t :: ts, d :: ds, s => (semP t d s).bind fun s' => semPs ts ds s'
  | _, _, _ => none
end
/-- the own names of a comprehension forgotten -/
def wipeS (s : St) : List Nat → St
  | [] => s
  | v :: vs => (wipeS s vs).set v none
/-- the walked list stands as it stood -/
def stands (ds : List D) (g : Option Nat) : M Unit := fun h => match g with
  | none => some ((), h)
  | some n => match h[n]? with
    | some (.lst es) => if D.beqs es ds = true then some ((), h) else none
    | _ => none
/-- a tuple and a text of one length, side by side -/
def zipD : D → D → Option (List D)
  | .tup ds, .str z => if z.cps.all (· < 128) = true ∧ ds.length = z.cps.size then some (List.zipWith (fun d c => .tup [d, .str ⟨#[c]⟩]) ds z.cps.toList) else none
  | _, _ => none
/-- a text's signs with their numbers -/
def enumL : Nat → List Nat → List D
  | _, [] => []
  | k, c :: cs => .tup [.int (k : Int), .str ⟨#[c]⟩] :: enumL (k + 1) cs
def enumD (k : Nat) : D → Option (List D)
  | .str z => some (enumL k z.cps.toList)
  | _ => none
theorem enumL_get : ∀ (cs : List Nat) (k i : Nat), (enumL k cs)[i]? = (cs[i]?).map fun c => D.tup [.int ((i + k : Nat) : Int), .str ⟨#[c]⟩]
  | [], k, i => by simp [enumL]
  | c :: cs, k, 0 => by simp [enumL]
  | c :: cs, k, i + 1 => by
    have e : i + 1 + k = i + (k + 1) := by omega
    rw [enumL, List.getElem?_cons_succ, enumL_get cs (k + 1) i, List.getElem?_cons_succ, e]
theorem enumL_len : ∀ (cs : List Nat) (k : Nat), (enumL k cs).length = cs.length
  | [], _ => rfl
  | c :: cs, k => by simp [enumL, enumL_len cs]
/-- a comprehension's turns: each gives an item or none -/
def compL (all : List D) (g : Option Nat) (body : D → M (Option D)) : List D → M (List D)
  | [] => ret []
  | d :: ds => bnd (body d) fun o => bnd (stands all g) fun _ => bnd (compL all g body ds) fun r => ret (o.toList ++ r)
section
variable (C : Cal)
mutual
def semE : E → St → M D
  | .v i, s => opt (s[i]?.join)
  | .c d, _ => ret d
  | .tup es, s => bnd (semEs es s) fun ds => if ds.length ≤ sizeMax then ret (.tup ds) else bad
  | .lstv f, s => bnd (semF f s) fun ds => ret (.lst ds)
  | .alloc f, s => bnd (semF f s) newLst
  | .bin op a b, s => bnd (semE a s) fun x => bnd (semE b s) fun y => opt (binD op x y)
  | .neg a, s => bnd (semE a s) fun x => match x with
    | .int i => ret (.int (-i))
    | _ => bad
  | .cmp op a b, s => bnd (semE a s) fun x => bnd (semE b s) fun y => bnd (ask fun h => cmpD h op x y) fun k => ret (.bl k)
  | .chain op op' a b c, s => bnd (semE a s) fun x => bnd (semE b s) fun y => bnd (ask fun h => cmpD h op x y) fun k =>
      if k = true then bnd (semE c s) fun z => bnd (ask fun h => cmpD h op' y z) fun k' => ret (.bl k') else ret (.bl false)
  | .and a b, s => bnd (semE a s) fun x => bnd (opt (tBl x)) fun k => if k = true then semE b s else ret (.bl false)
  | .or a b, s => bnd (semE a s) fun x => bnd (opt (tBl x)) fun k => if k = true then ret (.bl true) else semE b s
  | .not a, s => bnd (semE a s) fun x => bnd (opt (tBl x)) fun k => ret (.bl (!k))
  | .ite t a b, s => bnd (semE t s) fun x => bnd (opt (tBl x)) fun k => if k = true then semE a s else semE b s
  | .idx a i, s => bnd (semE a s) fun x => bnd (semE i s) fun y => ask fun h => idxD h x y
  | .call f perm es, s => bnd (semEs es s) fun ds => C f (perm.map fun k => ds.getD k .non)
  | .bi b es, s => bnd (semEs es s) fun ds => ask fun h => biD h b ds
  | .slice bl bh a lo hi, s => bnd (semE a s) fun x => bnd (if bl = true then bnd (semE lo s) fun l => opt (partD l) else ret none) fun l => bnd (if bh = true then bnd (semE hi s) fun u => opt (partD u) else ret none) fun u => opt (sliD x l u)
  | .kidx _ tab a, s => bnd (semE a s) fun x => opt (kidxD tab x)
  | .kget _ tab a, s => bnd (semE a s) fun x => opt (kidxD tab x)
  | .dnew t, _ => fun h => some (.ref h.length, h ++ [.dct t [] []])
  | .dfin t, _ => ret (.dct t [] [])
  | .bad, _ => bad
def semEs : List E → St → M (List D)
  | [], _ => ret []
  | e :: es, s => bnd (semE e s) fun d => bnd (semEs es s) fun ds => ret (d :: ds)
def semF : F → St → M (List D)
  | .disp es, s => bnd (semEs es s) fun ds => if ds.length ≤ sizeMax then ret ds else bad
  | .comp p own it ifs elt, s => bnd (semIt it s) fun w => bnd (compL w.1 w.2 (fun d => bnd (opt (semP p d (wipeS s own))) fun s2 => bnd (semIfs ifs s2) fun k => if k = true then bnd (semE elt s2) fun y => ret (some y) else ret none) w.1) fun r => if r.length ≤ sizeMax then ret r else bad
  | .cat a b, s => bnd (semE a s) fun x => bnd (semE b s) fun y => ask fun h => match lstOf h x, lstOf h y with
    | some ds, some es => if ds.length + es.length ≤ sizeMax then some (ds ++ es) else none
    | _, _ => none
  | .slc bl bh a lo hi, s => bnd (semE a s) fun x => bnd (if bl = true then bnd (semE lo s) fun l => opt (partD l) else ret none) fun l => bnd (if bh = true then bnd (semE hi s) fun u => opt (partD u) else ret none) fun u => ask fun h => (lstOf h x).map fun ds => cutD ds l u
  | .lst1 a, s => bnd (semE a s) fun x => ask fun h => seqOf h x
def semIfs : List E → St → M Bool
  | [], _ => ret true
  | [e], s => bnd (semE e s) fun x => opt (tBl x)
  | _, _ => bad
def semIt : It → St → M (List D × Option Nat)
  | .range1 a, s => bnd (semE a s) fun x => match x with
    | .int i => if rgOk i = true then ret (rangeL 0 i.toNat, none) else bad
    | _ => bad
  | .range2 a b, s => bnd (semE a s) fun x => bnd (semE b s) fun y => match x, y with
    | .int i, .int j => if rgOk i = true ∧ rgOk j = true then ret (rangeL i (j - i).toNat, none) else bad
    | _, _ => bad
  | .seq e, s => bnd (semE e s) fun x => bnd (ask fun h => seqOf h x) fun ds => ret (ds, match x with
    | .ref n => some n
    | _ => none)
  | .zipS a b, s => bnd (semE a s) fun x => bnd (semE b s) fun y => bnd (opt (zipD x y)) fun ds => ret (ds, none)
  | .enumS k a, s => bnd (semE a s) fun x => bnd (opt (enumD k x)) fun ds => ret (ds, none)
end
/-- a list of the heap -/
def isLst (h : AH) : D → Option Unit
  | .ref n => match h[n]? with
    | some (.lst _) => some ()
    | _ => none
  | _ => none
/-- an item more -/
def appItem (o v : D) : M Unit := fun h => match o with
  | .ref n => match h[n]? with
    | some (.lst ds) => if D.rf v = true ∧ ds.length < sizeMax then some ((), h.set n (.lst (ds ++ [v]))) else none
    | _ => none
  | _ => none
/-- a list's item changed -/
def setItem (o i v : D) : M Unit := fun h => match o with
  | .ref n => match h[n]? with
    | some (.lst ds) => (match i with
      | .int i => (match L2.ixN ds.length i with
        | some k => if D.rf v = true then some ((), h.set n (.lst (ds.set k v))) else none
        | none => none)
      | _ => none)
    | some (.dct t ks vs) => if (keyOk t i = true ∧ ks.length < sizeMax) ∧ D.rf v = true ∧ D.rf i = true then some ((), h.set n (.dct t (dputK t ks i) (dputV t ks vs i v))) else none
    | _ => none
  | _ => none
mutual
def semT : Tg → D → St → M St
  | .nm i, d, s => if i < s.length then ret (s.set i (some d)) else bad
  | .tup ts, d, s => match d with
    | .tup ds => semTs ts ds s
    | .lst ds => semTs ts ds s
    | _ => bad
  | .sub a i, d, s => bnd (semE C a s) fun o => bnd (semE C i s) fun k => bnd (setItem o k d) fun _ => ret s
def semTs : List Tg → List D → St → M St
  | [], [], s => ret s
  | t :: ts, d :: ds, s => bnd (semT t d s) fun s' => semTs ts ds s'
  | _, _, _ => bad
end
end
/-- a statement's end -/
inductive Fl where
  | nx (s : St)
  | rt (d : D)
def forL (all : List D) (g : Option Nat) (body : D → St → M Fl) : List D → St → M Fl
  | [], s => ret (.nx s)
  | d :: ds, s => bnd (body d s) fun f => match f with
    | .rt r => ret (.rt r)
    | .nx s' => bnd (stands all g) fun _ => forL all g body ds s'
/-- n turns of a while at most -/
def whileN (test : St → M Bool) (body : St → M Fl) : Nat → St → M Fl
  | 0, _ => bad
  | n + 1, s => bnd (test s) fun k => if k = true then bnd (body s) fun f => match f with
    | .rt r => ret (.rt r)
    | .nx s' => whileN test body n s'
    else ret (.nx s)
open Classical in
/-- as many turns as it takes -/
noncomputable def whileW (test : St → M Bool) (body : St → M Fl) (s : St) : M Fl := fun h =>
  if e : ∃ n r, whileN test body n s h = some r then some (Classical.choose (Classical.choose_spec e)) else none
section
variable (C : Cal)
mutual
noncomputable def semS : S → St → M Fl
  | .asg t e, s => bnd (semE C e s) fun d => bnd (semT C t d s) fun s' => ret (.nx s')
  | .aug i op e, s => bnd (opt (s[i]?.join)) fun x => bnd (semE C e s) fun y => bnd (opt (augD op x y)) fun z => ret (.nx (s.set i (some z)))
  | .expr e, s => bnd (semE C e s) fun _ => ret (.nx s)
  | .ret e, s => bnd (semE C e s) fun d => ret (.rt d)
  | .retN, _ => ret (.rt .non)
  | .ite t a b, s => bnd (semE C t s) fun x => bnd (opt (tBl x)) fun k => if k = true then semSs a s else semSs b s
  | .for t it body, s => bnd (semIt C it s) fun p => forL p.1 p.2 (fun d s' => bnd (semT C t d s') fun s'' => semSs body s'') p.1 s
  | .while t body, s => whileW (fun s' => bnd (semE C t s') fun x => opt (tBl x)) (fun s' => semSs body s') s
  | .pass, s => ret (.nx s)
  | .app a e, s => bnd (semE C a s) fun o => bnd (ask fun h => isLst h o) fun _ => bnd (semE C e s) fun v => bnd (appItem o v) fun _ => ret (.nx s)
  | .setF al i f, s => bnd (semF C f s) fun ds => bnd (if al = true then newLst ds else ret (.lst ds)) fun d => if i < s.length then ret (.nx (s.set i (some d))) else bad
  | .dext i a k v, s => bnd (semE C a s) fun x => bnd (ask fun h => dctOf h x) fun p => bnd (if i < s.length ∧ p.1 = false then ret () else bad) fun _ => bnd (semE C v (s.set i none)) fun y => bnd (semE C k (s.set i none)) fun z =>
      if keyOk p.1 z = true ∧ p.2.1.length < sizeMax then ret (.nx (s.set i (some (.dct p.1 (dputK p.1 p.2.1 z) (dputV p.1 p.2.1 p.2.2 z y))))) else bad
  | .bad, _ => bad
noncomputable def semSs : List S → St → M Fl
  | [], s => ret (.nx s)
  | c :: cs, s => bnd (semS c s) fun f => match f with
    | .rt r => ret (.rt r)
    | .nx s' => semSs cs s'
end
end
mutual
/-- what is handed back by a def that began at a heap of n objects: its own lists as lists that nobody changes -/
def snap (n : Nat) (h : AH) : D → Option D
  | .ref k => if k < n then some (.ref k) else match h[k]? with
    | some (.lst ds) => some (.lst ds)
    | some (.dct t ks vs) => some (.dct t ks vs)
    | _ => none
  | .tup ds => (snaps n h ds).map .tup
  | .lst ds => if D.rfs ds = true then some (.lst ds) else none
  | .dct t ks vs => if D.rfs ks = true ∧ D.rfs vs = true then some (.dct t ks vs) else none
  | d => some d
def snaps (n : Nat) (h : AH) : List D → Option (List D)
  | [] => some []
  | d :: ds => match snap n h d, snaps n h ds with
    | some p, some ps => some (p :: ps)
    | _, _ => none
end
/-- .. its own new list, the caller's from now on -/
def owned (n : Nat) (h : AH) : D → Option (D × AH)
  | .ref k => if k < n then none else match h[k]? with
    | some (.lst ds) => some (.ref n, h.take n ++ [.lst ds])
    | some (.dct t ks vs) => some (.ref n, h.take n ++ [.dct t ks vs])
    | _ => none
  | _ => none
/-- the instances that stood ahead are as they were -/
def keepIns (h0 h1 : AH) : Prop := ∀ m c ns ds, m < h0.length → h1[m]? = some (.ins c ns ds) → h0[m]? = some (.ins c ns ds)
def start (f : Fn) (ds : List D) : St := ds.map some ++ List.replicate (f.ns - ds.length) none
open Classical in
noncomputable def fin (m : Md) (h0 : AH) (d : D) : M D := fun h => match m with
  | .keep => some (d, h)
  | .own => if keepIns h0 h then owned h0.length h d else none
  | .cut => if keepIns h0 h then (match snap h0.length h d with
    | some r => some (r, h.take h0.length)
    | none => none) else none
noncomputable def run (T : List Fn) : Nat → Nat → List D → M D
  | 0, _, _ => bad
  | k + 1, f, ds => fun h => match T[f]? with
    | some fn => if ds.length = fn.np then
        (bnd (semSs (run T k) fn.body (start fn ds)) fun fl => match fl with
          | .rt d => fin fn.own h d
          | .nx _ => fin fn.own h .non) h
      else none
    | none => none
end Iv

/-! Rel: what data and the abstract heap stand for. -/
namespace Iv
open PySem L2
/-- the program and the world at hand -/
class Wd where
  P : Program
  w : World

/-- where the n-th object stands; the addresses that no finished list may have -/
structure W where
  ι : Nat → Addr
  T : Addr → Prop
structure G where
  w : W
  h : AH
  H : Hp
/-- a tracked object stands there -/
def Img (g : G) (a : Addr) : Prop := ∃ n o, g.h[n]? = some o ∧ g.w.ι n = a
section
variable (K : PySem.W.Frag) [Wd]
/-- a list that is read and that nobody changes -/
def SqR (g : G) (a : Addr) (xs : List V) : Prop :=
  (Rd g.H a (.lst xs) ∧ ¬ g.w.T a) ∨
    ∃ (o : Obj) (its : Array Value) (n : Nat), K.lookup a = some o ∧ o.cls = .type "list" ∧ o.dict = none ∧ o.data = .seq its n ∧ its.size ≤ sizeLine ∧ Vals xs its.toList
/-- a dict with tuples as keys -/
def dObj (a : Addr) (xs : List (NestedKey × Addr × Value)) : HO := .ext fun h => (xs.length ≤ sizeLine ∧ (a == sysModules) = false ∧ (xs.map (·.1)).Nodup) ∧
  ∃ o es ep, h.get? a = some o ∧ o.ExactDict ∧ o.data = .dict es ep ∧ es.toList = xs.map (entryOfKey (nestedKind Wd.P Wd.w))
def DctH (H : Hp) (a : Addr) (t : Bool) (ks : List D) (kxs ys : List V) : Prop := if t = true then
    ∃ xs : List (NestedKey × Addr × Value), H a = some (dObj a xs) ∧ ks.map D.kt = xs.map (fun x => some x.1) ∧ kxs = xs.map (fun x => V.ref x.2.1) ∧ Vals ys (xs.map (·.2.2))
  else ∃ kvs : List (Key × V), H a = some (.dK kvs) ∧ ks.map D.kk = kvs.map (fun p => some p.1) ∧ kxs = kvs.map (fun p => kV p.1) ∧ ys = kvs.map (·.2)
theorem DctH.at {H H' : Hp} {a : Addr} {t : Bool} {ks : List D} {kxs ys : List V} (x : DctH H a t ks kxs ys) (h : ∀ o, H a = some o → H' a = some o) : DctH H' a t ks kxs ys := by
  cases t with
  | true => obtain ⟨xs, e, q⟩ := x; exact ⟨xs, h _ e, q⟩
  | false => obtain ⟨xs, e, q⟩ := x; exact ⟨xs, h _ e, q⟩
/-- an object that may be written -/
def isO : HO → Bool
  | .lst _ => true
  | .dK _ => true
  | .ins _ _ _ => true
  | .ext _ => true
  | _ => false
theorem DctH.has {H : Hp} {a : Addr} {t : Bool} {ks : List D} {kxs ys : List V} (x : DctH H a t ks kxs ys) : ∃ o, H a = some o ∧ isO o = true := by
  cases t with
  | true => obtain ⟨xs, e, q⟩ := x; exact ⟨_, e, rfl⟩
  | false => obtain ⟨xs, e, q⟩ := x; exact ⟨_, e, rfl⟩
theorem DctH.len {H : Hp} {a : Addr} {t : Bool} {ks : List D} {kxs ys : List V} (x : DctH H a t ks kxs ys) : kxs.length = ks.length ∧ ys.length = ks.length := by
  cases t with
  | true =>
    obtain ⟨xs, e, q1, rfl, q3⟩ := x
    have l1 := congrArg List.length q1
    have l3 := q3.length
    simp only [List.length_map] at l1 l3 ⊢
    omega
  | false =>
    obtain ⟨xs, e, q1, rfl, rfl⟩ := x
    have l1 := congrArg List.length q1
    simp only [List.length_map] at l1 ⊢
    omega
/-- a class of the text -/
def clsAt (c : Str) : Option Addr := match PySem.W.nsIn K mainGlobals c with
  | some (some (.ref C)) => some C
  | _ => none
mutual
def Rep (g : G) : D → V → Prop
  | .non, v => v = .non
  | .bl b, v => v = .bl b
  | .int i, v => v = .int i
  | .str x, v => v = .str x
  | .tup ds, v => ∃ a xs, v = .ref a ∧ SqT K g.H a xs ∧ Reps g ds xs
  | .lst ds, v => ∃ a xs, v = .ref a ∧ SqR K g a xs ∧ Reps g ds xs
  | .dct t ks vs, v => ∃ a kxs ys, v = .ref a ∧ DctH g.H a t ks kxs ys ∧ ¬ g.w.T a ∧ Reps g ks kxs ∧ Reps g vs ys
  | .ref n, v => n < g.h.length ∧ v = .ref (g.w.ι n)
def Reps (g : G) : List D → List V → Prop
  | [], xs => xs = []
  | d :: ds, xs => ∃ y ys, xs = y :: ys ∧ Rep g d y ∧ Reps g ds ys
end
def Obj1 (g : G) (n : Nat) : AO → Prop
  | .lst ds => D.rfs ds = true ∧ ∃ xs, g.H (g.w.ι n) = some (.lst xs) ∧ Reps K g ds xs
  | .dct t ks vs => (D.rfs ks = true ∧ D.rfs vs = true) ∧ ∃ kxs ys, DctH g.H (g.w.ι n) t ks kxs ys ∧ Reps K g ks kxs ∧ Reps K g vs ys
  | .ins c ns ds => ∃ C dx ys, clsAt K c = some C ∧ g.H (g.w.ι n) = some (.ins C dx (ns.zip ys)) ∧ g.H dx = some (.own (g.w.ι n)) ∧ ns.length = ys.length ∧ Reps K g ds ys
structure Rel (g : G) : Prop where
  img : ∀ a, Img g a → g.w.T a
  inj : ∀ m n, m < g.h.length → n < g.h.length → g.w.ι m = g.w.ι n → m = n
  obj : ∀ n o, g.h[n]? = some o → Obj1 K g n o
  dom : ∀ a, g.w.T a → ∃ o, g.H a = some o
end
structure Ext (g g' : G) : Prop where
  len : g.h.length ≤ g'.h.length
  ids : ∀ n, n < g.h.length → g'.w.ι n = g.w.ι n
  keep : ∀ a o, g.H a = some o → ¬ Img g a → g'.H a = some o
  there : ∀ a o, g.H a = some o → ∃ o', g'.H a = some o'
  tnew : ∀ a, g'.w.T a → g.w.T a ∨ g.H a = none
  told : ∀ a, g.w.T a → g'.w.T a
  inew : ∀ a, Img g' a → Img g a ∨ g.H a = none
theorem Ext.refl (g : G) : Ext g g := ⟨Nat.le_refl _, fun _ _ => rfl, fun _ _ h _ => h, fun _ o h => ⟨o, h⟩, fun _ h => .inl h, fun _ h => h, fun _ h => .inl h⟩
theorem Ext.trans {a b c : G} (x : Ext a b) (y : Ext b c) : Ext a c where
  len := Nat.le_trans x.len y.len
  ids := fun n hn => (y.ids n (Nat.lt_of_lt_of_le hn x.len)).trans (x.ids n hn)
  keep := fun p o h hi => y.keep p o (x.keep p o h hi) fun z => (x.inew p z).elim hi fun q => by rw [h] at q; cases q
  there := fun p o h => by
    obtain ⟨o', h'⟩ := x.there p o h
    exact y.there p o' h'
  tnew := fun p h => (y.tnew p h).elim (fun q => x.tnew p q) fun q => .inr (by
    cases e : a.H p with
    | none => rfl
    | some o =>
      obtain ⟨o', h'⟩ := x.there p o e
      rw [h'] at q; cases q)
  told := fun p h => y.told p (x.told p h)
  inew := fun p h => (y.inew p h).elim (fun q => x.inew p q) fun q => .inr (by
    cases e : a.H p with
    | none => rfl
    | some o =>
      obtain ⟨o', h'⟩ := x.there p o e
      rw [h'] at q; cases q)

section
variable {K : PySem.W.Frag} {g g' : G} [Wd]
theorem Obj1.carry {n n' : Nat} {o : AO} (q : Obj1 K g n o) (e : g'.w.ι n' = g.w.ι n) (hH : ∀ ho, g.H (g.w.ι n) = some ho → isO ho = true → g'.H (g.w.ι n) = some ho) (hown : ∀ b a, g.H b = some (.own a) → g'.H b = some (.own a))
    (hr : ∀ ds xs, (D.rfs ds = true ∨ ∃ c ns, o = .ins c ns ds) → Reps K g ds xs → Reps K g' ds xs) : Obj1 K g' n' o := by
  cases o with
  | lst ds =>
    obtain ⟨h1, xs, h2, h3⟩ := q
    exact ⟨h1, xs, by rw [e]; exact hH _ h2 rfl, hr _ _ (.inl h1) h3⟩
  | dct t ks vs =>
    obtain ⟨h1, kxs, ys, h2, h3, h4⟩ := q
    obtain ⟨ho, e1, e2⟩ := h2.has
    exact ⟨h1, kxs, ys, by rw [e]; exact h2.at fun o z => by rw [e1] at z; cases z; exact hH _ e1 e2, hr _ _ (.inl h1.1) h3, hr _ _ (.inl h1.2) h4⟩
  | ins c ns ds =>
    obtain ⟨C, dx, ys, h1, h2, h3, h4, h5⟩ := q
    exact ⟨C, dx, ys, h1, by rw [e]; exact hH _ h2 rfl, by rw [e]; exact hown _ _ h3, h4, hr _ _ (.inr ⟨c, ns, rfl⟩) h5⟩
theorem Obj1.has {n : Nat} {o : AO} (q : Obj1 K g n o) : ∃ ho, g.H (g.w.ι n) = some ho ∧ isO ho = true := by
  cases o with
  | lst ds => obtain ⟨_, xs, e, _⟩ := q; exact ⟨_, e, rfl⟩
  | dct t ks vs => obtain ⟨_, kxs, ys, e, _⟩ := q; exact e.has
  | ins c ns ds => obtain ⟨C, dx, ys, _, e, _⟩ := q; exact ⟨_, e, rfl⟩
theorem Rel.imgHas (r : Rel K g) {a : Addr} (i : Img g a) : ∃ ho, g.H a = some ho ∧ isO ho = true := by
  obtain ⟨n, o, h1, h3⟩ := i
  have q := (r.obj n o h1).has
  rw [h3] at q
  exact q
theorem Rel.notImg (r : Rel K g) {a : Addr} {o : HO} (h : g.H a = some o) (hl : isO o = false) : ¬ Img g a := fun i => by
  obtain ⟨ho, e, z⟩ := r.imgHas i
  rw [h] at e
  cases e
  rw [hl] at z
  cases z
theorem Ext.ownK (r : Rel K g) (x : Ext g g') {b a : Addr} (h : g.H b = some (.own a)) : g'.H b = some (.own a) := x.keep b _ h (r.notImg h rfl)
theorem Ext.tup (r : Rel K g) (x : Ext g g') {a : Addr} {xs : List V} (h : SqT K g.H a xs) : SqT K g'.H a xs := by
  rcases h with (h | ⟨o, h⟩) | h
  · exact .inl (.inl (x.keep a _ h (r.notImg h rfl)))
  · exact .inl (.inr ⟨o, x.keep a _ h (r.notImg h rfl)⟩)
  · exact .inr h
theorem Ext.sqr (r : Rel K g) (x : Ext g g') {a : Addr} {xs : List V} (h : SqR K g a xs) : SqR K g' a xs := by
  rcases h with ⟨h, ht⟩ | h
  · have ni : ¬ Img g a := fun i => ht (r.img a i)
    have hs : ∃ o, g.H a = some o := by
      rcases h with h | ⟨o, h⟩
      · exact ⟨_, h⟩
      · exact ⟨_, h⟩
    obtain ⟨o, ho⟩ := hs
    have nt : ¬ g'.w.T a := fun z => (x.tnew a z).elim ht fun q => by rw [ho] at q; cases q
    refine .inl ⟨?_, nt⟩
    rcases h with h | ⟨o, h⟩
    · exact .inl (x.keep a _ h ni)
    · exact .inr ⟨o, x.keep a _ h ni⟩
  · exact .inr h
theorem Ext.dct (r : Rel K g) (x : Ext g g') {a : Addr} {t : Bool} {ks : List D} {kxs ys : List V} (h : DctH g.H a t ks kxs ys) (ht : ¬ g.w.T a) : DctH g'.H a t ks kxs ys ∧ ¬ g'.w.T a := by
  refine ⟨h.at fun o e => x.keep a o e fun i => ht (r.img a i), fun z => (x.tnew a z).elim ht fun q => ?_⟩
  obtain ⟨o, e, _⟩ := h.has
  rw [q] at e
  cases e
mutual
theorem Rep.ext (r : Rel K g) (x : Ext g g') : ∀ (d : D) {v : V}, Rep K g d v → Rep K g' d v
  | .non, _, h => by simpa only [Rep] using h
  | .bl _, _, h => by simpa only [Rep] using h
  | .int _, _, h => by simpa only [Rep] using h
  | .str _, _, h => by simpa only [Rep] using h
  | .tup ds, _, h => by
    simp only [Rep] at h ⊢
    obtain ⟨a, xs, e, q, rs⟩ := h
    exact ⟨a, xs, e, x.tup r q, Reps.ext r x ds rs⟩
  | .lst ds, _, h => by
    simp only [Rep] at h ⊢
    obtain ⟨a, xs, e, q, rs⟩ := h
    exact ⟨a, xs, e, x.sqr r q, Reps.ext r x ds rs⟩
  | .dct t ks vs, _, h => by
    simp only [Rep] at h ⊢
    obtain ⟨a, kxs, ys, e, q, ht, rk, rs⟩ := h
    obtain ⟨q', ht'⟩ := x.dct r q ht
    exact ⟨a, kxs, ys, e, q', ht', Reps.ext r x ks rk, Reps.ext r x vs rs⟩
  | .ref n, _, h => by
    simp only [Rep] at h ⊢
    exact ⟨Nat.lt_of_lt_of_le h.1 x.len, by rw [h.2, x.ids n h.1]⟩
theorem Reps.ext (r : Rel K g) (x : Ext g g') : ∀ (ds : List D) {xs : List V}, Reps K g ds xs → Reps K g' ds xs
  | [], _, h => by simpa only [Reps] using h
  | d :: ds, _, h => by
    simp only [Reps] at h ⊢
    obtain ⟨y, ys, e, q, rs⟩ := h
    exact ⟨y, ys, e, Rep.ext r x d q, Reps.ext r x ds rs⟩
end
theorem Reps.nil : Reps K g [] [] := by simp only [Reps]
theorem Reps.cons {d : D} {ds : List D} {v : V} {vs : List V} (h : Rep K g d v) (t : Reps K g ds vs) : Reps K g (d :: ds) (v :: vs) := by
  simp only [Reps]
  exact ⟨v, vs, rfl, h, t⟩
theorem Reps.length : ∀ {ds : List D} {xs : List V}, Reps K g ds xs → ds.length = xs.length
  | [], xs, h => by
    simp only [Reps] at h
    subst h
    rfl
  | d :: ds, xs, h => by
    simp only [Reps] at h
    obtain ⟨y, ys, rfl, _, t⟩ := h
    simp [Reps.length t]
theorem Reps.get : ∀ {ds : List D} {xs : List V} {i : Nat} {d : D}, Reps K g ds xs → ds[i]? = some d → ∃ v, xs[i]? = some v ∧ Rep K g d v
  | [], xs, i, d, h, e => by simp at e
  | d :: ds, xs, 0, d', h, e => by
    simp only [Reps] at h
    obtain ⟨y, ys, rfl, q, t⟩ := h
    simp at e
    subst e
    exact ⟨y, rfl, q⟩
  | d :: ds, xs, i + 1, d', h, e => by
    simp only [Reps] at h
    obtain ⟨y, ys, rfl, q, t⟩ := h
    simpa using Reps.get t (by simpa using e)
theorem Reps.set {d : D} {v : V} (hv : Rep K g d v) : ∀ {ds : List D} {xs : List V} (i : Nat), Reps K g ds xs → Reps K g (ds.set i d) (xs.set i v)
  | [], xs, i, h => by
    simp only [Reps] at h
    subst h
    exact Reps.nil
  | e :: ds, xs, 0, h => by
    simp only [Reps] at h
    obtain ⟨y, ys, rfl, q, t⟩ := h
    exact Reps.cons hv t
  | e :: ds, xs, i + 1, h => by
    simp only [Reps] at h
    obtain ⟨y, ys, rfl, q, t⟩ := h
    exact Reps.cons q (Reps.set hv i t)
theorem Reps.append : ∀ {ds es : List D} {xs ys : List V}, Reps K g ds xs → Reps K g es ys → Reps K g (ds ++ es) (xs ++ ys)
  | [], es, xs, ys, h, q => by
    simp only [Reps] at h
    subst h
    exact q
  | d :: ds, es, xs, ys, h, q => by
    simp only [Reps] at h
    obtain ⟨y, zs, rfl, p, t⟩ := h
    exact Reps.cons p (Reps.append t q)
theorem Reps.take : ∀ {ds : List D} {xs : List V} (n : Nat), Reps K g ds xs → Reps K g (ds.take n) (xs.take n)
  | ds, xs, 0, h => by simpa using Reps.nil
  | [], xs, n + 1, h => by
    simp only [Reps] at h
    subst h
    exact Reps.nil
  | d :: ds, xs, n + 1, h => by
    simp only [Reps] at h
    obtain ⟨y, zs, rfl, p, t⟩ := h
    exact Reps.cons p (Reps.take n t)
theorem Reps.drop : ∀ {ds : List D} {xs : List V} (n : Nat), Reps K g ds xs → Reps K g (ds.drop n) (xs.drop n)
  | ds, xs, 0, h => by simpa using h
  | [], xs, n + 1, h => by
    simp only [Reps] at h
    subst h
    exact Reps.nil
  | d :: ds, xs, n + 1, h => by
    simp only [Reps] at h
    obtain ⟨y, zs, rfl, p, t⟩ := h
    simpa using Reps.drop n t
theorem rep_int {i : Int} {v : V} : Rep K g (.int i) v ↔ v = .int i := by simp only [Rep]
theorem rep_bl {b : Bool} {v : V} : Rep K g (.bl b) v ↔ v = .bl b := by simp only [Rep]
theorem rep_str {x : Str} {v : V} : Rep K g (.str x) v ↔ v = .str x := by simp only [Rep]
theorem rep_non {v : V} : Rep K g .non v ↔ v = .non := by simp only [Rep]
theorem rep_ref {n : Nat} {v : V} : Rep K g (.ref n) v ↔ n < g.h.length ∧ v = .ref (g.w.ι n) := by simp only [Rep]
theorem rep_tup {ds : List D} {v : V} : Rep K g (.tup ds) v ↔ ∃ a xs, v = .ref a ∧ SqT K g.H a xs ∧ Reps K g ds xs := by simp only [Rep]
theorem rep_dct {t : Bool} {ks vs : List D} {v : V} : Rep K g (.dct t ks vs) v ↔ ∃ a kxs ys, v = .ref a ∧ DctH g.H a t ks kxs ys ∧ ¬ g.w.T a ∧ Reps K g ks kxs ∧ Reps K g vs ys := by simp only [Rep]
theorem rep_lst {ds : List D} {v : V} : Rep K g (.lst ds) v ↔ ∃ a xs, v = .ref a ∧ SqR K g a xs ∧ Reps K g ds xs := by simp only [Rep]

/-- the slots -/
structure Slots (K : PySem.W.Frag) [Wd] (g : G) (s : St) (σ : L2.St) : Prop where
  len : s.length = σ.length
  get : ∀ (i : Nat) (d : D), s[i]? = some (some d) → ∃ v, σ[i]? = some (some v) ∧ Rep K g d v
theorem Slots.ext (r : Rel K g) (x : Ext g g') {s : St} {σ : L2.St} (h : Slots K g s σ) : Slots K g' s σ :=
  ⟨h.len, fun i d e => let ⟨v, e1, q⟩ := h.get i d e; ⟨v, e1, Rep.ext r x d q⟩⟩
theorem Slots.set {s : St} {σ : L2.St} {i : Nat} {d : D} {v : V} (h : Slots K g s σ) (q : Rep K g d v) : Slots K g (s.set i (some d)) (σ.set i (some v)) := by
  refine ⟨by simp [h.len], fun j e hj => ?_⟩
  by_cases z : i = j
  · subst z
    by_cases hl : i < s.length
    · rw [List.getElem?_set_self hl] at hj
      cases hj
      exact ⟨v, by rw [List.getElem?_set_self (by rw [← h.len]; exact hl)], q⟩
    · rw [List.getElem?_eq_none (by simpa using hl)] at hj
      cases hj
  · rw [List.getElem?_set_ne z] at hj
    obtain ⟨u, e1, p⟩ := h.get j e hj
    exact ⟨u, by rw [List.getElem?_set_ne z]; exact e1, p⟩

/-! ### what is asked of a heap's worker -/
def Ok {α : Type} (K : PySem.W.Frag) [Wd] (g : G) (m : M α) (P : G → α → Prop) : Prop :=
  ∃ a h', m g.h = some (a, h') ∧ ∀ w' H', Rel K ⟨w', h', H'⟩ → Ext g ⟨w', h', H'⟩ → P ⟨w', h', H'⟩ a
theorem Ok.bnd {α β : Type} {m : M α} {f : α → M β} {P : G → β → Prop} (h : Ok K g (Iv.bnd m f) P) : Ok K g m fun g1 a => Ok K g1 (f a) P := by
  obtain ⟨b, h2, e, q⟩ := h
  unfold Iv.bnd at e
  split at e
  · rename_i a h1 e1
    refine ⟨a, h1, e1, fun w1 H1 r1 x1 => ⟨b, h2, e, fun w2 H2 r2 x2 => q w2 H2 r2 (x1.trans x2)⟩⟩
  · cases e
theorem Ok.mono {α : Type} {m : M α} {P Q : G → α → Prop} (h : Ok K g m P) (hq : ∀ g' a, Rel K g' → Ext g g' → P g' a → Q g' a) : Ok K g m Q := by
  obtain ⟨a, h1, e, q⟩ := h
  exact ⟨a, h1, e, fun w' H' r x => hq _ _ r x (q w' H' r x)⟩
theorem Ok.ret {α : Type} {a : α} {P : G → α → Prop} (r : Rel K g) (h : Ok K g (Iv.ret a) P) : P g a := by
  obtain ⟨b, h', e, q⟩ := h
  cases e
  exact q g.w g.H r (Ext.refl g)
theorem Ok.ret' {α : Type} {a : α} {P : G → α → Prop} (h : Ok K g (Iv.ret a) P) {w' : W} {H' : Hp} (r : Rel K ⟨w', g.h, H'⟩) (x : Ext g ⟨w', g.h, H'⟩) : P ⟨w', g.h, H'⟩ a := by
  obtain ⟨b, h', e, q⟩ := h
  cases e
  exact q w' H' r x
theorem Ok.opt {α : Type} {o : Option α} {P : G → α → Prop} (h : Ok K g (Iv.opt o) P) : ∃ a, o = some a ∧ Ok K g (Iv.ret a) P := by
  cases o with
  | none =>
    obtain ⟨b, h', e, q⟩ := h
    cases e
  | some a => exact ⟨a, rfl, h⟩
theorem Ok.ask {α : Type} {f : AH → Option α} {P : G → α → Prop} (h : Ok K g (Iv.ask f) P) : ∃ a, f g.h = some a ∧ Ok K g (Iv.ret a) P := by
  obtain ⟨b, h', e, q⟩ := h
  unfold Iv.ask at e
  cases z : f g.h with
  | none => rw [z] at e; cases e
  | some a =>
    rw [z] at e
    have e1 : a = b := congrArg Prod.fst (Option.some.inj e)
    have e2 : g.h = h' := congrArg Prod.snd (Option.some.inj e)
    subst e1
    subst e2
    exact ⟨a, rfl, a, g.h, rfl, q⟩
theorem Ok.askb {α β : Type} {o : AH → Option α} {f : α → M β} {P : G → β → Prop} (h : Ok K g (Iv.bnd (Iv.ask o) f) P) : ∃ a, o g.h = some a ∧ Ok K g (f a) P := by
  obtain ⟨b, h', e, q⟩ := h
  unfold Iv.bnd Iv.ask at e
  cases z : o g.h with
  | none => rw [z] at e; cases e
  | some a =>
    rw [z] at e
    exact ⟨a, rfl, b, h', e, q⟩
theorem Ok.optb {α β : Type} {o : Option α} {f : α → M β} {P : G → β → Prop} (h : Ok K g (Iv.bnd (Iv.opt o) f) P) : ∃ a, o = some a ∧ Ok K g (f a) P := by
  cases o with
  | none =>
    obtain ⟨b, h', e, q⟩ := h
    cases e
  | some a => exact ⟨a, rfl, h⟩
theorem Ok.bad {α : Type} {P : G → α → Prop} (h : Ok K g (Iv.bad : M α) P) : False := by
  obtain ⟨b, h', e, q⟩ := h
  cases e

/-- an untracked new object -/
theorem Ext.lay (r : Rel K g) {p : Addr} {o : HO} (hp : g.H p = none) : Ext g ⟨g.w, g.h, upd g.H p o⟩ ∧ Rel K ⟨g.w, g.h, upd g.H p o⟩ := by
  have x : Ext g ⟨g.w, g.h, upd g.H p o⟩ := by
    refine ⟨Nat.le_refl _, fun _ _ => rfl, fun a u h _ => ?_, fun a u h => ⟨u, ?_⟩, fun a h => .inl h, fun a h => h, fun a h => .inl h⟩
    · show upd g.H p o a = some u
      rw [upd_ne (ne_of_none h hp)]
      exact h
    · show upd g.H p o a = some u
      rw [upd_ne (ne_of_none h hp)]
      exact h
  refine ⟨x, fun a i => r.img a i, r.inj, fun n u h => ?_, fun a h => ?_⟩
  · refine (r.obj n u h).carry rfl (fun ho e _ => ?_) (fun b a e => x.ownK r e) fun ds xs _ q => Reps.ext r x ds q
    show upd g.H p o (g.w.ι n) = some ho
    rw [upd_ne (ne_of_none e hp)]
    exact e
  · obtain ⟨u, e⟩ := r.dom a h
    exact ⟨u, by show upd g.H p o a = some u; rw [upd_ne (ne_of_none e hp)]; exact e⟩

/-- the address a is nobody's finished list -/
def G.mark (g : G) (a : Addr) : G := ⟨{ g.w with T := fun b => g.w.T b ∨ b = a }, g.h, g.H⟩
/-- .. and we keep it for us -/
theorem Ext.layT (r : Rel K g) {p : Addr} {o : HO} (hp : g.H p = none) : Ext g (G.mark ⟨g.w, g.h, upd g.H p o⟩ p) ∧ Rel K (G.mark ⟨g.w, g.h, upd g.H p o⟩ p) := by
  obtain ⟨x, r'⟩ := Ext.lay (o := o) r hp
  have x' : Ext g (G.mark ⟨g.w, g.h, upd g.H p o⟩ p) := ⟨x.len, x.ids, x.keep, x.there, fun a h => h.elim .inl fun e => .inr (by rw [e]; exact hp), fun a h => .inl h, x.inew⟩
  refine ⟨x', fun a i => .inl (r'.img a i), r'.inj, fun n u h => ?_, fun a h => ?_⟩
  · refine (r.obj n u h).carry rfl (fun ho e _ => ?_) (fun b a e => x'.ownK r e) fun ds xs _ q => Reps.ext r x' ds q
    show upd g.H p o (g.w.ι n) = some ho
    rw [upd_ne (ne_of_none e hp)]
    exact e
  · rcases h with h | h
    · exact r'.dom a h
    · exact ⟨o, by rw [h]; exact upd_same⟩
mutual
theorem Rep.weak {w w' : W} {h : AH} {H : Hp} (hι : w'.ι = w.ι) (hT : ∀ b, w'.T b → w.T b) : ∀ (d : D) {v : V}, Rep K ⟨w, h, H⟩ d v → Rep K ⟨w', h, H⟩ d v
  | .non, _, q => by simpa only [Rep] using q
  | .bl _, _, q => by simpa only [Rep] using q
  | .int _, _, q => by simpa only [Rep] using q
  | .str _, _, q => by simpa only [Rep] using q
  | .tup ds, _, q => by
    simp only [Rep] at q ⊢
    obtain ⟨a, xs, e, q, rs⟩ := q
    exact ⟨a, xs, e, q, Reps.weak hι hT ds rs⟩
  | .lst ds, _, q => by
    simp only [Rep] at q ⊢
    obtain ⟨a, xs, e, q, rs⟩ := q
    refine ⟨a, xs, e, ?_, Reps.weak hι hT ds rs⟩
    rcases q with ⟨q, t⟩ | q
    · exact .inl ⟨q, fun z => t (hT a z)⟩
    · exact .inr q
  | .dct t ks vs, _, q => by
    simp only [Rep] at q ⊢
    obtain ⟨a, kxs, ys, e, q, ht, rk, rs⟩ := q
    exact ⟨a, kxs, ys, e, q, fun z => ht (hT a z), Reps.weak hι hT ks rk, Reps.weak hι hT vs rs⟩
  | .ref n, _, q => by
    simp only [Rep] at q ⊢
    exact ⟨q.1, by rw [q.2, hι]⟩
theorem Reps.weak {w w' : W} {h : AH} {H : Hp} (hι : w'.ι = w.ι) (hT : ∀ b, w'.T b → w.T b) : ∀ (ds : List D) {xs : List V}, Reps K ⟨w, h, H⟩ ds xs → Reps K ⟨w', h, H⟩ ds xs
  | [], _, q => by simpa only [Reps] using q
  | d :: ds, _, q => by
    simp only [Reps] at q ⊢
    obtain ⟨y, ys, e, q, rs⟩ := q
    exact ⟨y, ys, e, Rep.weak hι hT d q, Reps.weak hι hT ds rs⟩
end
mutual
/-- only refs below n -/
def D.und (n : Nat) : D → Bool
  | .tup ds => D.unds n ds
  | .lst ds => D.unds n ds
  | .dct _ ks vs => D.unds n ks && D.unds n vs
  | .ref k => decide (k < n)
  | _ => true
def D.unds (n : Nat) : List D → Bool
  | [] => true
  | d :: ds => D.und n d && D.unds n ds
end
mutual
theorem D.rf_below {n : Nat} : ∀ (d : D), D.rf d = true → D.und n d = true
  | .non, _ => rfl
  | .bl _, _ => rfl
  | .int _, _ => rfl
  | .str _, _ => rfl
  | .tup ds, h => D.rfs_belows ds h
  | .lst ds, h => D.rfs_belows ds h
  | .dct _ ks vs, h => by
    simp only [D.rf, Bool.and_eq_true] at h
    simp only [D.und, D.rfs_belows ks h.1, D.rfs_belows vs h.2, Bool.and_self]
  | .ref _, h => by simp [D.rf] at h
theorem D.rfs_belows {n : Nat} : ∀ (ds : List D), D.rfs ds = true → D.unds n ds = true
  | [], _ => rfl
  | d :: ds, h => by
    simp only [D.rfs, Bool.and_eq_true] at h
    simp only [D.unds, D.rf_below d h.1, D.rfs_belows ds h.2, Bool.and_self]
end
mutual
theorem Rep.below : ∀ (d : D) {v : V}, Rep K g d v → D.und g.h.length d = true
  | .non, _, _ => rfl
  | .bl _, _, _ => rfl
  | .int _, _, _ => rfl
  | .str _, _, _ => rfl
  | .tup ds, _, q => by
    simp only [Rep] at q
    obtain ⟨a, xs, e, q, rs⟩ := q
    exact Reps.belows ds rs
  | .lst ds, _, q => by
    simp only [Rep] at q
    obtain ⟨a, xs, e, q, rs⟩ := q
    exact Reps.belows ds rs
  | .dct t ks vs, _, q => by
    simp only [Rep] at q
    obtain ⟨a, kxs, ys, e, q, ht, rk, rs⟩ := q
    simp only [D.und, Reps.belows ks rk, Reps.belows vs rs, Bool.and_self]
  | .ref n, _, q => by
    simp only [Rep] at q
    simp only [D.und, decide_eq_true_eq]
    exact q.1
theorem Reps.belows : ∀ (ds : List D) {xs : List V}, Reps K g ds xs → D.unds g.h.length ds = true
  | [], _, _ => rfl
  | d :: ds, _, q => by
    simp only [Reps] at q
    obtain ⟨y, ys, e, q, rs⟩ := q
    simp only [D.unds, Rep.below d q, Reps.belows ds rs, Bool.and_self]
end
mutual
/-- where the refs are kept the rest of the heap doesn't matter -/
theorem Rep.cutp {n : Nat} {w w' : W} {h h' : AH} {H : Hp} (hT : ∀ b, w'.T b → w.T b) (hn : n ≤ h'.length) (hι : ∀ k, k < n → w'.ι k = w.ι k) : ∀ (d : D) {v : V}, D.und n d = true → Rep K ⟨w, h, H⟩ d v → Rep K ⟨w', h', H⟩ d v
  | .non, _, _, q => by simpa only [Rep] using q
  | .bl _, _, _, q => by simpa only [Rep] using q
  | .int _, _, _, q => by simpa only [Rep] using q
  | .str _, _, _, q => by simpa only [Rep] using q
  | .tup ds, _, f, q => by
    simp only [Rep] at q ⊢
    simp only [D.und] at f
    obtain ⟨a, xs, e, q, rs⟩ := q
    exact ⟨a, xs, e, q, Reps.cutp hT hn hι ds f rs⟩
  | .lst ds, _, f, q => by
    simp only [Rep] at q ⊢
    simp only [D.und] at f
    obtain ⟨a, xs, e, q, rs⟩ := q
    refine ⟨a, xs, e, ?_, Reps.cutp hT hn hι ds f rs⟩
    rcases q with ⟨q, t⟩ | q
    · exact .inl ⟨q, fun z => t (hT a z)⟩
    · exact .inr q
  | .dct t ks vs, _, f, q => by
    simp only [Rep] at q ⊢
    simp only [D.und, Bool.and_eq_true] at f
    obtain ⟨a, kxs, ys, e, q, ht, rk, rs⟩ := q
    exact ⟨a, kxs, ys, e, q, fun z => ht (hT a z), Reps.cutp hT hn hι ks f.1 rk, Reps.cutp hT hn hι vs f.2 rs⟩
  | .ref k, _, f, q => by
    simp only [Rep] at q ⊢
    simp only [D.und, decide_eq_true_eq] at f
    exact ⟨Nat.lt_of_lt_of_le f hn, by rw [q.2, hι k f]⟩
theorem Reps.cutp {n : Nat} {w w' : W} {h h' : AH} {H : Hp} (hT : ∀ b, w'.T b → w.T b) (hn : n ≤ h'.length) (hι : ∀ k, k < n → w'.ι k = w.ι k) : ∀ (ds : List D) {xs : List V}, D.unds n ds = true → Reps K ⟨w, h, H⟩ ds xs → Reps K ⟨w', h', H⟩ ds xs
  | [], _, _, q => by simpa only [Reps] using q
  | d :: ds, _, f, q => by
    simp only [Reps] at q ⊢
    simp only [D.unds, Bool.and_eq_true] at f
    obtain ⟨y, ys, e, q, rs⟩ := q
    exact ⟨y, ys, e, Rep.cutp hT hn hι d f.1 q, Reps.cutp hT hn hι ds f.2 rs⟩
end
/-- without refs the heap's numbers don't matter -/
theorem Rep.plain {w w' : W} {h h' : AH} {H : Hp} (hT : ∀ b, w'.T b → w.T b) (d : D) {v : V} (f : D.rf d = true) (q : Rep K ⟨w, h, H⟩ d v) : Rep K ⟨w', h', H⟩ d v :=
  Rep.cutp (n := 0) hT (Nat.zero_le _) (fun k hk => absurd hk (Nat.not_lt_zero k)) d (D.rf_below d f) q
theorem Reps.plain {w w' : W} {h h' : AH} {H : Hp} (hT : ∀ b, w'.T b → w.T b) (ds : List D) {xs : List V} (f : D.rfs ds = true) (q : Reps K ⟨w, h, H⟩ ds xs) : Reps K ⟨w', h', H⟩ ds xs :=
  Reps.cutp (n := 0) hT (Nat.zero_le _) (fun k hk => absurd hk (Nat.not_lt_zero k)) ds (D.rfs_belows ds f) q
/-- an object that only we know becomes the heap's next one -/
theorem Ext.trackO {g0 : G} (x : Ext g0 g) (r0 : Rel K g) {a : Addr} {o : AO} (h0 : g0.H a = none) (ht : ¬ g.w.T a) (ha : ∃ u, g.H a = some u) (r : Rel K (g.mark a))
    (hob : ∀ w' : W, w'.ι g.h.length = a → (∀ n, n < g.h.length → w'.ι n = g.w.ι n) → (∀ b, w'.T b → g.w.T b ∨ b = a) → Obj1 K ⟨w', g.h ++ [o], g.H⟩ g.h.length o) :
    ∃ w', Ext g0 ⟨w', g.h ++ [o], g.H⟩ ∧ Rel K ⟨w', g.h ++ [o], g.H⟩ ∧ w'.ι g.h.length = a := by
  have noImg : ¬ Img g a := fun i => ht (r0.img a i)
  let w' : W := ⟨fun n => if n = g.h.length then a else g.w.ι n, fun b => g.w.T b ∨ b = a⟩
  have old : ∀ n, n < g.h.length → w'.ι n = g.w.ι n := fun n hn => if_neg (Nat.ne_of_lt hn)
  have new : w'.ι g.h.length = a := if_pos rfl
  have cases' : ∀ {n : Nat} {u : AO}, (g.h ++ [o])[n]? = some u → (n < g.h.length ∧ g.h[n]? = some u) ∨ (n = g.h.length ∧ u = o) := by
    intro n u h1
    by_cases hn : n < g.h.length
    · rw [List.getElem?_append_left hn] at h1
      exact .inl ⟨hn, h1⟩
    · have hn2 : n < (g.h ++ [o]).length := (List.getElem?_eq_some_iff.mp h1).1
      have e : n = g.h.length := by
        rw [List.length_append, List.length_singleton] at hn2
        omega
      subst e
      rw [List.getElem?_append_right (Nat.le_refl _), Nat.sub_self] at h1
      exact .inr ⟨rfl, by simpa using h1.symm⟩
  have imgs : ∀ b, Img ⟨w', g.h ++ [o], g.H⟩ b → Img g b ∨ b = a := by
    rintro b ⟨n, u, h1, h3⟩
    rcases cases' h1 with ⟨hn, h1⟩ | ⟨rfl, _⟩
    · exact .inl ⟨n, u, h1, by rw [← old n hn]; exact h3⟩
    · exact .inr (by rw [← h3]; exact new)
  refine ⟨w', ⟨?_, ?_, x.keep, x.there, ?_, ?_, ?_⟩, ⟨?_, ?_, ?_, ?_⟩, new⟩
  · show g0.h.length ≤ (g.h ++ [o]).length
    have := x.len
    rw [List.length_append]
    omega
  · intro n hn
    exact (old n (Nat.lt_of_lt_of_le hn x.len)).trans (x.ids n hn)
  · rintro b (hb | rfl)
    · exact x.tnew b hb
    · exact .inr h0
  · intro b hb
    exact .inl (x.told b hb)
  · intro b hb
    rcases imgs b hb with hb | rfl
    · exact x.inew b hb
    · exact .inr h0
  · intro b hb
    rcases imgs b hb with hb | rfl
    · exact .inl (r0.img b hb)
    · exact .inr rfl
  · intro m n hm hn h5
    have h5' : w'.ι m = w'.ι n := h5
    have get : ∀ {j : Nat}, j < g.h.length → ∃ o, g.h[j]? = some o := fun {j} hj => ⟨_, List.getElem?_eq_getElem hj⟩
    have hm' : m < (g.h ++ [o]).length := hm
    have hn' : n < (g.h ++ [o]).length := hn
    rw [List.length_append, List.length_singleton] at hm' hn'
    by_cases zm : m < g.h.length
    · by_cases zn : n < g.h.length
      · rw [old m zm, old n zn] at h5'
        exact r0.inj m n zm zn h5'
      · have e : n = g.h.length := by omega
        subst e
        rw [old m zm, new] at h5'
        obtain ⟨o, ho⟩ := get zm
        exact absurd ⟨m, o, ho, h5'⟩ noImg
    · have e : m = g.h.length := by omega
      subst e
      by_cases zn : n < g.h.length
      · rw [old n zn, new] at h5'
        obtain ⟨o, ho⟩ := get zn
        exact absurd ⟨n, o, ho, h5'.symm⟩ noImg
      · omega
  · intro n u h1
    rcases cases' h1 with ⟨hn, h1⟩ | ⟨rfl, rfl⟩
    · have q : Obj1 K (g.mark a) n u := r.obj n u h1
      refine q.carry (old n hn) (fun ho e _ => e) (fun b c e => e) fun ds xs hd rs => ?_
      exact Reps.cutp (n := g.h.length) (w := (g.mark a).w) (w' := w') (h := g.h) (H := g.H) (fun b hb => hb) (by rw [List.length_append]; omega) (fun k hk => old k hk) ds (Reps.belows (g := g.mark a) ds rs) rs
    · exact hob w' new old fun b hb => hb
  · rintro b (hb | rfl)
    · exact r0.dom b hb
    · exact ha
/-- a list that only we know becomes the heap's next object -/
theorem Ext.track {g0 : G} (x : Ext g0 g) (r0 : Rel K g) {a : Addr} {xs : List V} {ds : List D} (h0 : g0.H a = none) (ht : ¬ g.w.T a) (ha : g.H a = some (.lst xs)) (r : Rel K (g.mark a)) (rs : Reps K (g.mark a) ds xs) (hr : D.rfs ds = true) :
    ∃ w', Ext g0 ⟨w', g.h ++ [.lst ds], g.H⟩ ∧ Rel K ⟨w', g.h ++ [.lst ds], g.H⟩ ∧ w'.ι g.h.length = a :=
  Ext.trackO x r0 h0 ht ⟨_, ha⟩ r fun w' e _ hT => ⟨hr, xs, (congrArg g.H e).trans ha, Reps.plain (w := (g.mark a).w) (w' := w') (h := g.h) (H := g.H) hT ds hr rs⟩
theorem Ext.trackD {g0 : G} (x : Ext g0 g) (r0 : Rel K g) {a : Addr} {t : Bool} {ks vs : List D} {kxs ys : List V} (h0 : g0.H a = none) (ht : ¬ g.w.T a) (ha : DctH g.H a t ks kxs ys) (r : Rel K (g.mark a)) (rk : Reps K (g.mark a) ks kxs) (rs : Reps K (g.mark a) vs ys) (hk : D.rfs ks = true) (hr : D.rfs vs = true) :
    ∃ w', Ext g0 ⟨w', g.h ++ [.dct t ks vs], g.H⟩ ∧ Rel K ⟨w', g.h ++ [.dct t ks vs], g.H⟩ ∧ w'.ι g.h.length = a := by
  obtain ⟨ho, e, _⟩ := ha.has
  refine Ext.trackO x r0 h0 ht ⟨_, e⟩ r fun w' e _ hT => ⟨⟨hk, hr⟩, kxs, ys, ?_, Reps.plain (w := (g.mark a).w) (w' := w') (h := g.h) (H := g.H) hT ks hk rk, Reps.plain (w := (g.mark a).w) (w' := w') (h := g.h) (H := g.H) hT vs hr rs⟩
  show DctH g.H (w'.ι g.h.length) t ks kxs ys
  rw [e]
  exact ha
end
end Iv

set_option maxHeartbeats 4000000
/-! Dct: dicts, by what they hold. -/
namespace Iv
open PySem L2 PySem.Spec PyProof.Rows
section
variable {X : Cx} [Wd] {g : G} {pins : List (Addr × Obj)} {σ : L2.St} {s : Shared} {H : Hp}
mutual
theorem nk_heap (I : Inv X pins σ g.H s) : ∀ (d : D) {k : NestedKey} {v : V} {u : Value}, D.nk d = some k → Rep X.K g d v → RelV v u → NestedIs s.heap k u
  | .non, k, v, u, e, h, r => by
    simp only [D.nk, Option.some.injEq] at e
    subst e
    rw [rep_non.mp h] at r
    cases r
    exact .none
  | .bl b, k, v, u, e, h, r => by
    simp only [D.nk, Option.some.injEq] at e
    subst e
    rw [rep_bl.mp h] at r
    cases r
    exact .bool rfl
  | .int i, k, v, u, e, h, r => by
    simp only [D.nk, Option.some.injEq] at e
    subst e
    rw [rep_int.mp h] at r
    obtain ⟨t, rfl⟩ := r
    exact .int i t
  | .str i, k, v, u, e, h, r => by
    simp only [D.nk, Option.some.injEq] at e
    subst e
    rw [rep_str.mp h] at r
    obtain ⟨t, rfl⟩ := r
    exact .text i t
  | .tup ds, k, v, u, e, h, r => by
    simp only [D.nk, Option.map_eq_some_iff] at e
    obtain ⟨ks, e, rfl⟩ := e
    obtain ⟨a, xs, rfl, hq, rs⟩ := rep_tup.mp h
    cases r
    obtain ⟨its, rv, ⟨o, ho, hc, n, hd⟩, _⟩ := I.tuple hq
    exact .tup ho hc hd (by simpa using nks_heap I ds e rs rv)
  | .lst _, _, _, _, e, _, _ => by simp [D.nk] at e
  | .dct _ _ _, _, _, _, e, _, _ => by simp [D.nk] at e
  | .ref _, _, _, _, e, _, _ => by simp [D.nk] at e
theorem nks_heap (I : Inv X pins σ g.H s) : ∀ (ds : List D) {ks : List NestedKey} {vs : List V} {us : List Value}, D.nks ds = some ks → Reps X.K g ds vs → Vals vs us → NestedAll s.heap ks us
  | [], ks, vs, us, e, h, r => by
    simp only [D.nks, Option.some.injEq] at e
    simp only [Reps] at h
    subst e h
    cases r
    exact .nil
  | d :: ds, ks, vs, us, e, h, r => by
    simp only [D.nks] at e
    split at e
    · rename_i p ps e1 e2
      cases e
      simp only [Reps] at h
      obtain ⟨y, ys, rfl, h1, h2⟩ := h
      cases r with
      | cons r1 r2 => exact .cons (nk_heap I d e1 h1 r1) (nks_heap I ds e2 h2 r2)
    · cases e
end
theorem kt_heap (I : Inv X pins σ g.H s) {d : D} {k : NestedKey} {v : V} (e : D.kt d = some k) (h : Rep X.K g d v) : ∃ a, v = .ref a ∧ (nestedKind X.prog X.w).is s.heap k a := by
  cases d <;> simp only [D.kt] at e <;> first | (cases e; done) | skip
  rename_i ds
  split at e
  · rename_i k' e1
    split at e
    · rename_i hd
      cases e
      obtain ⟨a, xs, rfl, hq, rs⟩ := rep_tup.mp h
      exact ⟨a, rfl, nk_heap I (.tup ds) (by simpa only [D.nk] using e1) h rfl, hd⟩
    · cases e
  · cases e
/-- the tree dict in the heap -/
theorem dObj_at (hw : X.w = Wd.w) (hp : X.prog = Wd.P) (I : Inv X pins σ g.H s) {a : Addr} {xs : List (NestedKey × Addr × Value)} {ks : List D} (e : g.H a = some (dObj a xs)) (hk : ks.map D.kt = xs.map (fun x => some x.1)) (rk : Reps X.K g ks (xs.map fun x => V.ref x.2.1)) :
    s.heap.DictOfH (nestedKind X.prog X.w) a xs ∧ xs.length ≤ sizeLine ∧ (a == sysModules) = false := by
  obtain ⟨⟨z1, z2, z3⟩, o, es, ep, h1, h2, h3, h4⟩ := (I.hok a _ e).1
  refine ⟨⟨o, es, ep, h1, h2, h3, by rw [hp, hw]; exact h4, ?_, z3⟩, z1, z2⟩
  clear h4 z1 z3 e
  induction xs generalizing ks with
  | nil => intro x hx; cases hx
  | cons y ys ih =>
    cases ks with
    | nil => simp at hk
    | cons k ks =>
      simp only [List.map_cons, List.cons.injEq] at hk
      simp only [List.map_cons, Reps] at rk
      obtain ⟨v, vs, e2, r1, r2⟩ := rk
      simp only [List.cons.injEq] at e2
      obtain ⟨rfl, rfl⟩ := e2
      intro x hx
      rcases List.mem_cons.mp hx with rfl | hx
      · obtain ⟨b, eb, q⟩ := kt_heap I hk.1 r1
        cases eb
        exact q
      · exact ih hk.2 r2 x hx
theorem dct_rep {K : PySem.W.Frag} {e : D} {t : Bool} {ks vs : List D} {v : V} (q : dctOf g.h e = some (t, ks, vs)) (r : Rel K g) (h : Rep K g e v) : ∃ a kxs ys, v = .ref a ∧ DctH g.H a t ks kxs ys ∧ Reps K g ks kxs ∧ Reps K g vs ys := by
  cases e with
  | dct t' ks' vs' =>
    simp only [dctOf, Option.some.injEq, Prod.mk.injEq] at q
    obtain ⟨rfl, rfl, rfl⟩ := q
    obtain ⟨a, kxs, ys, rfl, h1, _, h2, h3⟩ := rep_dct.mp h
    exact ⟨a, kxs, ys, rfl, h1, h2, h3⟩
  | ref n =>
    obtain ⟨_, rfl⟩ := rep_ref.mp h
    simp only [dctOf] at q
    split at q
    · rename_i t' ks' vs' he
      simp only [Option.some.injEq, Prod.mk.injEq] at q
      obtain ⟨rfl, rfl, rfl⟩ := q
      obtain ⟨_, kxs, ys, h1, h2, h3⟩ := r.obj n _ he
      exact ⟨_, kxs, ys, rfl, h1, h2, h3⟩
    · cases q
  | _ => simp [dctOf] at q
/-! what is found -/
theorem dget_false {K : PySem.W.Frag} {d : D} {k : Key} (hd : D.kk d = some k) : ∀ {ks vs : List D} {kvs : List (Key × V)}, ks.map D.kk = kvs.map (fun p => some p.1) → Reps K g vs (kvs.map (·.2)) →
    (dgetD false ks vs d = none ∧ valV kvs k = none) ∨ ∃ r v, dgetD false ks vs d = some r ∧ valV kvs k = some v ∧ Rep K g r v
  | [], vs, [], _, _ => .inl ⟨by simp [dgetD], rfl⟩
  | [], vs, p :: kvs, h, _ => by simp at h
  | k' :: ks, vs, [], h, _ => by simp at h
  | k' :: ks, [], p :: kvs, _, h => by simp [Reps] at h
  | k' :: ks, v :: vs, p :: kvs, h, rs => by
    simp only [List.map_cons, List.cons.injEq] at h
    simp only [List.map_cons, Reps] at rs
    obtain ⟨y, ys, e, r1, r2⟩ := rs
    simp only [List.cons.injEq] at e
    obtain ⟨rfl, rfl⟩ := e
    have hb : keyB false k' d = decide (p.1 = k) := by simp only [keyB, h.1, hd]; rfl
    by_cases z : p.1 = k
    · exact .inr ⟨v, p.2, by simp only [dgetD, hb, z]; simp, valV_pos z, r1⟩
    · rcases dget_false hd h.2 r2 with ⟨q1, q2⟩ | ⟨r, u, q1, q2, q3⟩
      · exact .inl ⟨by simp only [dgetD, hb, z]; simpa using q1, by rw [valV_neg z]; exact q2⟩
      · exact .inr ⟨r, u, by simp only [dgetD, hb, z]; simpa using q1, by rw [valV_neg z]; exact q2, q3⟩
theorem dget_true {K : PySem.W.Frag} {d : D} {k : NestedKey} (hd : D.kt d = some k) : ∀ {ks vs : List D} {xs : List (NestedKey × Addr × Value)} {ys : List V}, ks.map D.kt = xs.map (fun p => some p.1) → Vals ys (xs.map (·.2.2)) → Reps K g vs ys →
    (dgetD true ks vs d = none ∧ atKey xs k = none) ∨ ∃ r v p, dgetD true ks vs d = some r ∧ atKey xs k = some p ∧ RelV v p.2 ∧ Rep K g r v
  | [], vs, [], _, _, _, _ => .inl ⟨by simp [dgetD], rfl⟩
  | [], vs, p :: kvs, _, h, _, _ => by simp at h
  | k' :: ks, vs, [], _, h, _, _ => by simp at h
  | k' :: ks, [], p :: kvs, ys, _, h, rs => by
    simp only [List.map_cons] at h
    cases h
    simp [Reps] at rs
  | k' :: ks, v :: vs, p :: kvs, ys, h, hv, rs => by
    simp only [List.map_cons, List.cons.injEq] at h
    simp only [List.map_cons] at hv
    cases hv with
    | cons hv1 hv2 =>
    simp only [Reps] at rs
    obtain ⟨y, ys, e, r1, r2⟩ := rs
    simp only [List.cons.injEq] at e
    obtain ⟨rfl, rfl⟩ := e
    have hb : keyB true k' d = decide (p.1 = k) := by simp only [keyB, h.1, hd]; rfl
    by_cases z : p.1 = k
    · exact .inr ⟨v, _, p.2, by simp only [dgetD, hb, z]; simp, by simp [atKey, z], hv1, r1⟩
    · have e : atKey (p :: kvs) k = atKey kvs k := by simp [atKey, z]
      rcases dget_true hd h.2 hv2 r2 with ⟨q1, q2⟩ | ⟨r, u, p', q1, q2, q3, q4⟩
      · exact .inl ⟨by simp only [dgetD, hb, z]; simpa using q1, by rw [e]; exact q2⟩
      · exact .inr ⟨r, u, p', by simp only [dgetD, hb, z]; simpa using q1, by rw [e]; exact q2, q3, q4⟩
theorem kk_kV {K : PySem.W.Frag} {d : D} {k : Key} {v : V} (e : D.kk d = some k) (h : Rep K g d v) : v = kV k := by
  cases d <;> simp only [D.kk, Option.some.injEq] at e <;> first | (cases e; done) | skip
  · subst e; exact rep_int.mp h
  · subst e; exact rep_str.mp h
theorem kV_rep {K : PySem.W.Frag} {d : D} {k : Key} (e : D.kk d = some k) : Rep K g d (kV k) := by
  cases d <;> simp only [D.kk, Option.some.injEq] at e <;> first | (cases e; done) | skip
  · subst e; exact rep_int.mpr rfl
  · subst e; exact rep_str.mpr rfl
/-! in, not in -/
def rInDct (K : PySem.W.Frag) (neg : Bool) : R2 := fun x y H Q => ∃ (g : G) (d e : D) (t : Bool) (ks vs : List D), g.H = H ∧ Rel K g ∧ Rep K g d x ∧ Rep K g e y ∧ dctOf g.h e = some (t, ks, vs) ∧ keyOk t d = true ∧
  Q (.bl (if neg = true then !(dgetD t ks vs d).isSome else (dgetD t ks vs d).isSome)) H
theorem room1 {A : Around} (hu : A.units + 64 < cLine) (P : Program) (w : World) : (nestedKind P w).room A.in1 := by
  show A.units + 1 + 8 < cLine
  omega
theorem op_inDct (hw : X.w = Wd.w) (hp : X.prog = Wd.P) (hu : X.A.units + 64 < cLine) : OpR X (compareOp .In) (rInDct X.K false) := by
  intro pins s σ H x y v u Q I rx ry h
  obtain ⟨g, d, e, t, ks, vs, rfl, r, hd, he, hq, hk, q⟩ := h
  obtain ⟨a, kxs, ys, rfl, hdc, rk, rs⟩ := dct_rep hq r he
  cases ry
  cases t with
  | false =>
    obtain ⟨kvs, e1, e2, rfl, rfl⟩ := hdc
    obtain ⟨k, hkk⟩ := Option.isSome_iff_exists.mp (show (D.kk d).isSome = true from hk)
    have ev := kk_kV hkk hd
    subst ev
    refine d_in (by omega) I (DGet.k e1) rx fun s' I' => ⟨.bl _, g.H, I', rfl, ?_⟩
    have eq : (valV kvs k).isSome = (dgetD false ks vs d).isSome := by rcases dget_false hkk e2 rs with ⟨q1, q2⟩ | ⟨r, v, q1, q2, _⟩ <;> rw [q1, q2] <;> rfl
    rw [eq]
    exact q
  | true =>
    obtain ⟨xs, e1, e2, rfl, hv⟩ := hdc
    obtain ⟨k, hkk⟩ := Option.isSome_iff_exists.mp (show (D.kt d).isSome = true from hk)
    obtain ⟨b, rfl, hb⟩ := kt_heap I hkk hd
    cases rx
    obtain ⟨m1, m2, m3⟩ := dObj_at hw hp I e1 e2 rk
    refine wpAny_in_heap (room1 hu _ _) hb m3 m1 ?_
    have eq : (atKey xs k).isSome = (dgetD true ks vs d).isSome := by rcases dget_true hkk e2 hv rs with ⟨q1, q2⟩ | ⟨r, v, p, q1, q2, _⟩ <;> rw [q1, q2] <;> rfl
    rw [eq]
    exact ⟨.bl _, g.H, I.tok _, rfl, q⟩
theorem op_notinDct (hw : X.w = Wd.w) (hp : X.prog = Wd.P) (hu : X.A.units + 64 < cLine) : OpR X (compareOp .NotIn) (rInDct X.K true) := by
  intro pins s σ H x y v u Q I rx ry h
  obtain ⟨g, d, e, t, ks, vs, rfl, r, hd, he, hq, hk, q⟩ := h
  obtain ⟨a, kxs, ys, rfl, hdc, rk, rs⟩ := dct_rep hq r he
  cases ry
  cases t with
  | false =>
    obtain ⟨kvs, e1, e2, rfl, rfl⟩ := hdc
    obtain ⟨k, hkk⟩ := Option.isSome_iff_exists.mp (show (D.kk d).isSome = true from hk)
    have ev := kk_kV hkk hd
    subst ev
    refine d_notIn (by omega) I (DGet.k e1) rx fun s' I' => ⟨.bl _, g.H, I', rfl, ?_⟩
    have eq : (valV kvs k).isSome = (dgetD false ks vs d).isSome := by rcases dget_false hkk e2 rs with ⟨q1, q2⟩ | ⟨r, v, q1, q2, _⟩ <;> rw [q1, q2] <;> rfl
    rw [eq]
    exact q
  | true =>
    obtain ⟨xs, e1, e2, rfl, hv⟩ := hdc
    obtain ⟨k, hkk⟩ := Option.isSome_iff_exists.mp (show (D.kt d).isSome = true from hk)
    obtain ⟨b, rfl, hb⟩ := kt_heap I hkk hd
    cases rx
    obtain ⟨m1, m2, m3⟩ := dObj_at hw hp I e1 e2 rk
    refine wpAny_notIn_heap (room1 hu _ _) hb m3 m1 ?_
    have eq : (atKey xs k).isSome = (dgetD true ks vs d).isSome := by rcases dget_true hkk e2 hv rs with ⟨q1, q2⟩ | ⟨r, v, p, q1, q2, _⟩ <;> rw [q1, q2] <;> rfl
    rw [eq]
    exact ⟨.bl _, g.H, I.tok _, rfl, q⟩
/-! d[k] -/
def rIxDct (K : PySem.W.Frag) : R2 := fun x y H Q => ∃ (g : G) (d e r : D) (t : Bool) (ks vs : List D), g.H = H ∧ Rel K g ∧ Rep K g e x ∧ Rep K g d y ∧ dctOf g.h e = some (t, ks, vs) ∧ keyOk t d = true ∧ dgetD t ks vs d = some r ∧ ∀ v, Rep K g r v → Q v H
theorem ix_dct (hw : X.w = Wd.w) (hp : X.prog = Wd.P) (hu : X.A.units + 64 < cLine) : IxR X (rIxDct X.K) := by
  intro value slice pins s σ H x y v u Q I rx ry h hs
  obtain ⟨g, d, e, r0, t, ks, vs, rfl, r, he, hd, hq, hk, hr, q⟩ := h
  obtain ⟨a, kxs, ys, rfl, hdc, rk, rs⟩ := dct_rep hq r he
  cases rx
  cases t with
  | false =>
    obtain ⟨kvs, e1, e2, rfl, rfl⟩ := hdc
    obtain ⟨k, hkk⟩ := Option.isSome_iff_exists.mp (show (D.kk d).isSome = true from hk)
    have ev := kk_kV hkk hd
    subst ev
    rcases dget_false hkk e2 rs with ⟨q1, q2⟩ | ⟨r1, v1, q1, q2, q3⟩
    · rw [hr] at q1; cases q1
    · rw [hr] at q1
      cases q1
      have dg : DGet g.H a (kV k) (some v1) := by rw [← q2]; exact DGet.k e1
      exact tail_any (dict_typeIs I dg) PySem.F.slot_dict_getitem.lookup (d_getItem (by omega) I dg ry fun w' s' I' rw' => ⟨v1, g.H, I', rw', q _ q3⟩) hs
  | true =>
    obtain ⟨xs, e1, e2, rfl, hv⟩ := hdc
    obtain ⟨k, hkk⟩ := Option.isSome_iff_exists.mp (show (D.kt d).isSome = true from hk)
    obtain ⟨b, rfl, hb⟩ := kt_heap I hkk hd
    cases ry
    obtain ⟨m1, m2, m3⟩ := dObj_at hw hp I e1 e2 rk
    rcases dget_true hkk e2 hv rs with ⟨q1, q2⟩ | ⟨r1, v1, p, q1, q2, q3, q4⟩
    · rw [hr] at q1; cases q1
    · rw [hr] at q1
      cases q1
      exact tail_any m1.typeIs PySem.F.slot_dict_getitem.lookup (wpAny_getItem_heap (room1 hu _ _) hb m1 q2 ⟨v1, g.H, I.tok _, q3, q _ q4⟩) hs
/-! d[k] = v -/
def rPutDct (K : PySem.W.Frag) : TSet := fun x y v H Q => ∃ (g : G) (a : Addr) (t : Bool) (ks vs : List D) (kxs ys : List V) (d r : D), g.H = H ∧ x = .ref a ∧ DctH g.H a t ks kxs ys ∧ Reps K g ks kxs ∧ Reps K g vs ys ∧ Rep K g d y ∧ Rep K g r v ∧ keyOk t d = true ∧ ks.length < sizeMax ∧
  ∀ o' kxs' ys', isO o' = true → DctH (upd g.H a o') a t (dputK t ks d) kxs' ys' → Reps K g (dputK t ks d) kxs' → Reps K g (dputV t ks vs d r) ys' → Q (upd g.H a o')
theorem zip_repl {K : PySem.W.Frag} {r : D} {v : V} (hv : Rep K g r v) (f : D → Bool) (h : α → Bool) : ∀ {ks vs : List D} {xs : List α} {ys : List V}, ks.map f = xs.map h → Reps K g vs ys → xs.length = ys.length →
    Reps K g (List.zipWith (fun k w => if f k = true then r else w) ks vs) (List.zipWith (fun x y => if h x = true then v else y) xs ys)
  | [], vs, [], ys, _, _, _ => by simpa using Reps.nil
  | [], vs, x :: xs, ys, e, _, _ => by simp at e
  | k :: ks, vs, [], ys, e, _, _ => by simp at e
  | k :: ks, [], x :: xs, ys, e, q, l => by
    simp only [Reps] at q
    subst q
    simp at l
  | k :: ks, w :: vs, x :: xs, ys, e, q, l => by
    simp only [Reps] at q
    obtain ⟨y, zs, rfl, q1, q2⟩ := q
    simp only [List.map_cons, List.cons.injEq] at e
    simp only [List.length_cons, Nat.add_right_cancel_iff] at l
    simp only [List.zipWith_cons_cons, e.1]
    refine Reps.cons ?_ (zip_repl hv f h e.2 q2 l)
    split
    · exact hv
    · exact q1
theorem set_dct (hw : X.w = Wd.w) (hp : X.prog = Wd.P) (hu : X.A.units + 64 < cLine) : PSet X (rPutDct X.K) := by
  intro pins s σ H x y v ov iv u Q I ro ri rv h
  obtain ⟨g, a, t, ks, vs, kxs, ys, d, r, rfl, rfl, hdc, rk, rs, hd, hr, hk, hl, q⟩ := h
  cases ro
  have lens := hdc.len
  cases t with
  | false =>
    obtain ⟨kvs, e1, e2, rfl, rfl⟩ := hdc
    obtain ⟨k, hkk⟩ := Option.isSome_iff_exists.mp (show (D.kk d).isSome = true from hk)
    have ev := kk_kV hkk hd
    subst ev
    simp only [List.length_map] at lens
    have keys : ks.map (fun k' => keyB false k' d) = kvs.map (fun p => decide (p.1 = k)) := by
      have q1 : ∀ k', keyB false k' d = (match D.kk k' with | some p => decide (p = k) | none => false) := fun k' => by simp only [keyB, hkk]; cases D.kk k' <;> rfl
      have q2 := congrArg (List.map fun o : Option Key => match o with | some p => decide (p = k) | none => false) e2
      simp only [List.map_map] at q2
      rw [show (fun k' => keyB false k' d) = (fun k' => (match D.kk k' with | some p => decide (p = k) | none => false)) from funext q1]
      exact q2
    have any : (ks.any fun k' => keyB false k' d) = kvs.any fun p => decide (p.1 = k) := by
      have q1 := congrArg (List.any · id) keys
      simpa [List.any_map, Function.comp_def] using q1
    refine d_setItem (by omega) I (DPut.k e1 (by rw [sizeMax_eq]; omega)) ri rv fun s' I' => ⟨_, I', ?_⟩
    by_cases c : (kvs.any fun p => decide (p.1 = k)) = true
    · refine q (.dK (putK kvs k v)) (kvs.map fun p => kV p.1) ((putK kvs k v).map (·.2)) rfl ⟨_, upd_same, ?_, ?_, rfl⟩ ?_ ?_
      · unfold dputK putK
        rw [any, if_pos c, if_pos c, e2, List.map_map]
        refine List.map_congr_left fun p _ => ?_
        simp only [Function.comp]
        split <;> rfl
      · unfold putK
        rw [if_pos c, List.map_map]
        refine List.map_congr_left fun p _ => ?_
        simp only [Function.comp]
        split <;> rfl
      · unfold dputK
        rw [any, if_pos c]
        exact rk
      · unfold dputV putK
        rw [any, if_pos c, if_pos c, List.map_map]
        have z := zip_repl (xs := kvs) hr (fun k' => keyB false k' d) (fun p => decide (p.1 = k)) keys rs (by simp)
        have e : List.zipWith (fun x y => if decide (x.1 = k) = true then v else y) kvs (kvs.map (·.2)) = kvs.map ((·.2) ∘ fun kv => if kv.1 = k then (kv.1, v) else kv) := by
          clear z rs rk e1 e2 keys any c I' I lens
          induction kvs with
          | nil => rfl
          | cons p kvs ih =>
            rw [List.map_cons, List.zipWith_cons_cons, List.map_cons, ih]
            congr 1
            simp only [Function.comp, decide_eq_true_eq]
            split <;> rfl
        rw [e] at z
        exact z
    · refine q (.dK (putK kvs k v)) ((putK kvs k v).map fun p => kV p.1) ((putK kvs k v).map (·.2)) rfl ⟨_, upd_same, ?_, rfl, rfl⟩ ?_ ?_
      · unfold dputK putK
        rw [any, if_neg c, if_neg c, List.map_append, List.map_append, e2]
        simp [hkk]
      · unfold dputK putK
        rw [any, if_neg c, if_neg c, List.map_append]
        exact rk.append (Reps.cons hd Reps.nil)
      · unfold dputV putK
        rw [any, if_neg c, if_neg c, List.map_append]
        exact rs.append (Reps.cons hr Reps.nil)
  | true =>
    obtain ⟨xs, e1, e2, rfl, hv⟩ := hdc
    obtain ⟨k, hkk⟩ := Option.isSome_iff_exists.mp (show (D.kt d).isSome = true from hk)
    obtain ⟨b, rfl, hb⟩ := kt_heap I hkk hd
    cases ri
    obtain ⟨m1, m2, m3⟩ := dObj_at hw hp I e1 e2 rk
    simp only [List.length_map] at lens
    have keys : ks.map (fun k' => keyB true k' d) = xs.map (fun p => decide (p.1 = k)) := by
      have q1 : ∀ k', keyB true k' d = (match D.kt k' with | some p => decide (p = k) | none => false) := fun k' => by simp only [keyB, hkk]; cases D.kt k' <;> rfl
      have q2 := congrArg (List.map fun o : Option NestedKey => match o with | some p => decide (p = k) | none => false) e2
      simp only [List.map_map] at q2
      rw [show (fun k' => keyB true k' d) = (fun k' => (match D.kt k' with | some p => decide (p = k) | none => false)) from funext q1]
      exact q2
    have any : (ks.any fun k' => keyB true k' d) = (atKey xs k).isSome := by
      have q1 := congrArg (List.any · id) keys
      rw [← any_pairsH]
      simpa [List.any_map, Function.comp_def, pairsH] using q1
    have lsz : (storedH xs k b u).length ≤ sizeLine := by
      rw [sizeMax_eq]
      unfold storedH
      split <;> simp <;> omega
    refine wpAny_setItem_heap (hsz := m2) (room1 hu _ _) hb m1 fun h' dd' hs => ⟨upd g.H a (dObj a (storedH xs k b u)), ?_, ?_⟩
    · obtain ⟨o, es, ep, hq, h2, h3, h4, _, h5⟩ := dd'
      refine d_write I (by rw [e1]; exact True.intro) hs ⟨o, hq⟩ ⟨⟨⟨lsz, m3, h5⟩, o, es, ep, hq, h2, h3, by rw [← hp, ← hw]; exact h4⟩, ⟨o, hq⟩, fun h1 h2 x st => ?_⟩
      obtain ⟨x0, o', es', ep', x1, x2, x3, x4⟩ := x
      exact ⟨x0, o', es', ep', st _ x1, x2, x3, x4⟩
    · by_cases c : (atKey xs k).isSome = true
      · refine q _ (xs.map fun x => V.ref x.2.1) (List.zipWith (fun x y => if decide (x.1 = k) = true then v else y) xs ys) rfl ⟨_, upd_same, ?_, ?_, ?_⟩ ?_ ?_
        · unfold dputK storedH
          rw [any, if_pos c, if_pos c, e2, List.map_map]
          refine List.map_congr_left fun p _ => ?_
          simp only [Function.comp, putAt]
          split <;> rfl
        · unfold storedH
          rw [if_pos c, List.map_map]
          refine List.map_congr_left fun p _ => ?_
          simp only [Function.comp, putAt]
          split <;> rfl
        · unfold storedH
          rw [if_pos c, List.map_map]
          clear c any keys lens lsz m1 m2 rk e1 e2 rs dd' hs
          induction xs generalizing ys with
          | nil => cases hv; exact .nil
          | cons p xs ih =>
            simp only [List.map_cons] at hv
            cases hv with
            | cons hv1 hv2 =>
              simp only [List.map_cons, List.zipWith_cons_cons, Function.comp, putAt, decide_eq_true_eq]
              refine .cons ?_ (by simpa only [Function.comp_def, putAt, decide_eq_true_eq] using ih _ hv2)
              by_cases z : p.1 = k
              · simp only [z, if_true]; exact rv
              · simp only [z, if_false]; exact hv1
        · unfold dputK
          rw [any, if_pos c]
          exact rk
        · unfold dputV
          rw [any, if_pos c]
          exact zip_repl (xs := xs) hr (fun k' => keyB true k' d) (fun p => decide (p.1 = k)) keys rs (by omega)
      · refine q _ ((storedH xs k b u).map fun x => V.ref x.2.1) (ys ++ [v]) rfl ⟨_, upd_same, ?_, rfl, ?_⟩ ?_ ?_
        · unfold dputK storedH
          rw [any, if_neg c, if_neg c, List.map_append, List.map_append, e2]
          simp [hkk]
        · unfold storedH
          rw [if_neg c, List.map_append]
          exact hv.append (.cons rv .nil)
        · unfold dputK storedH
          rw [any, if_neg c, if_neg c, List.map_append]
          exact rk.append (Reps.cons hd Reps.nil)
        · unfold dputV
          rw [any, if_neg c]
          exact rs.append (Reps.cons hr Reps.nil)
/-! {}, dict(d) -/
theorem pe_dnew (t : Bool) {pos : Pos} (hw : X.w = Wd.w) (hp : X.prog = Wd.P) : PE X (.Dict [] [] pos) (fun _ H Q => ∀ p o, H p = none → DctH (upd H p o) p t [] [] [] → Q (.ref p) (upd H p o)) := by
  cases t with
  | false =>
    refine ⟨fun pins s σ H Q I h => pe_dnewK.run pins s σ H Q I fun p hp => h p _ hp ⟨[], upd_same, rfl, rfl, rfl⟩⟩
  | true =>
    refine ⟨fun pins s σ H Q I h => ?_⟩
    refine wpAny_Dict_empty ⟨.ref s.heap.objs.size, _, I.laid (a := s.heap.objs.size) (o := dObj s.heap.objs.size []) (t' := s.toks) (fun _ _ q => Heap.get?_push_of_some _ q) (Nat.le_refl _) ?_, rfl, h _ _ (I.hok.fresh (Nat.le_refl _)) ⟨[], upd_same, rfl, rfl, .nil⟩⟩
    refine ⟨⟨⟨Nat.zero_le _, beq_eq_false_iff_ne.mpr (Ne.symm (Nat.ne_of_lt I.big)), List.nodup_nil⟩, ?_⟩, ?_, fun h1 h2 x st => ?_⟩
    · obtain ⟨o, es, ep, h1, h2, h3, h4, _⟩ := Heap.DictOfH.new (knd := nestedKind Wd.P Wd.w) s.heap
      exact ⟨o, es, ep, h1, h2, h3, h4⟩
    · exact ⟨_, Heap.get?_push_size s.heap rfl⟩
    · obtain ⟨x0, o', es', ep', x1, x2, x3, x4⟩ := x
      exact ⟨x0, o', es', ep', st _ x1, x2, x3, x4⟩
theorem call_dictD : CallR X (.type "dict") (fun xs H Q => ∃ a kvs, xs = [.ref a] ∧ H a = some (.dK kvs) ∧ ∀ p, H p = none → Q (.ref p) (upd H p (.dK kvs))) := by
  intro pins s σ H xs us Q I r h
  obtain ⟨a, kvs, rfl, ha, q⟩ := h
  obtain ⟨u, rfl, ru⟩ := vals1 r
  cases ru
  exact d_copyOf I (.inl ha) fun p s' hp I' => ⟨.ref p, _, I', rfl, q p hp⟩
end
end Iv

set_option maxHeartbeats 2000000
/-! Snd: the text does what the language says: expressions. -/
namespace Iv
open PySem L2 PySem.Spec PyProof.Rows

/-! ### readings -/
section
variable (K : PySem.W.Frag) [Wd]
def tE (m : St → M D) : TE := fun σ H Q => ∃ (g : G) (s : St), g.H = H ∧ Rel K g ∧ Slots K g s σ ∧ Ok K g (m s) fun g' d => ∀ v, Rep K g' d v → Q v g'.H
def tA (m : St → M (List D)) : TA := fun σ H Q => ∃ (g : G) (s : St), g.H = H ∧ Rel K g ∧ Slots K g s σ ∧ Ok K g (m s) fun g' ds => ∀ vs, Reps K g' ds vs → Q vs g'.H
def tT (m : St → M Bool) : TT := fun σ H Q => ∃ (g : G) (s : St), g.H = H ∧ Rel K g ∧ Slots K g s σ ∧ Ok K g (m s) fun g' b => Q b g'.H
/-- a new list that only we know -/
def tF (m : St → M (List D)) : TE := fun σ H Q => ∃ (g : G) (s : St), g.H = H ∧ Rel K g ∧ Slots K g s σ ∧ Ok K g (m s) fun g' ds =>
  ∀ a xs, g.H a = none → ¬ g'.w.T a → g'.H a = some (.lst xs) → Rel K (g'.mark a) → Reps K (g'.mark a) ds xs → Q (.ref a) g'.H
def spOf (T : List Fn) (k f : Nat) : Sp := fun vs H Q _ => ∃ (g : G) (ds : List D), g.H = H ∧ Rel K g ∧ Reps K g ds vs ∧ vs.length = (T.getD f default).np ∧ Ok K g (run T k f ds) fun g' d => ∀ v, Rep K g' d v → Q v g'.H
end

/-! ### the text's words -/
structure Shape where
  f : Nat
  np : Nat
  ks : List Str
  dfs : List D
  perm : List Nat
structure Tx where
  N : List Str
  fns : List (Str × List Str)
  gl : List (Str × D)
  shapes : List Shape
  blt : List Str
  kds : List (Str × List (Str × D))
structure ShOk (K : PySem.W.Frag) [Wd] (fd : FuncData) (ps : List Str) (sh : Shape) : Prop where
  ex : ∃ (dvs : List V) (dus : List Value), (∀ g, Reps K g sh.dfs dvs) ∧ Vals dvs dus ∧ ∀ (s : Shared) (us ws : List Value), K.In s.heap → us.length = sh.np → ws.length = sh.ks.length →
    BindsTo s fd ⟨us, sh.ks.zip ws⟩ (ps.zip (sh.perm.map fun i => (us ++ ws ++ dus).getD i .none))
  len : sh.perm.length = ps.length
  lt : ∀ i ∈ sh.perm, i < sh.np + sh.ks.length + sh.dfs.length
structure Lk [Wd] (X : Cx) (tx : Tx) (T : List Fn) (k : Nat) : Prop where
  hw : X.w = Wd.w
  hp : X.prog = Wd.P
  room : Room k X.A
  calm : X.calm = true
  fn : ∀ f x ps, tx.fns[f]? = some (x, ps) → ∃ a fd, X.mg x = some (.ref a) ∧ PySem.W.keepIn X.K (.ref a) = true ∧ FnOk X.prog X.w X.K X.mg X.base CX0 k a fd ps (spOf X.K T k f) ∧
    (T.getD f default).np = ps.length ∧ ∀ sh ∈ tx.shapes, sh.f = f → ShOk X.K fd ps sh
  gl : ∀ p ∈ tx.gl, ∃ u v, X.mg p.1 = some u ∧ RelV v u ∧ ∀ g, Rep X.K g p.2 v
  blt : ∀ x ∈ tx.blt, X.mg x = none
  kd : ∀ p ∈ tx.kds, ∃ a, X.mg p.1 = some (.ref a) ∧ (a == sysModules) = false ∧ (∃ es n, X.K.lookup a = some ⟨.type "dict", none, .dict es n, #[]⟩ ∧ PySem.W.KeysLit X.w.params es.toList) ∧ ∀ q ∈ p.2, ∃ v, KDct X.K X.w a q.1 v ∧ ∀ g, Rep X.K g q.2 v
/-- where one stands -/
structure At (X : Cx) (tx : Tx) (sc : Scope) : Prop where
  hn : X.N = tx.N
  nd : X.N.Nodup
  hsc : X.env.scope = sc

/-! ### looking at the text -/
def asName : Expr → Option Str
  | .Name x _ => some x
  | _ => none
theorem asName_eq {e : Expr} {x : Str} (h : asName e = some x) : ∃ p, e = .Name x p := by
  cases e <;> simp [asName] at h
  subst h; exact ⟨_, rfl⟩
def asConst : Expr → Option Const
  | .Constant c _ _ => some c
  | _ => none
theorem asConst_eq {e : Expr} {c : Const} (h : asConst e = some c) : ∃ k p, e = .Constant c k p := by
  cases e <;> simp [asConst] at h
  subst h; exact ⟨_, _, rfl⟩
def asTuple : Expr → Option (List Expr)
  | .Tuple es _ _ => some es
  | _ => none
theorem asTuple_eq {e : Expr} {es : List Expr} (h : asTuple e = some es) : ∃ k p, e = .Tuple es k p := by
  cases e <;> simp [asTuple] at h
  subst h; exact ⟨_, _, rfl⟩
def asList : Expr → Option (List Expr)
  | .List es _ => some es
  | _ => none
theorem asList_eq {e : Expr} {es : List Expr} (h : asList e = some es) : ∃ p, e = .List es p := by
  cases e <;> simp [asList] at h
  subst h; exact ⟨_, rfl⟩
def asBin : Expr → Option (Expr × Operator × Expr)
  | .BinOp a o b _ => some (a, o, b)
  | _ => none
theorem asBin_eq {e a b : Expr} {o : Operator} (h : asBin e = some (a, o, b)) : ∃ p, e = .BinOp a o b p := by
  cases e <;> simp [asBin] at h
  obtain ⟨rfl, rfl, rfl⟩ := h; exact ⟨_, rfl⟩
def asUn : Expr → Option (UnaryOp × Expr)
  | .UnaryOp o a _ => some (o, a)
  | _ => none
theorem asUn_eq {e a : Expr} {o : UnaryOp} (h : asUn e = some (o, a)) : ∃ p, e = .UnaryOp o a p := by
  cases e <;> simp [asUn] at h
  obtain ⟨rfl, rfl⟩ := h; exact ⟨_, rfl⟩
def asCmp : Expr → Option (Expr × CmpOp × Expr)
  | .Compare a [o] [b] _ => some (a, o, b)
  | _ => none
theorem asCmp_eq {e a b : Expr} {o : CmpOp} (h : asCmp e = some (a, o, b)) : ∃ p, e = .Compare a [o] [b] p := by
  unfold asCmp at h
  split at h
  · simp at h
    obtain ⟨rfl, rfl, rfl⟩ := h; exact ⟨_, rfl⟩
  · cases h
def asCmp2 : Expr → Option (Expr × CmpOp × CmpOp × Expr × Expr)
  | .Compare a [o, o'] [b, c] _ => some (a, o, o', b, c)
  | _ => none
theorem asCmp2_eq {e a b c : Expr} {o o' : CmpOp} (h : asCmp2 e = some (a, o, o', b, c)) : ∃ p, e = .Compare a [o, o'] [b, c] p := by
  unfold asCmp2 at h
  split at h
  · simp at h
    obtain ⟨rfl, rfl, rfl, rfl, rfl⟩ := h; exact ⟨_, rfl⟩
  · cases h
/-- and, or: the first, the rest as one -/
def asBool : Expr → Option (BoolOp × Expr × Expr)
  | .BoolOp o [a, b] _ => some (o, a, b)
  | .BoolOp o (a :: b :: c :: r) p => some (o, a, .BoolOp o (b :: c :: r) p)
  | _ => none
theorem asBool_eq {e a b : Expr} {o : BoolOp} (h : asBool e = some (o, a, b)) : (∃ p, e = .BoolOp o [a, b] p) ∨ ∃ b' c r p, b = .BoolOp o (b' :: c :: r) p ∧ e = .BoolOp o (a :: b' :: c :: r) p := by
  unfold asBool at h
  split at h
  · simp at h
    obtain ⟨rfl, rfl, rfl⟩ := h; exact .inl ⟨_, rfl⟩
  · simp at h
    obtain ⟨rfl, rfl, rfl⟩ := h; exact .inr ⟨_, _, _, _, rfl, rfl⟩
  · cases h
def asIf : Expr → Option (Expr × Expr × Expr)
  | .IfExp t a b _ => some (t, a, b)
  | _ => none
theorem asIf_eq {e t a b : Expr} (h : asIf e = some (t, a, b)) : ∃ p, e = .IfExp t a b p := by
  cases e <;> simp [asIf] at h
  obtain ⟨rfl, rfl, rfl⟩ := h; exact ⟨_, rfl⟩
def asSub : Expr → Option (Expr × Expr)
  | .Subscript a b _ => some (a, b)
  | _ => none
theorem asSub_eq {e a b : Expr} (h : asSub e = some (a, b)) : ∃ p, e = .Subscript a b p := by
  cases e <;> simp [asSub] at h
  obtain ⟨rfl, rfl⟩ := h; exact ⟨_, rfl⟩
/-- a[lo:hi] -/
def asSlice : Expr → Option (Expr × Option Expr × Option Expr)
  | .Subscript a (.Slice lo hi none _) _ => some (a, lo, hi)
  | _ => none
theorem asSlice_eq {e a : Expr} {lo hi : Option Expr} (h : asSlice e = some (a, lo, hi)) : ∃ p q, e = .Subscript a (.Slice lo hi none p) q := by
  unfold asSlice at h
  split at h
  · simp at h
    obtain ⟨rfl, rfl, rfl⟩ := h; exact ⟨_, _, rfl⟩
  · cases h
def asComp : Expr → Option (Expr × Expr × Expr × List Expr × Scope)
  | .ListComp elt [⟨tg, iter, ifs, 0⟩] scope _ => some (elt, tg, iter, ifs, scope)
  | _ => none
theorem asComp_eq {e elt tg iter : Expr} {ifs : List Expr} {scope : Scope} (h : asComp e = some (elt, tg, iter, ifs, scope)) : ∃ p, e = .ListComp elt [⟨tg, iter, ifs, 0⟩] scope p := by
  unfold asComp at h
  split at h
  · simp at h
    obtain ⟨rfl, rfl, rfl, rfl, rfl⟩ := h; exact ⟨_, rfl⟩
  · cases h
/-- zip(a, b, strict=True) -/
def asZipS : Expr → Option (Expr × Expr)
  | .Call (.Name x _) [a, b] [⟨some k, .Constant (.bool true) _ _, _⟩] _ => if x == ("zip" : Str) && k == ("strict" : Str) then some (a, b) else none
  | _ => none
theorem asZipS_eq {e a b : Expr} (h : asZipS e = some (a, b)) : ∃ p ck cp kp q, e = .Call (.Name "zip" p) [a, b] [⟨some "strict", .Constant (.bool true) ck cp, kp⟩] q := by
  unfold asZipS at h
  split at h
  · split at h
    · rename_i hc
      simp only [Bool.and_eq_true, beq_iff_eq] at hc
      simp at h
      obtain ⟨rfl, rfl⟩ := h
      obtain ⟨rfl, rfl⟩ := hc
      exact ⟨_, _, _, _, _, rfl⟩
    · cases h
  · cases h
/-- enumerate(a, start=k) -/
def asEnumS : Expr → Option (Expr × Int)
  | .Call (.Name x _) [a] [⟨some k, .Constant (.int j) _ _, _⟩] _ => if x == ("enumerate" : Str) && k == ("start" : Str) then some (a, j) else none
  | _ => none
theorem asEnumS_eq {e a : Expr} {j : Int} (h : asEnumS e = some (a, j)) : ∃ p ck cp kp q, e = .Call (.Name "enumerate" p) [a] [⟨some "start", .Constant (.int j) ck cp, kp⟩] q := by
  unfold asEnumS at h
  split at h
  · split at h
    · rename_i hc
      simp only [Bool.and_eq_true, beq_iff_eq] at hc
      simp at h
      obtain ⟨rfl, rfl⟩ := h
      obtain ⟨rfl, rfl⟩ := hc
      exact ⟨_, _, _, _, _, rfl⟩
    · cases h
  · cases h
/-- d.get(e), d a name -/
def asGet : Expr → Option (Str × Expr)
  | .Call (.Attribute (.Name d _) m q) [e] [] p => if m == ("get" : Str) && q.endLine == p.line then some (d, e) else none
  | _ => none
theorem asGet_eq {x e : Expr} {d : Str} (h : asGet x = some (d, e)) : ∃ p1 q p, x = .Call (.Attribute (.Name d p1) "get" q) [e] [] p ∧ (q.endLine == p.line) = true := by
  unfold asGet at h
  split at h
  · split at h
    · rename_i hc
      simp only [Bool.and_eq_true] at hc
      have hm := hc.1
      simp only [beq_iff_eq] at hm
      subst hm
      simp at h
      obtain ⟨rfl, rfl⟩ := h
      exact ⟨_, _, _, rfl, hc.2⟩
    · cases h
  · cases h
def asEmptyD : Expr → Bool
  | .Dict [] [] _ => true
  | _ => false
theorem asEmptyD_eq {x : Expr} (h : asEmptyD x = true) : ∃ p, x = .Dict [] [] p := by
  unfold asEmptyD at h
  split at h
  · exact ⟨_, rfl⟩
  · cases h
/-- a call by a name -/
def asCall : Expr → Option (Str × List Expr × List Keyword)
  | .Call (.Name x _) es ks _ => some (x, es, ks)
  | _ => none
theorem asCall_eq {e : Expr} {x : Str} {es : List Expr} {ks : List Keyword} (h : asCall e = some (x, es, ks)) : ∃ q p, e = .Call (.Name x q) es ks p := by
  unfold asCall at h
  split at h
  · simp at h
    obtain ⟨rfl, rfl, rfl⟩ := h; exact ⟨_, _, rfl⟩
  · cases h
/-- o.m(..) on one line -/
def asMeth : Expr → Option (Expr × Str × List Expr)
  | .Call (.Attribute o m q) es [] p => if q.endLine == p.line then some (o, m, es) else none
  | _ => none
theorem asMeth_eq {e o : Expr} {m : Str} {es : List Expr} (h : asMeth e = some (o, m, es)) : ∃ q p, e = .Call (.Attribute o m q) es [] p ∧ (q.endLine == p.line) = true := by
  unfold asMeth at h
  split at h
  · split at h
    · rename_i hl
      simp at h
      obtain ⟨rfl, rfl, rfl⟩ := h; exact ⟨_, _, rfl, hl⟩
    · cases h
  · cases h
/-- no star, no super() -/
def plainE : Expr → Bool
  | .Starred _ _ => false
  | .Call (.Name x _) [] [] _ => decide (x ≠ "super")
  | _ => true
def isSlice : Expr → Bool
  | .Slice _ _ _ _ => true
  | _ => false
/-- whose test is its value's truth -/
def plainT : Expr → Bool
  | .UnaryOp .Not _ _ => false
  | .BoolOp _ _ _ => false
  | .IfExp _ _ _ _ => false
  | .Compare _ _ _ _ => false
  | _ => true
def isSet : Expr → Bool
  | .Set _ _ _ => true
  | _ => false
def okN (x : Str) : Bool := decide (x ≠ "__debug__") && decide (x ≠ "__classdict__") && decide (x ≠ "__name__")
theorem okN_d {x : Str} (h : okN x = true) : (x == ("__debug__" : Str)) = false := by
  simp only [okN, Bool.and_eq_true, decide_eq_true_eq] at h
  exact beq_eq_false_iff_ne.mpr h.1.1
theorem okN_c {x : Str} (h : okN x = true) : (x == ("__classdict__" : Str)) = false := by
  simp only [okN, Bool.and_eq_true, decide_eq_true_eq] at h
  exact beq_eq_false_iff_ne.mpr h.1.2
theorem okN_n {x : Str} (h : okN x = true) : x ≠ "__name__" := by
  simp only [okN, Bool.and_eq_true, decide_eq_true_eq] at h
  exact h.2
def visB (sc : Scope) (x : Str) : Bool := match sc.names.lookup x with
  | some .local => true
  | some .cell => true
  | some .free => true
  | _ => false
theorem visB_ok {sc : Scope} {x : Str} (h : visB sc x = true) : Vis sc x := by
  unfold visB at h
  unfold Vis
  split at h
  · exact .inl (by assumption)
  · exact .inr (.inl (by assumption))
  · exact .inr (.inr (by assumption))
  · cases h
def glB (sc : Scope) (x : Str) : Bool := decide (sc.names.lookup x = some .globalImplicit)
theorem star_cons {e : Expr} {es : List Expr} {env : Env} (h : plainE e = true) : starEach (e :: es) env = (false, eval e env) :: starEach es env := by
  cases e <;> first | rfl | simp [plainE] at h
theorem base_ok {o : Expr} {m : Str} {env : Env} (h : plainE o = true) : attributeBase o m env (eval o env) = eval o env := by
  unfold attributeBase
  split
  · rename_i id q p
    simp only [plainE, decide_eq_true_eq] at h
    rw [if_pos (by simp [h])]
  · rfl
theorem marks_ok {op : CmpOp} {b : Expr} (h : isSet b = false) : behindInMarks op b = false := by
  cases b <;> first | rfl | simp [isSet] at h
theorem plainIx_ok {b : Expr} (h : isSlice b = false) : PlainIx b := fun o i => by
  cases b <;> first | rfl | simp [isSlice] at h
theorem isTrue_ok {e : Expr} {env : Env} (h : plainT e = true) (whole : Sem Value) : isTrue e env whole = (do let v ← whole; standAt e.pos; holding [v] (truthy v)) := by
  cases e with
  | UnaryOp o a p => cases o <;> first | rfl | simp [plainT] at h
  | BoolOp _ _ _ => simp [plainT] at h
  | IfExp _ _ _ _ => simp [plainT] at h
  | Compare _ _ _ _ => simp [plainT] at h
  | _ => rfl

/-- whose test has a rule -/
def tstB : E → Bool
  | .ite _ _ _ => false
  | .and a b => tstB a && tstB b
  | .or a b => tstB a && tstB b
  | .not a => tstB a
  | _ => true
/-! ### the checker -/
def opIs : Bop → Operator → Bool
  | .add, .Add => true | .sub, .Sub => true | .mul, .Mult => true | .fdiv, .FloorDiv => true | .mod, .Mod => true | .pow, .Pow => true | .shl, .LShift => true
  | _, _ => false
def isStar : Expr → Bool
  | .Starred _ _ => true
  | _ => false
def copIs : Cop → CmpOp → Bool
  | .isin, .In => true | .notin, .NotIn => true
  | .lt, .Lt => true | .le, .LtE => true | .gt, .Gt => true | .ge, .GtE => true | .eq, .Eq => true | .ne, .NotEq => true | .isN, .Is => true | .notN, .IsNot => true
  | _, _ => false
def cstD : Const → Option D
  | .none => some .non
  | .bool b => some (.bl b)
  | .int i => some (.int i)
  | .str x => some (.str x)
  | _ => none
def cstIs (c : Const) (d : D) : Bool := match cstD c with
  | some d' => D.beq d' d
  | none => false
def tyName : Ty → String
  | .int => "int" | .bool => "bool" | .str => "str" | .tuple => "tuple" | .list => "list" | .dict => "dict"
def biName : Bi → Option Str
  | .len => some "len" | .abs => some "abs" | .min2 => some "min" | .max2 => some "max"
  | .sum => some "sum" | .min1 => some "min" | .max1 => some "max" | .all => some "all" | .any => some "any" | .divmod => some "divmod"
  | _ => none
/-- a built-in type called -/
def btName : Bi → Option Str
  | .int1 => some "int" | .tup1 => some "tuple"
  | _ => none
def isIsa : Bi → Option Ty
  | .isa t => some t
  | _ => none
/-- what a target must be for what is walked -/
def okTg : It → Expr → Bool
  | .zipS _ _, tg => (asTuple tg).isSome
  | .enumS _ _, tg => (asTuple tg).isSome
  | _, _ => true
section
variable (tx : Tx)
def cstsAre : List E → List D → Bool
  | [], [] => true
  | .c d :: es, d' :: ds => D.beq d d' && cstsAre es ds
  | _, _ => false
/-- an if of a comprehension: none or one -/
def locB (sc : Scope) (x : Str) : Bool := match sc.names.lookup x with
  | some .local => true
  | some .cell => true
  | _ => false
/-- a comprehension's own names -/
def ownP (N : List Str) (own : List Nat) : List (Str × Nat) := own.map fun i => (N.getD i "", i)
mutual
def ckP (own : List Nat) (scope scr : Scope) : Pt → Expr → Bool
  | .nm i, x => match asName x with
    | some n => decide (tx.N[i]? = some n) && own.contains i && okN n && (decide (scr.names.lookup n = some .local) || decide (scope.names.lookup n = some .cell) && locB scr n)
    | none => false
  | .tup ts, x => match asTuple x with
    | some xs => ckPs own scope scr ts xs
    | none => false
def ckPs (own : List Nat) (scope scr : Scope) : List Pt → List Expr → Bool
  | [], [] => true
  | t :: ts, x :: xs => ckP own scope scr t x && !isStar x && ckPs own scope scr ts xs
  | _, _ => false
end
def isBlt (sc : Scope) (x : Str) : Bool := okN x && glB sc x && tx.blt.contains x
mutual
def ckE (sc : Scope) : E → Expr → Bool
  | .v i, x => match asName x with
    | some n => decide (tx.N[i]? = some n) && visB sc n && okN n
    | none => false
  | .c d, x => match asConst x with
    | some c => cstIs c d
    | none => match asName x with
      | some n => okN n && glB sc n && tx.gl.any fun p => decide (p.1 = n) && D.beq p.2 d
      | none => false
  | .tup es, x => match asTuple x with
    | some xs => ckEs sc es xs
    | none => false
  | .lstv f, x => ckF sc f x
  | .alloc f, x => ckF sc f x
  | .bin op a b, x => match asBin x with
    | some (l, o, r) => opIs op o && ckE sc a l && ckE sc b r
    | none => false
  | .neg a, x => match asUn x with
    | some (o, r) => decide (o = .USub) && ckE sc a r
    | none => false
  | .cmp op a b, x => match asCmp x with
    | some (l, o, r) => copIs op o && ckE sc a l && ckE sc b r && !isSet r
    | none => false
  | .chain op op' a b c, x => match asCmp2 x with
    | some (l, o, o', m, r) => copIs op o && copIs op' o' && ckE sc a l && ckE sc b m && ckE sc c r && !isSet r
    | none => false
  | .and a b, x => match asBool x with
    | some (o, l, r) => decide (o = .And) && ckE sc a l && ckE sc b r
    | none => false
  | .or a b, x => match asBool x with
    | some (o, l, r) => decide (o = .Or) && ckE sc a l && ckE sc b r
    | none => false
  | .not a, x => match asUn x with
    | some (o, r) => decide (o = .Not) && ckE sc a r
    | none => false
  | .ite t a b, x => match asIf x with
    | some (c, l, r) => (ckE sc t c && tstB t) && ckE sc a l && ckE sc b r
    | none => false
  | .idx a i, x => match asSub x with
    | some (l, r) => ckE sc a l && ckE sc i r && !isSlice r
    | none => false
  | .call f perm es, x => match asCall x with
    | some (n, xs, ks) => okN n && glB sc n && (match tx.fns[f]? with
      | some p => decide (p.1 = n)
      | none => false) && tx.shapes.any (fun sh => decide (sh.f = f) && decide (sh.np = xs.length) && decide (ks.map (·.arg) = sh.ks.map some) && decide (sh.perm = perm) &&
        cstsAre (es.drop (xs.length + ks.length)) sh.dfs) && ckEks sc es xs ks
    | none => false
  | .bi b es, x => match biName b with
    | some n => match asCall x with
      | some (m, xs, ks) => decide (n = m) && isBlt tx sc n && ks.isEmpty && ckEs sc es xs
      | none => false
    | none => match isIsa b with
      | some t => match asCall x with
        | some (m, [y, z], []) => decide (m = "isinstance") && isBlt tx sc m && (match asName z with
          | some n => decide (n = (tyName t : Str)) && isBlt tx sc n
          | none => false) && plainE z && ckEs sc es [y]
        | _ => false
      | none => match asMeth x with
        | some (o, m, []) => decide (b = .bitlen) && decide (m = "bit_length") && plainE o && ckEs sc es [o]
        | _ => match btName b with
          | some n => match asCall x with
            | some (m, xs, ks) => decide (n = m) && isBlt tx sc n && ks.isEmpty && ckEs sc es xs
            | none => false
          | none => false
  | .slice bl bh a lo hi, x => match asSlice x with
    | some (y, l, u) => ckE sc a y && (match l with
      | some l => bl && ckE sc lo l
      | none => !bl) && (match u with
      | some u => bh && ckE sc hi u
      | none => !bh)
    | none => false
  | .kidx n tab a, x => match asSub x with
    | some (l, r) => (match asName l with
      | some m => decide (m = n) && okN n && glB sc n && (tx.kds.any fun p => decide (p.1 = n) && (tab.all fun q => p.2.any fun q' => decide (q.1 = q'.1) && D.beq q.2 q'.2)) && ckE sc a r && !isSlice r
      | none => false)
    | none => false
  | .kget n tab a, x => match asGet x with
    | some (m, r) => decide (m = n) && okN n && glB sc n && (tx.kds.any fun p => decide (p.1 = n) && (tab.all fun q => p.2.any fun q' => decide (q.1 = q'.1) && D.beq q.2 q'.2)) && ckE sc a r && plainE r
    | none => false
  | .dnew _, x => asEmptyD x
  | .dfin _, x => asEmptyD x
  | .bad, x => !isStar x
def ckEs (sc : Scope) : List E → List Expr → Bool
  | [], [] => true
  | e :: es, x :: xs => ckE sc e x && plainE x && ckEs sc es xs
  | _, _ => false
/-- the arguments by places, then by keywords, then defaults -/
def ckEks (sc : Scope) : List E → List Expr → List Keyword → Bool
  | e :: es, x :: xs, ks => ckE sc e x && plainE x && ckEks sc es xs ks
  | e :: es, [], k :: ks => ckE sc e k.value && ckEks sc es [] ks
  | _, [], [] => true
  | [], _, _ => false
def ckF (sc : Scope) : F → Expr → Bool
  | .disp es, x => match asList x with
    | some xs => ckEs sc es xs
    | none => false
  | .comp p own it ifs elt, x => match asComp x with
    | some (y, tg, iter, cs, scope) => blkC tx.N sc scope (ownP tx.N own) && (ckIt sc it iter && okTg it tg) && !isSet iter && ckP tx own scope (relS scope sc) p tg && !isStar tg && ckIfs (relS scope sc) ifs cs && ckE (relS scope sc) elt y
    | none => false
  | .cat a b, x => match asBin x with
    | some (l, o, r) => decide (o = .Add) && ckE sc a l && ckE sc b r
    | none => false
  | .slc bl bh a lo hi, x => match asSlice x with
    | some (y, l, u) => ckE sc a y && (match l with
      | some l => bl && ckE sc lo l
      | none => !bl) && (match u with
      | some u => bh && ckE sc hi u
      | none => !bh)
    | none => false
  | .lst1 a, x => match asCall x with
    | some (n, [y], []) => decide (n = "list") && isBlt tx sc n && plainE y && ckE sc a y
    | _ => false
def ckIfs (sc : Scope) : List E → List Expr → Bool
  | [], [] => true
  | [e], [x] => ckE sc e x && tstB e
  | _, _ => false
def ckIt (sc : Scope) : It → Expr → Bool
  | .range1 a, x => match asCall x with
    | some (n, [y], []) => decide (n = "range") && isBlt tx sc n && plainE y && ckE sc a y
    | _ => false
  | .range2 a b, x => match asCall x with
    | some (n, [y, z], []) => decide (n = "range") && isBlt tx sc n && plainE y && plainE z && ckE sc a y && ckE sc b z
    | _ => false
  | .seq e, x => ckE sc e x
  | .zipS a b, x => match asZipS x with
    | some (y, z) => isBlt tx sc "zip" && plainE y && plainE z && ckE sc a y && ckE sc b z
    | none => false
  | .enumS k a, x => match asEnumS x with
    | some (y, j) => decide (j = (k : Int)) && decide (k < 1000000) && isBlt tx sc "enumerate" && plainE y && ckE sc a y
    | none => false
end
end

/-! ### soundness -/
theorem PE_imp {X : Cx} {e : Expr} {t t' : TE} (h : PE X e t) (i : ∀ σ H Q, t' σ H Q → t σ H Q) : PE X e t' := ⟨fun pins s σ H Q I q => h.run pins s σ H Q I (i σ H Q q)⟩
theorem PT_imp {X : Cx} {e : Expr} {t t' : TT} (h : PT X e t) (i : ∀ σ H Q, t' σ H Q → t σ H Q) : PT X e t' := ⟨fun pins s σ H Q I q => h.run pins s σ H Q I (i σ H Q q)⟩
theorem PW_imp {X : Cx} {e : Expr} {t t' : TT} (h : PW X e t) (i : ∀ σ H Q, t' σ H Q → t σ H Q) : PW X e t' := ⟨fun wh pins s σ H Q I q => h.run wh pins s σ H Q I (i σ H Q q)⟩
theorem PA_imp {X : Cx} {es : List Expr} {t t' : TA} (h : PA X es t) (i : ∀ σ H Q, t' σ H Q → t σ H Q) : PA X es t' := ⟨fun pos pins s σ H Q I q => h.run pos pins s σ H Q I (i σ H Q q)⟩
theorem PK_imp {X : Cx} {es : List Keyword} {t t' : TA} (h : PK X es t) (i : ∀ σ H Q, t' σ H Q → t σ H Q) : PK X es t' := ⟨fun pos pins s σ H Q I q => h.run pos pins s σ H Q I (i σ H Q q)⟩
section
variable {X : Cx} {tx : Tx} {sc : Scope} {T : List Fn} {k : Nat} {K : PySem.W.Frag} {g : G} {s : St} {σ : L2.St} {H : Hp} [Wd]
/-- the reading of one part, then of the rest -/
theorem tE_use {m : St → M D} {P : G → D → Prop} {Q : VK} (r : Rel K g) (sl : Slots K g s σ) (h : Ok K g (m s) P) (i : ∀ g' d v, Rel K g' → Ext g g' → P g' d → Rep K g' d v → Q v g'.H) : tE K m σ g.H Q :=
  ⟨g, s, rfl, r, sl, h.mono fun g' d r' x' p v hv => i g' d v r' x' p hv⟩
theorem tA_use {m : St → M (List D)} {P : G → List D → Prop} {Q : List V → Hp → Prop} (r : Rel K g) (sl : Slots K g s σ) (h : Ok K g (m s) P) (i : ∀ g' ds vs, Rel K g' → Ext g g' → P g' ds → Reps K g' ds vs → Q vs g'.H) : tA K m σ g.H Q :=
  ⟨g, s, rfl, r, sl, h.mono fun g' d r' x' p v hv => i g' d v r' x' p hv⟩
theorem tT_use {m : St → M Bool} {P : G → Bool → Prop} {Q : Bool → Hp → Prop} (r : Rel K g) (sl : Slots K g s σ) (h : Ok K g (m s) P) (i : ∀ g' d, Rel K g' → Ext g g' → P g' d → Q d g'.H) : tT K m σ g.H Q :=
  ⟨g, s, rfl, r, sl, h.mono fun g' d r' x' p => i g' d r' x' p⟩

/-! operators -/
omit [Wd] in
theorem shl_ok' {i j : Int} (h : shlOk i j = true) : CPow i j := by
  simp only [shlOk, Bool.and_eq_true, decide_eq_true_eq] at h
  exact ⟨h.1.1, by omega, h.2⟩
omit [Wd] in
theorem intBits_lt {i : Int} {n : Nat} (h : i.natAbs < 2 ^ n) (hn : 0 < n) : Builtin.Int.intBits i ≤ n := by
  have hx := PySem.Flt.log2_lt_of hn h
  unfold Builtin.Int.intBits
  split <;> omega
omit [Wd] in
theorem mulOk_ok {i j : Int} (h : mulOk i j = true) : IntMulOk i j := by
  simp only [mulOk, Bool.or_eq_true, Bool.and_eq_true, decide_eq_true_eq] at h
  rcases h with (h | h) | h
  · exact .of_left (intBits_lt h (by decide))
  · exact .of_right (intBits_lt h (by decide))
  · exact CMulW.ok (wide_mul h.1 h.2 (by decide) (by decide) (by decide))
def rMulI : R2 := fun x y H Q => ∃ i j, x = .int i ∧ y = .int j ∧ IntMulOk i j ∧ Q (.int (i * j)) H
theorem op_mulI : OpR X (binaryOp .Mult) (rI IntMulOk fun i j => .int (i * j)) := opI fun _ _ _ _ _ _ _ hc q => mul_int q hc
omit [Wd] in
theorem divOk_ok {i j : Int} (h : divOk j = true) : CDivW i j := by
  simp only [divOk, Bool.and_eq_true, decide_eq_true_eq] at h
  exact wide_div h.1 h.2 (by decide) (by decide)
def CPowW (i j : Int) : Prop := 0 ≤ j ∧ (Builtin.Int.intBits i : Int) * j ≤ 2 ^ 27
omit [Wd] in
theorem powOk_ok {i j : Int} (h : powOk i j = true) : CPowW i j := by
  simp only [powOk, Bool.and_eq_true, decide_eq_true_eq] at h
  obtain ⟨⟨h0, h1⟩, h2⟩ := h
  have hb := intBits_lt h2 (by decide)
  refine ⟨h0, ?_⟩
  have : (Builtin.Int.intBits i : Int) * j ≤ 250 * 100000 := Int.mul_le_mul (by omega) h1 h0 (by decide)
  exact Int.le_trans this (by decide)
theorem op_powW : OpR X (binaryOp .Pow) (rI CPowW fun i j => .int (i ^ j.toNat)) := opI fun _ _ _ _ _ _ _ hc q => pow_int hc.1 hc.2 q
/-- the operator's rule, its reading by data -/
theorem op_bin (op : Bop) (o : Operator) (h : opIs op o = true) : ∃ r, OpR X (binaryOp o) r ∧ ∀ (g : G) (a b d : D) (x y : V) (Q : VK), binD op a b = some d → Rel X.K g → Rep X.K g a x → Rep X.K g b y →
    (∀ g' v, g'.h = g.h → Rel X.K g' → Ext g g' → Rep X.K g' d v → Q v g'.H) → r x y g.H Q := by
  have two : ∀ {op : Bop} {a b d : D}, op ≠ .add → binD op a b = some d → ∃ i j, a = .int i ∧ b = .int j := by
    intro op a b d hne e
    cases op <;> cases a <;> cases b <;> first | (simp [binD] at e; done) | exact absurd rfl hne | exact ⟨_, _, rfl, rfl⟩
  have fin : ∀ {g : G} {d : D} {v : V} {Q : VK}, Rel X.K g → Rep X.K g d v → (∀ g' v, g'.h = g.h → Rel X.K g' → Ext g g' → Rep X.K g' d v → Q v g'.H) → Q v g.H := fun r q i => i _ _ rfl r (Ext.refl _) q
  cases op <;> cases o <;> first | (simp [opIs] at h; done) | skip
  · refine ⟨_, (op_add.or op_add_str).or op_catA, fun g a b d x y Q e r ha hb q => ?_⟩
    cases a <;> cases b <;> first | (simp [binD] at e; done) | skip
    · rename_i i j
      simp only [binD, Option.some.injEq] at e
      subst e
      exact .inl (.inl ⟨i, j, rep_int.mp ha, rep_int.mp hb, fin r (rep_int.mpr rfl) q⟩)
    · rename_i i j
      simp only [binD] at e
      split at e
      · rename_i hz
        cases e
        exact .inl (.inr ⟨i, j, rep_str.mp ha, rep_str.mp hb, by rw [sizeMax_eq]; exact hz, fin r (rep_str.mpr rfl) q⟩)
      · cases e
    · rename_i i j
      simp only [binD] at e
      split at e
      · rename_i hz
        cases e
        obtain ⟨p, xs, rfl, hp, rx⟩ := rep_tup.mp ha
        obtain ⟨p2, ys, rfl, hp2, ry⟩ := rep_tup.mp hb
        have l1 := rx.length
        have l2 := ry.length
        refine .inr ⟨p, p2, xs, ys, rfl, rfl, hp, hp2, by rw [sizeMax_eq, ← l1, ← l2]; exact hz, fun z => ?_, fun _ z => ?_, fun _ _ a hA => ?_⟩
        · subst z
          have : i = [] := List.length_eq_zero_iff.mp (by simpa using l1)
          subst this
          exact fin r hb q
        · subst z
          have : j = [] := List.length_eq_zero_iff.mp (by simpa using l2)
          subst this
          rw [List.append_nil] at q
          exact fin r ha q
        · obtain ⟨x2, r2⟩ := Ext.lay (o := .tup (xs ++ ys)) r hA
          exact q ⟨g.w, g.h, upd g.H a (.tup (xs ++ ys))⟩ _ rfl r2 x2 (rep_tup.mpr ⟨a, xs ++ ys, rfl, .of upd_same, Reps.ext r x2 _ (Reps.append rx ry)⟩)
      · cases e
  · refine ⟨_, op_sub, fun g a b d x y Q e r ha hb q => ?_⟩
    obtain ⟨i, j, rfl, rfl⟩ := two (by decide) e
    simp only [binD, Option.some.injEq] at e
    subst e
    exact ⟨i, j, rep_int.mp ha, rep_int.mp hb, fin r (rep_int.mpr rfl) q⟩
  · refine ⟨_, op_mulI, fun g a b d x y Q e r ha hb q => ?_⟩
    obtain ⟨i, j, rfl, rfl⟩ := two (by decide) e
    simp only [binD] at e
    split at e
    · rename_i hc
      cases e
      exact ⟨i, j, rep_int.mp ha, rep_int.mp hb, mulOk_ok hc, fin r (rep_int.mpr rfl) q⟩
    · cases e
  · refine ⟨_, op_fdivW, fun g a b d x y Q e r ha hb q => ?_⟩
    obtain ⟨i, j, rfl, rfl⟩ := two (by decide) e
    simp only [binD] at e
    split at e
    · rename_i hc
      cases e
      exact ⟨i, j, rep_int.mp ha, rep_int.mp hb, divOk_ok hc, fin r (rep_int.mpr rfl) q⟩
    · cases e
  · refine ⟨_, op_mod, fun g a b d x y Q e r ha hb q => ?_⟩
    obtain ⟨i, j, rfl, rfl⟩ := two (by decide) e
    simp only [binD] at e
    split at e
    · rename_i hc
      cases e
      exact ⟨i, j, rep_int.mp ha, rep_int.mp hb, of_decide_eq_true hc, fin r (rep_int.mpr rfl) q⟩
    · cases e
  · refine ⟨_, op_powW, fun g a b d x y Q e r ha hb q => ?_⟩
    obtain ⟨i, j, rfl, rfl⟩ := two (by decide) e
    simp only [binD] at e
    split at e
    · rename_i hc
      cases e
      exact ⟨i, j, rep_int.mp ha, rep_int.mp hb, powOk_ok hc, fin r (rep_int.mpr rfl) q⟩
    · cases e
  · refine ⟨_, op_shl, fun g a b d x y Q e r ha hb q => ?_⟩
    obtain ⟨i, j, rfl, rfl⟩ := two (by decide) e
    simp only [binD] at e
    split at e
    · rename_i hc
      cases e
      exact ⟨i, j, rep_int.mp ha, rep_int.mp hb, shl_ok' hc, fin r (rep_int.mpr rfl) q⟩
    · cases e
theorem isNon_rep {a : D} {x : V} (h : Rep K g a x) : isNon a = decide (x = .non) := by
  cases a <;> simp only [Rep] at h
  · subst h; rfl
  · subst h; rfl
  · subst h; rfl
  · subst h; rfl
  · obtain ⟨_, _, rfl, _⟩ := h; rfl
  · obtain ⟨_, _, rfl, _⟩ := h; rfl
  · obtain ⟨_, _, _, rfl, _⟩ := h; rfl
  · rw [h.2]; rfl
theorem derefD_rep {a : D} {x : V} (r : Rel K g) (h : Rep K g a x) : (derefD g.h a = a) ∨ ∃ ds p xs, derefD g.h a = .lst ds ∧ x = .ref p ∧ SqL K g.H p xs ∧ Reps K g ds xs := by
  cases a <;> first | exact .inl rfl | skip
  rename_i n
  obtain ⟨hn, rfl⟩ := rep_ref.mp h
  simp only [derefD]
  split
  · rename_i ds hds
    obtain ⟨_, xs, e, rs⟩ := r.obj n _ hds
    exact .inr ⟨ds, _, xs, rfl, rfl, .of e, rs⟩
  · exact .inl rfl
mutual
theorem dp_rep : ∀ (d : D) {p : PyData} {v : V}, D.py d = some p → Rep K g d v → Dp K g.H v p
  | .non, p, v, e, h => by simp only [D.py, Option.some.injEq] at e; subst e; rw [rep_non.mp h]; exact .non
  | .bl b, p, v, e, h => by simp only [D.py, Option.some.injEq] at e; subst e; rw [rep_bl.mp h]; exact .bl b
  | .int b, p, v, e, h => by simp only [D.py, Option.some.injEq] at e; subst e; rw [rep_int.mp h]; exact .int b
  | .str b, p, v, e, h => by simp only [D.py, Option.some.injEq] at e; subst e; rw [rep_str.mp h]; exact .str b
  | .tup ds, p, v, e, h => by
    simp only [D.py, Option.map_eq_some_iff] at e
    obtain ⟨ps, e, rfl⟩ := e
    obtain ⟨a, xs, rfl, hq, rs⟩ := rep_tup.mp h
    exact .tup hq (dps_rep ds e rs)
  | .lst ds, p, v, e, h => by
    simp only [D.py, Option.map_eq_some_iff] at e
    obtain ⟨ps, e, rfl⟩ := e
    obtain ⟨a, xs, rfl, hq, rs⟩ := rep_lst.mp h
    exact .lst (hq.elim (fun z => .inl z.1) .inr) (dps_rep ds e rs)
  | .dct _ _ _, p, v, e, h => by simp [D.py] at e
  | .ref _, p, v, e, h => by simp [D.py] at e
theorem dps_rep : ∀ (ds : List D) {ps : List PyData} {vs : List V}, D.pys ds = some ps → Reps K g ds vs → DpAll K g.H vs ps
  | [], ps, vs, e, h => by
    simp only [D.pys, Option.some.injEq] at e
    simp only [Reps] at h
    subst e h
    exact .nil
  | d :: ds, ps, vs, e, h => by
    simp only [D.pys] at e
    split at e
    · rename_i p qs e1 e2
      cases e
      simp only [Reps] at h
      obtain ⟨y, ys, rfl, h1, h2⟩ := h
      exact .cons (dp_rep d e1 h1) (dps_rep ds e2 h2)
    · cases e
end
theorem dp_deref {a : D} {p : PyData} {x : V} (r : Rel K g) (h : Rep K g a x) (e : D.py (derefD g.h a) = some p) : Dp K g.H x p := by
  rcases derefD_rep r h with z | ⟨ds, q, xs, z, rfl, hq, rs⟩
  · rw [z] at e
    exact dp_rep a e h
  · rw [z] at e
    simp only [D.py, Option.map_eq_some_iff] at e
    obtain ⟨ps, e, rfl⟩ := e
    exact .lst hq (dps_rep ds e rs)
theorem eqD_ok {a b : D} {k : Bool} {x y : V} (r : Rel K g) (e : eqD g.h a b = some k) (ha : Rep K g a x) (hb : Rep K g b y) : (scal x y = true ∧ k = decide (x = y)) ∨
    ∃ d e, Dp K g.H x d ∧ Dp K g.H y e ∧ SeqAt.shaped d = true ∧ SeqAt.shaped e = true ∧ k = PyData.eqv d e := by
  unfold eqD at e
  split at e
  · simp only [Option.some.injEq] at e
    subst e
    rw [rep_int.mp ha, rep_int.mp hb]
    rename_i i j
    exact .inl ⟨rfl, by by_cases z : i = j <;> simp [z]⟩
  · simp only [Option.some.injEq] at e
    subst e
    rw [rep_str.mp ha, rep_str.mp hb]
    rename_i i j
    exact .inl ⟨rfl, by by_cases z : i = j <;> simp [z]⟩
  · simp only [Option.some.injEq] at e
    subst e
    rw [rep_bl.mp ha, rep_bl.mp hb]
    exact .inl ⟨rfl, by rw [dec_bl]⟩
  · simp only [Option.some.injEq] at e
    subst e
    rw [rep_non.mp ha, rep_non.mp hb]
    exact .inl ⟨rfl, rfl⟩
  · split at e
    · rename_i p q e1 e2
      split at e
      · rename_i hs
        cases e
        exact .inr ⟨p, q, dp_deref r ha e1, dp_deref r hb e2, hs.1, hs.2, rfl⟩
      · cases e
    · cases e
theorem flatD_rep {d : D} {v : V} (h : Rep K g d v) (f : flatD d = true) : flatV v = true ∧ ∀ {e : D} {u : V}, Rep K g e u → flatD e = true → eqF e d = eqV u v := by
  cases d <;> simp only [flatD] at f <;> first | (cases f; done) | skip
  all_goals
    simp only [Rep] at h
    subst h
    refine ⟨rfl, fun {e u} he fe => ?_⟩
    cases e <;> simp only [flatD] at fe <;> first | (cases fe; done) | skip
    all_goals
      simp only [Rep] at he
      subst he
      rfl
theorem flats_rep : ∀ {ds : List D} {vs : List V}, Reps K g ds vs → ds.all flatD = true → vs.all flatV = true ∧ ∀ {d : D} {v : V}, Rep K g d v → flatD d = true → (ds.any fun e => eqF e d) = inV v vs
  | [], vs, h, _ => by
    simp only [Reps] at h
    subst h
    exact ⟨rfl, fun _ _ => rfl⟩
  | d :: ds, vs, h, f => by
    simp only [Reps] at h
    obtain ⟨y, ys, rfl, h1, h2⟩ := h
    rw [List.all_cons, Bool.and_eq_true] at f
    obtain ⟨i1, i2⟩ := flats_rep h2 f.2
    refine ⟨by rw [List.all_cons, (flatD_rep h1 f.1).1, i1]; rfl, fun {e v} he fe => ?_⟩
    rw [List.any_cons, i2 he fe, (flatD_rep he fe).2 h1 f.1]
    rfl
theorem seq_rep {d : D} {ds : List D} {v : V} (e : seqOf g.h d = some ds) (r : Rel K g) (h : Rep K g d v) : ∃ a xs, v = .ref a ∧ (SqL K g.H a xs ∨ SqT K g.H a xs) ∧ Reps K g ds xs := by
  cases d with
  | lst es =>
    simp only [seqOf, Option.some.injEq] at e
    subst e
    obtain ⟨a, xs, rfl, q, rs⟩ := rep_lst.mp h
    refine ⟨a, xs, rfl, .inl ?_, rs⟩
    rcases q with ⟨q, _⟩ | q
    · exact .inl q
    · exact .inr q
  | tup es =>
    simp only [seqOf, Option.some.injEq] at e
    subst e
    obtain ⟨a, xs, rfl, q, rs⟩ := rep_tup.mp h
    exact ⟨a, xs, rfl, .inr q, rs⟩
  | ref n =>
    obtain ⟨_, rfl⟩ := rep_ref.mp h
    simp only [seqOf] at e
    split at e
    · rename_i es he
      cases e
      obtain ⟨_, xs, e1, rs⟩ := r.obj n _ he
      exact ⟨_, xs, rfl, .inl (.of e1), rs⟩
    · cases e
  | _ => simp [seqOf] at e
theorem lst_rep {d : D} {ds : List D} {v : V} (e : lstOf g.h d = some ds) (r : Rel K g) (h : Rep K g d v) : ∃ a xs, v = .ref a ∧ SqL K g.H a xs ∧ Reps K g ds xs := by
  cases d with
  | lst es =>
    simp only [lstOf, Option.some.injEq] at e
    subst e
    obtain ⟨a, xs, rfl, q, rs⟩ := rep_lst.mp h
    refine ⟨a, xs, rfl, ?_, rs⟩
    rcases q with ⟨q, _⟩ | q
    · exact .inl q
    · exact .inr q
  | ref n =>
    obtain ⟨_, rfl⟩ := rep_ref.mp h
    simp only [lstOf] at e
    split at e
    · rename_i es he
      cases e
      obtain ⟨_, xs, e1, rs⟩ := r.obj n _ he
      exact ⟨_, xs, rfl, .of e1, rs⟩
    · cases e
  | _ => simp [lstOf] at e
theorem inD_ok {a b : D} {k : Bool} {x y : V} (r : Rel K g) (e : inD g.h a b = some k) (ha : Rep K g a x) (hb : Rep K g b y) :
    (∃ i j, x = .str i ∧ y = .str j ∧ k = !(Builtin.Str.occurrences j i 0 j.length 1).isEmpty) ∨ (∃ p xs, y = .ref p ∧ (SqL K g.H p xs ∨ SqT K g.H p xs) ∧ flatV x = true ∧ xs.all flatV = true ∧ k = inV x xs) ∨
      ∃ t ks vs, dctOf g.h b = some (t, ks, vs) ∧ keyOk t a = true ∧ k = (dgetD t ks vs a).isSome := by
  unfold inD at e
  split at e
  · simp only [Option.some.injEq] at e
    subst e
    exact .inl ⟨_, _, rep_str.mp ha, rep_str.mp hb, rfl⟩
  · split at e
    · rename_i ds hds
      split at e
      · rename_i hf
        cases e
        obtain ⟨p, xs, rfl, hq, rs⟩ := seq_rep hds r hb
        obtain ⟨i1, i2⟩ := flats_rep rs hf.2
        exact .inr (.inl ⟨p, xs, rfl, hq, (flatD_rep ha hf.1).1, i1, i2 ha hf.1⟩)
      · cases e
    · split at e
      · rename_i t ks vs hd
        split at e
        · rename_i hk
          cases e
          exact .inr (.inr ⟨t, ks, vs, hd, hk, rfl⟩)
        · cases e
      · cases e
/-- a comparison's rule -/
theorem op_cmp (hw : X.w = Wd.w) (hp : X.prog = Wd.P) (hu : X.A.units + 64 < cLine) (op : Cop) (o : CmpOp) (h : copIs op o = true) : ∃ r, OpR X (compareOp o) r ∧ ∀ (g : G) (a b : D) (k : Bool) (x y : V) (Q : VK), cmpD g.h op a b = some k → Rel X.K g → Rep X.K g a x → Rep X.K g b y → Q (.bl k) g.H → r x y g.H Q := by
  have two : ∀ {h : AH} {op : Cop} {a b : D} {k : Bool}, (op = .lt ∨ op = .le ∨ op = .gt ∨ op = .ge) → cmpD h op a b = some k → ∃ i j, a = .int i ∧ b = .int j := by
    intro h op a b k z e
    rcases z with rfl | rfl | rfl | rfl <;> cases a <;> cases b <;> first | (simp [cmpD] at e; done) | exact ⟨_, _, rfl, rfl⟩
  cases op <;> cases o <;> first | (simp [copIs] at h; done) | skip
  · refine ⟨_, op_lt, fun g a b k x y Q e r ha hb q => ?_⟩
    obtain ⟨i, j, rfl, rfl⟩ := two (by simp) e
    simp only [cmpD, Option.some.injEq] at e
    subst e
    exact ⟨i, j, rep_int.mp ha, rep_int.mp hb, q⟩
  · refine ⟨_, op_le, fun g a b k x y Q e r ha hb q => ?_⟩
    obtain ⟨i, j, rfl, rfl⟩ := two (by simp) e
    simp only [cmpD, Option.some.injEq] at e
    subst e
    exact ⟨i, j, rep_int.mp ha, rep_int.mp hb, q⟩
  · refine ⟨_, op_gt, fun g a b k x y Q e r ha hb q => ?_⟩
    obtain ⟨i, j, rfl, rfl⟩ := two (by simp) e
    simp only [cmpD, Option.some.injEq] at e
    subst e
    exact ⟨i, j, rep_int.mp ha, rep_int.mp hb, q⟩
  · refine ⟨_, op_ge, fun g a b k x y Q e r ha hb q => ?_⟩
    obtain ⟨i, j, rfl, rfl⟩ := two (by simp) e
    simp only [cmpD, Option.some.injEq] at e
    subst e
    exact ⟨i, j, rep_int.mp ha, rep_int.mp hb, q⟩
  · refine ⟨_, op_eq.or (op_eqD hu), fun g a b k x y Q e r ha hb q => ?_⟩
    simp only [cmpD] at e
    rcases eqD_ok r e ha hb with ⟨e1, e2⟩ | ⟨d, f, h1, h2, h3, h4, e2⟩
    · subst e2
      exact .inl ⟨e1, q⟩
    · subst e2
      exact .inr ⟨d, f, h1, h2, h3, h4, q⟩
  · refine ⟨_, op_ne.or (op_neD hu), fun g a b k x y Q e r ha hb q => ?_⟩
    simp only [cmpD, Option.map_eq_some_iff] at e
    obtain ⟨k', e, rfl⟩ := e
    rcases eqD_ok r e ha hb with ⟨e1, e2⟩ | ⟨d, f, h1, h2, h3, h4, e2⟩
    · subst e2
      exact .inl ⟨e1, q⟩
    · subst e2
      exact .inr ⟨d, f, h1, h2, h3, h4, q⟩
  · refine ⟨_, op_isN, fun g a b k x y Q e r ha hb q => ?_⟩
    cases b <;> first | (simp [cmpD] at e; done) | skip
    simp only [cmpD, Option.some.injEq] at e
    subst e
    exact ⟨rep_non.mp hb, by rw [← isNon_rep ha]; exact q⟩
  · refine ⟨_, op_notN, fun g a b k x y Q e r ha hb q => ?_⟩
    cases b <;> first | (simp [cmpD] at e; done) | skip
    simp only [cmpD, Option.some.injEq] at e
    subst e
    exact ⟨rep_non.mp hb, by rw [← isNon_rep ha]; exact q⟩
  · refine ⟨_, op_in_str.or (op_in_seq.or (op_inDct hw hp hu)), fun g a b k x y Q e r ha hb q => ?_⟩
    simp only [cmpD] at e
    rcases inD_ok r e ha hb with ⟨i, j, e1, e2, e3⟩ | ⟨p, xs, h1, h2, h3, h4, e3⟩ | ⟨t, ks, vs, h1, h2, e3⟩
    · subst e3
      exact .inl ⟨i, j, e1, e2, q⟩
    · subst e3
      exact .inr (.inl ⟨p, xs, h1, h2, h3, h4, q⟩)
    · subst e3
      exact .inr (.inr ⟨g, a, b, t, ks, vs, rfl, r, ha, hb, h1, h2, q⟩)
  · refine ⟨_, op_notIn_str.or (op_notIn_seq.or (op_notinDct hw hp hu)), fun g a b k x y Q e r ha hb q => ?_⟩
    simp only [cmpD, Option.map_eq_some_iff] at e
    obtain ⟨k', e, rfl⟩ := e
    rcases inD_ok r e ha hb with ⟨i, j, e1, e2, e3⟩ | ⟨p, xs, h1, h2, h3, h4, e3⟩ | ⟨t, ks, vs, h1, h2, e3⟩
    · subst e3
      exact .inl ⟨i, j, e1, e2, by simpa using q⟩
    · subst e3
      exact .inr (.inl ⟨p, xs, h1, h2, h3, h4, q⟩)
    · subst e3
      exact .inr (.inr ⟨g, a, b, t, ks, vs, rfl, r, ha, hb, h1, h2, q⟩)
end
end Iv

set_option maxHeartbeats 4000000
/-! SndE: expressions. -/
namespace Iv
open PySem L2 PySem.Spec PyProof.Rows
section
variable {X : Cx} {tx : Tx} {sc : Scope} {T : List Fn} {k : Nat} {K : PySem.W.Frag} {g : G} {s : St} {σ : L2.St} {H : Hp} [Wd]
theorem atI_rep {ds : List D} {xs : List V} {i : Int} {d : D} (rs : Reps K g ds xs) (e : L2.atI ds i = some d) : ∃ v, L2.atI xs i = some v ∧ Rep K g d v := by
  unfold L2.atI at e ⊢
  rw [← rs.length]
  cases z : L2.ixN ds.length i with
  | none => rw [z] at e; cases e
  | some j =>
    rw [z] at e
    exact rs.get e
theorem semEs_len {C : Cal} : ∀ {es : List E} {s : St} {h h' : AH} {ds : List D}, semEs C es s h = some (ds, h') → ds.length = es.length
  | [], s, h, h', ds, e => by
    simp only [semEs, ret, Option.some.injEq, Prod.mk.injEq] at e
    rw [← e.1]; rfl
  | a :: es, s, h, h', ds, e => by
    simp only [semEs, bnd] at e
    split at e
    · rename_i d h1 e1
      split at e
      · rename_i ds' h2 e2
        simp only [ret, Option.some.injEq, Prod.mk.injEq] at e
        rw [← e.1]
        simp [semEs_len e2]
      · cases e
    · cases e
/-- a type of the model for data -/
theorem tyX_rep {d : D} {t : Ty} {v : V} (r : Rel K g) (e : tyOf g.h d = some t) (h : Rep K g d v) : TyX K g.H v (.type (tyName t)) := by
  cases d with
  | non => simp [tyOf] at e
  | bl b =>
    simp only [tyOf, Option.some.injEq] at e
    subst e
    rw [rep_bl.mp h]
    exact .base (.bl b)
  | int b =>
    simp only [tyOf, Option.some.injEq] at e
    subst e
    rw [rep_int.mp h]
    exact .base (.int b)
  | str b =>
    simp only [tyOf, Option.some.injEq] at e
    subst e
    rw [rep_str.mp h]
    exact .base (.str b)
  | tup ds =>
    simp only [tyOf, Option.some.injEq] at e
    subst e
    obtain ⟨a, xs, rfl, q, _⟩ := rep_tup.mp h
    rcases q with (q | ⟨o, q⟩) | ⟨o, its, n, q, c, _⟩
    · exact .base (.tup q)
    · exact .fTuple q
    · exact .kTuple q c
  | lst ds =>
    simp only [tyOf, Option.some.injEq] at e
    subst e
    obtain ⟨a, xs, rfl, q, _⟩ := rep_lst.mp h
    rcases q with ⟨q | ⟨o, q⟩, _⟩ | ⟨o, its, n, q, c, _⟩
    · exact .base (.lst q)
    · exact .base (.frz q)
    · exact .kList q c
  | dct _ _ _ => simp [tyOf] at e
  | ref n =>
    obtain ⟨_, rfl⟩ := rep_ref.mp h
    simp only [tyOf] at e
    split at e
    · rename_i es he
      cases e
      obtain ⟨_, xs, e1, _⟩ := r.obj n _ he
      exact .base (.lst e1)
    · cases e
theorem isa_kit (t c : Ty) : kitB (tyName t) (tyName c) = some (isaB t c) := by
  cases t <;> cases c <;> decide +kernel
theorem isa_non (c : Ty) : kitB "NoneType" (tyName c) = some false := by
  cases c <;> decide +kernel
theorem plain_back {pos : Pos} {env : Env} : ∀ {es : List Expr}, es.all plainE = true → (backTo pos (starEach es env)).any (·.1) = false
  | [], _ => rfl
  | e :: es, h => by
    rw [List.all_cons, Bool.and_eq_true] at h
    rw [star_cons h.1]
    show (false || (backTo pos (starEach es env)).any (·.1)) = false
    rw [plain_back h.2]
    rfl
theorem ckEs_plain : ∀ {es : List E} {xs : List Expr}, ckEs tx sc es xs = true → xs.all plainE = true ∧ es.length = xs.length
  | [], [], _ => ⟨rfl, rfl⟩
  | [], x :: xs, h => by simp [ckEs] at h
  | e :: es, [], h => by simp [ckEs] at h
  | e :: es, x :: xs, h => by
    simp only [ckEs, Bool.and_eq_true] at h
    obtain ⟨h1, h2⟩ := ckEs_plain h.2
    exact ⟨by rw [List.all_cons, h.1.2, h1]; rfl, by simp [h2]⟩
theorem isBlt_ok (L : Lk X tx T k) (A : At X tx sc) {x : Str} (h : isBlt tx sc x = true) : okN x = true ∧ Gl X x ∧ X.mg x = none := by
  simp only [isBlt, Bool.and_eq_true] at h
  refine ⟨h.1.1, ?_, L.blt x (by simpa using h.2)⟩
  have q := h.1.2
  simp only [glB, decide_eq_true_eq] at q
  show X.env.scope.names.lookup x = _
  rw [A.hsc]
  exact q
theorem intsD_rep : ∀ {ds : List D} {ns : List Int} {vs : List V}, intsD ds = some ns → Reps K g ds vs → vs = ns.map V.int
  | [], ns, vs, e, h => by
    simp only [intsD, Option.some.injEq] at e
    simp only [Reps] at h
    subst e h; rfl
  | d :: ds, ns, vs, e, h => by
    cases d <;> simp only [intsD, Option.map_eq_some_iff] at e <;> first | (cases e; done) | skip
    obtain ⟨ms, e, rfl⟩ := e
    simp only [Reps] at h
    obtain ⟨y, ys, rfl, h1, h2⟩ := h
    rw [rep_int.mp h1, intsD_rep e h2]; rfl
theorem blsD_rep : ∀ {ds : List D} {ns : List Bool} {vs : List V}, blsD ds = some ns → Reps K g ds vs → vs = ns.map V.bl
  | [], ns, vs, e, h => by
    simp only [blsD, Option.some.injEq] at e
    simp only [Reps] at h
    subst e h; rfl
  | d :: ds, ns, vs, e, h => by
    cases d <;> simp only [blsD, Option.map_eq_some_iff] at e <;> first | (cases e; done) | skip
    obtain ⟨ms, e, rfl⟩ := e
    simp only [Reps] at h
    obtain ⟨y, ys, rfl, h1, h2⟩ := h
    rw [rep_bl.mp h1, blsD_rep e h2]; rfl
theorem maxI_is : ∀ (ns : List Int) (n m : Int), m ∈ n :: ns → (∀ y, y ∈ n :: ns → y ≤ m) → m = maxI n ns
  | [], n, m, h, _ => by simpa [maxI] using h
  | x :: xs, n, m, h, q => by
    unfold maxI
    refine maxI_is xs _ m ?_ ?_
    · have q1 := q x (by simp)
      have q2 := q n (by simp)
      simp only [List.mem_cons] at h ⊢
      rcases h with rfl | rfl | h
      · exact .inl (by split <;> omega)
      · exact .inl (by split <;> omega)
      · exact .inr h
    · intro y hy
      simp only [List.mem_cons] at hy
      rcases hy with rfl | hy
      · split
        · exact q x (by simp)
        · exact q n (by simp)
      · exact q y (by simp [hy])
theorem minI_is : ∀ (ns : List Int) (n m : Int), m ∈ n :: ns → (∀ y, y ∈ n :: ns → m ≤ y) → m = minI n ns
  | [], n, m, h, _ => by simpa [minI] using h
  | x :: xs, n, m, h, q => by
    unfold minI
    refine minI_is xs _ m ?_ ?_
    · have q1 := q x (by simp)
      have q2 := q n (by simp)
      simp only [List.mem_cons] at h ⊢
      rcases h with rfl | rfl | h
      · exact .inl (by split <;> omega)
      · exact .inl (by split <;> omega)
      · exact .inr h
    · intro y hy
      simp only [List.mem_cons] at hy
      rcases hy with rfl | hy
      · split
        · exact q x (by simp)
        · exact q n (by simp)
      · exact q y (by simp [hy])
/-- what is shown of a built-in: what it gives, in the heap as it was or with something new in it -/
def BiOk (K : PySem.W.Frag) [Wd] (b : Bi) (r : List V → Hp → VK → Prop) : Prop := ∀ (g : G) (ds : List D) (d : D) (vs : List V) (Q : VK), biD g.h b ds = some d → Rel K g → Reps K g ds vs →
  (∀ w' H' v, Rel K ⟨w', g.h, H'⟩ → Ext g ⟨w', g.h, H'⟩ → Rep K ⟨w', g.h, H'⟩ d v → Q v H') → r vs g.H Q
theorem one_rep {d : D} {vs : List V} (h : Reps K g [d] vs) : ∃ v, vs = [v] ∧ Rep K g d v := by
  simp only [Reps] at h
  obtain ⟨y, ys, rfl, h1, rfl⟩ := h
  exact ⟨y, rfl, h1⟩
theorem two_rep {d e : D} {vs : List V} (h : Reps K g [d, e] vs) : ∃ v w, vs = [v, w] ∧ Rep K g d v ∧ Rep K g e w := by
  simp only [Reps] at h
  obtain ⟨y, ys, rfl, h1, z, zs, rfl, h2, rfl⟩ := h
  exact ⟨y, z, rfl, h1, h2⟩
/-- a built-in called -/
theorem pe_bi (L : Lk X tx T k) (A : At X tx sc) {b : Bi} {n : Str} (hb : biName b = some n) : ∃ id r, bootBuiltins n = some (.builtin id) ∧ CallR X (.builtin id) r ∧ BiOk X.K b r := by
  have here : ∀ {g : G} {d : D} {v : V} {Q : VK}, Rel X.K g → (∀ w' H' v, Rel X.K ⟨w', g.h, H'⟩ → Ext g ⟨w', g.h, H'⟩ → Rep X.K ⟨w', g.h, H'⟩ d v → Q v H') → Rep X.K g d v → Q v g.H := fun r q h => q _ _ _ r (Ext.refl _) h
  cases b <;> simp only [biName, Option.some.injEq] at hb <;> first | (cases hb; done) | subst hb
  · refine ⟨"len", _, by decide +kernel, call_len_seq.or call_len_str, fun g ds d vs Q e r rs q => ?_⟩
    match ds, e with
    | [], e => simp [biD] at e
    | x :: y :: zs, e => exact absurd e (by cases x <;> simp [biD])
    | [x], e =>
      by_cases hx : ∃ z, x = .str z
      · obtain ⟨z, rfl⟩ := hx
        simp only [biD] at e
        split at e
        · rename_i hz
          cases e
          obtain ⟨y, rfl, h1⟩ := one_rep rs
          exact .inr ⟨z, by rw [rep_str.mp h1], by rw [sizeMax_eq]; exact hz, here r q (rep_int.mpr rfl)⟩
        · cases e
      · have e' : ((seqOf g.h x).map fun ds => D.int ds.length) = some d := by
          cases x <;> first | exact e | exact absurd ⟨_, rfl⟩ hx
        simp only [Option.map_eq_some_iff] at e'
        obtain ⟨es, e1, rfl⟩ := e'
        obtain ⟨y, rfl, h1⟩ := one_rep rs
        obtain ⟨a, xs, rfl, hs, rs⟩ := seq_rep e1 r h1
        exact .inl ⟨a, xs, rfl, hs, here r q (rep_int.mpr (by rw [rs.length]))⟩
  · refine ⟨"abs", _, by decide +kernel, call_abs, fun g ds d vs Q e r rs q => ?_⟩
    match ds, e with
    | [.int i], e =>
      simp only [biD, Option.some.injEq] at e
      subst e
      obtain ⟨y, rfl, h1⟩ := one_rep rs
      rw [rep_int.mp h1]
      exact ⟨i, rfl, here r q (rep_int.mpr rfl)⟩
  · refine ⟨"min", _, by decide +kernel, call_min2 L.calm, fun g ds d vs Q e r rs q => ?_⟩
    match ds, e with
    | [.int i, .int j], e =>
      simp only [biD, Option.some.injEq] at e
      subst e
      obtain ⟨y, z, rfl, h1, h2⟩ := two_rep rs
      rw [rep_int.mp h1, rep_int.mp h2]
      exact ⟨i, j, rfl, here r q (rep_int.mpr rfl)⟩
  · refine ⟨"max", _, by decide +kernel, call_max2 L.calm, fun g ds d vs Q e r rs q => ?_⟩
    match ds, e with
    | [.int i, .int j], e =>
      simp only [biD, Option.some.injEq] at e
      subst e
      obtain ⟨y, z, rfl, h1, h2⟩ := two_rep rs
      rw [rep_int.mp h1, rep_int.mp h2]
      exact ⟨i, j, rfl, here r q (rep_int.mpr rfl)⟩
  · refine ⟨"sum", _, by decide +kernel, cr_sum L.calm, fun g ds d vs Q e r rs q => ?_⟩
    match ds, e with
    | [x], e =>
      simp only [biD, Option.map_eq_some_iff, Option.bind_eq_some_iff] at e
      obtain ⟨ns, ⟨es, e1, e2⟩, rfl⟩ := e
      obtain ⟨y, rfl, h1⟩ := one_rep rs
      obtain ⟨a, xs, rfl, hs, rs⟩ := lst_rep e1 r h1
      rw [intsD_rep e2 rs] at hs
      exact ⟨a, ns, rfl, hs, here r q (rep_int.mpr rfl)⟩
  · refine ⟨"min", _, by decide +kernel, cr_min L.calm, fun g ds d vs Q e r rs q => ?_⟩
    match ds, e with
    | [x], e =>
      simp only [biD] at e
      split at e
      · rename_i n ns e1
        cases e
        simp only [Option.bind_eq_some_iff] at e1
        obtain ⟨es, e1, e2⟩ := e1
        obtain ⟨y, rfl, h1⟩ := one_rep rs
        obtain ⟨a, xs, rfl, hs, rs⟩ := lst_rep e1 r h1
        rw [intsD_rep e2 rs] at hs
        exact ⟨a, n :: ns, rfl, hs, by simp, fun m h1 h2 => here r q (rep_int.mpr (by rw [minI_is ns n m h1 h2]))⟩
      · cases e
  · refine ⟨"max", _, by decide +kernel, cr_max L.calm, fun g ds d vs Q e r rs q => ?_⟩
    match ds, e with
    | [x], e =>
      simp only [biD] at e
      split at e
      · rename_i n ns e1
        cases e
        simp only [Option.bind_eq_some_iff] at e1
        obtain ⟨es, e1, e2⟩ := e1
        obtain ⟨y, rfl, h1⟩ := one_rep rs
        obtain ⟨a, xs, rfl, hs, rs⟩ := lst_rep e1 r h1
        rw [intsD_rep e2 rs] at hs
        exact ⟨a, n :: ns, rfl, hs, by simp, fun m h1 h2 => here r q (rep_int.mpr (by rw [maxI_is ns n m h1 h2]))⟩
      · cases e
  · refine ⟨"all", _, by decide +kernel, cr_all L.calm, fun g ds d vs Q e r rs q => ?_⟩
    match ds, e with
    | [x], e =>
      simp only [biD, Option.map_eq_some_iff, Option.bind_eq_some_iff] at e
      obtain ⟨ns, ⟨es, e1, e2⟩, rfl⟩ := e
      obtain ⟨y, rfl, h1⟩ := one_rep rs
      obtain ⟨a, xs, rfl, hs, rs⟩ := lst_rep e1 r h1
      rw [blsD_rep e2 rs] at hs
      exact ⟨a, ns, rfl, hs, here r q (rep_bl.mpr rfl)⟩
  · refine ⟨"any", _, by decide +kernel, cr_any L.calm, fun g ds d vs Q e r rs q => ?_⟩
    match ds, e with
    | [x], e =>
      simp only [biD, Option.map_eq_some_iff, Option.bind_eq_some_iff] at e
      obtain ⟨ns, ⟨es, e1, e2⟩, rfl⟩ := e
      obtain ⟨y, rfl, h1⟩ := one_rep rs
      obtain ⟨a, xs, rfl, hs, rs⟩ := lst_rep e1 r h1
      rw [blsD_rep e2 rs] at hs
      exact ⟨a, ns, rfl, hs, here r q (rep_bl.mpr rfl)⟩
  · refine ⟨"divmod", _, by decide +kernel, call_divmodW, fun g ds d vs Q e r rs q => ?_⟩
    match ds, e with
    | [.int i, .int j], e =>
      simp only [biD] at e
      split at e
      · rename_i hd
        cases e
        obtain ⟨y, z, rfl, h1, h2⟩ := two_rep rs
        rw [rep_int.mp h1, rep_int.mp h2]
        have hw := divOk_ok (i := i) hd
        refine ⟨i, j, rfl, ⟨hw.1, PyProof.noPylong_of_log2 hw.2⟩, fun p hp => ?_⟩
        obtain ⟨x2, r2⟩ := Ext.lay (o := .tup [.int (i / j), .int (i % j)]) r hp
        exact q _ _ _ r2 x2 (rep_tup.mpr ⟨p, _, rfl, .of upd_same, Reps.cons (rep_int.mpr rfl) (Reps.cons (rep_int.mpr rfl) Reps.nil)⟩)
      · cases e
/-- a built-in type called -/
theorem pe_bt {b : Bi} {n : Str} (hb : btName b = some n) : ∃ id r, bootBuiltins n = some (.type id) ∧ CallR X (.type id) r ∧ BiOk X.K b r := by
  have here : ∀ {g : G} {d : D} {v : V} {Q : VK}, Rel X.K g → (∀ w' H' v, Rel X.K ⟨w', g.h, H'⟩ → Ext g ⟨w', g.h, H'⟩ → Rep X.K ⟨w', g.h, H'⟩ d v → Q v H') → Rep X.K g d v → Q v g.H := fun r q h => q _ _ _ r (Ext.refl _) h
  cases b <;> simp only [btName, Option.some.injEq] at hb <;> first | (cases hb; done) | subst hb
  · refine ⟨"int", _, by decide +kernel, call_int1, fun g ds d vs Q e r rs q => ?_⟩
    match ds, e with
    | [.int i], e =>
      simp only [biD, Option.some.injEq] at e
      subst e
      obtain ⟨y, rfl, h1⟩ := one_rep rs
      exact .inl ⟨i, by rw [rep_int.mp h1], here r q (rep_int.mpr rfl)⟩
    | [.bl i], e =>
      simp only [biD, Option.some.injEq] at e
      subst e
      obtain ⟨y, rfl, h1⟩ := one_rep rs
      exact .inr ⟨i, by rw [rep_bl.mp h1], here r q (rep_int.mpr rfl)⟩
  · refine ⟨"tuple", _, by decide +kernel, call_tuple_of, fun g ds d vs Q e r rs q => ?_⟩
    have lst : ∀ {x : D} {es : List D}, ds = [x] → lstOf g.h x = some es → d = .tup es → ∃ p ys, vs = [.ref p] ∧ ((SqL X.K g.H p ys ∧ ∀ l, g.H l = none → Q (.ref l) (upd g.H l (.tup ys))) ∨ (SqT X.K g.H p ys ∧ Q (.ref p) g.H)) := by
      intro x es h1 e1 h2
      subst h1 h2
      obtain ⟨y, rfl, h1⟩ := one_rep rs
      obtain ⟨a, xs, rfl, hs, rs⟩ := lst_rep e1 r h1
      refine ⟨a, xs, rfl, .inl ⟨hs, fun p hp => ?_⟩⟩
      obtain ⟨x2, r2⟩ := Ext.lay (o := .tup xs) r hp
      exact q _ _ _ r2 x2 (rep_tup.mpr ⟨p, _, rfl, .of upd_same, Reps.ext r x2 _ rs⟩)
    match ds, e with
    | [], e => simp [biD] at e
    | x :: y :: zs, e => exact absurd e (by cases x <;> simp [biD])
    | [x], e =>
      by_cases hx : ∃ es, x = .tup es
      · obtain ⟨es, rfl⟩ := hx
        simp only [biD, Option.some.injEq] at e
        subst e
        obtain ⟨y, rfl, h1⟩ := one_rep rs
        obtain ⟨a, xs, rfl, hq, rs⟩ := rep_tup.mp h1
        exact ⟨a, xs, rfl, .inr ⟨hq, here r q h1⟩⟩
      · have e' : (lstOf g.h x).map .tup = some d := by
          cases x <;> first | exact e | exact absurd ⟨_, rfl⟩ hx
        obtain ⟨es, e1, e2⟩ := Option.map_eq_some_iff.mp e'
        exact lst rfl e1 e2.symm
theorem ty_boot (t : Ty) : bootBuiltins (tyName t : Str) = some (.type (tyName t)) := by
  cases t <;> decide +kernel

/-! the call of a def -/
theorem semEs_append {C : Cal} : ∀ (a b : List E) (s : St), semEs C (a ++ b) s = bnd (semEs C a s) fun x => bnd (semEs C b s) fun y => ret (x ++ y)
  | [], b, s => by
    funext h
    simp only [List.nil_append, semEs, bnd, ret]
    cases semEs C b s h with
    | none => rfl
    | some p => rfl
  | e :: a, b, s => by
    funext h
    simp only [List.cons_append, semEs, semEs_append a b s, bnd, ret]
    cases semE C e s h with
    | none => rfl
    | some p =>
      obtain ⟨d, h1⟩ := p
      simp only []
      cases semEs C a s h1 with
      | none => rfl
      | some p =>
        obtain ⟨ds, h2⟩ := p
        simp only []
        cases semEs C b s h2 with
        | none => rfl
        | some p => rfl
theorem semEs_csts {C : Cal} : ∀ {es : List E} {ds : List D} {s : St}, cstsAre es ds = true → semEs C es s = ret ds
  | [], [], s, _ => rfl
  | [], d :: ds, s, h => by simp [cstsAre] at h
  | .c d :: es, [], s, h => by simp [cstsAre] at h
  | .c d :: es, d' :: ds, s, h => by
    simp only [cstsAre, Bool.and_eq_true] at h
    rw [D.beq_eq h.1]
    funext hp
    simp only [semEs, semE, semEs_csts h.2, bnd, ret]
  | .v _ :: _, _, _, h => by simp [cstsAre] at h
  | .tup _ :: _, _, _, h => by simp [cstsAre] at h
  | .lstv _ :: _, _, _, h => by simp [cstsAre] at h
  | .alloc _ :: _, _, _, h => by simp [cstsAre] at h
  | .bin _ _ _ :: _, _, _, h => by simp [cstsAre] at h
  | .neg _ :: _, _, _, h => by simp [cstsAre] at h
  | .cmp _ _ _ :: _, _, _, h => by simp [cstsAre] at h
  | .chain _ _ _ _ _ :: _, _, _, h => by simp [cstsAre] at h
  | .and _ _ :: _, _, _, h => by simp [cstsAre] at h
  | .or _ _ :: _, _, _, h => by simp [cstsAre] at h
  | .not _ :: _, _, _, h => by simp [cstsAre] at h
  | .ite _ _ _ :: _, _, _, h => by simp [cstsAre] at h
  | .idx _ _ :: _, _, _, h => by simp [cstsAre] at h
  | .call _ _ _ :: _, _, _, h => by simp [cstsAre] at h
  | .bi _ _ :: _, _, _, h => by simp [cstsAre] at h
  | .slice _ _ _ _ _ :: _, _, _, h => by simp [cstsAre] at h
  | .bad :: _, _, _, h => by simp [cstsAre] at h
  | .kidx _ _ _ :: _, _, _, h => by simp [cstsAre] at h
  | .kget _ _ _ :: _, _, _, h => by simp [cstsAre] at h
  | .dnew _ :: _, _, _, h => by simp [cstsAre] at h
  | .dfin _ :: _, _, _, h => by simp [cstsAre] at h
/-- the arguments in three parts -/
theorem ckEks_split : ∀ (es : List E) (xs : List Expr) (ks : List Keyword), ckEks tx sc es xs ks = true → ∃ a b c, es = a ++ b ++ c ∧ a.length = xs.length ∧ b.length = ks.length ∧ c = es.drop (xs.length + ks.length)
  | es, [], [], _ => ⟨[], [], es, by simp, rfl, rfl, by simp⟩
  | [], x :: xs, ks, h => by simp [ckEks] at h
  | [], [], k :: ks, h => by simp [ckEks] at h
  | e :: es, x :: xs, ks, h => by
    simp only [ckEks, Bool.and_eq_true] at h
    obtain ⟨a, b, c, h1, h2, h3, h4⟩ := ckEks_split es xs ks h.2
    refine ⟨e :: a, b, c, by rw [h1]; rfl, by simp [h2], h3, ?_⟩
    rw [h4]
    simp [Nat.add_right_comm]
  | e :: es, [], k :: ks, h => by
    simp only [ckEks, Bool.and_eq_true] at h
    obtain ⟨a, b, c, h1, h2, h3, h4⟩ := ckEks_split es [] ks h.2
    have ea : a = [] := List.length_eq_zero_iff.mp h2
    subst ea
    refine ⟨[], e :: b, c, by rw [h1]; rfl, rfl, by simp [h3], ?_⟩
    rw [h4]
    simp [Nat.add_comm]
theorem kw_all {pos : Pos} {env : Env} : ∀ {ks : List Keyword} {ns : List Str}, ks.map (·.arg) = ns.map some →
    (backToKw pos (keywordEach ks env)).all (·.1.isSome) = true ∧ (backToKw pos (keywordEach ks env)).filterMap (·.1) = ns ∧ (backToKw pos (keywordEach ks env)).any (·.1.isNone) = false
  | [], [], _ => ⟨rfl, rfl, rfl⟩
  | [], n :: ns, h => by simp at h
  | k :: ks, [], h => by simp at h
  | ⟨a, v, p⟩ :: ks, n :: ns, h => by
    simp only [List.map_cons, List.cons.injEq] at h
    obtain ⟨rfl, h⟩ := h
    obtain ⟨h1, h2, h3⟩ := kw_all (pos := pos) (env := env) h
    refine ⟨?_, ?_, ?_⟩
    · show (true && (backToKw pos (keywordEach ks env)).all (·.1.isSome)) = true
      rw [h1]; rfl
    · show n :: (backToKw pos (keywordEach ks env)).filterMap (·.1) = n :: ns
      rw [h2]
    · show (false || (backToKw pos (keywordEach ks env)).any (·.1.isNone)) = false
      rw [h3]; rfl
theorem Reps.getD {ds : List D} {vs : List V} (rs : Reps K g ds vs) {i : Nat} (h : i < ds.length) : Rep K g (ds.getD i .non) (vs.getD i .non) := by
  have e : ds[i]? = some ds[i] := List.getElem?_eq_getElem h
  obtain ⟨v, e1, q⟩ := rs.get e
  rw [List.getD_eq_getElem?_getD, List.getD_eq_getElem?_getD, e, e1]
  exact q
theorem Vals.getD {vs : List V} {us : List Value} (r : Vals vs us) {i : Nat} (h : i < vs.length) : RelV (vs.getD i .non) (us.getD i .none) := by
  have e : vs[i]? = some vs[i] := List.getElem?_eq_getElem h
  obtain ⟨u, e1, q⟩ := L2.Vals.get r e
  rw [List.getD_eq_getElem?_getD, List.getD_eq_getElem?_getD, e, e1]
  exact q
theorem reps_perm {ds : List D} {vs : List V} (rs : Reps K g ds vs) : ∀ {perm : List Nat}, (∀ i ∈ perm, i < ds.length) → Reps K g (perm.map fun i => ds.getD i .non) (perm.map fun i => vs.getD i .non)
  | [], _ => Reps.nil
  | i :: p, h => Reps.cons (rs.getD (h i List.mem_cons_self)) (reps_perm rs fun j hj => h j (List.mem_cons_of_mem _ hj))
theorem vals_perm {vs : List V} {us : List Value} (r : Vals vs us) : ∀ {perm : List Nat}, (∀ i ∈ perm, i < vs.length) → Vals (perm.map fun i => vs.getD i .non) (perm.map fun i => us.getD i .none)
  | [], _ => .nil
  | i :: p, h => .cons (Vals.getD r (h i List.mem_cons_self)) (vals_perm r fun j hj => h j (List.mem_cons_of_mem _ hj))
/-- f(e, .., k = v, ..) of a def of the text -/
theorem pe_defcall (L : Lk X tx T k) (A : At X tx sc) {f : Nat} {perm : List Nat} {es : List E} {n : Str} {xs : List Expr} {ks : List Keyword} {q p : Pos} {ps : List Str} {sh : Shape}
    (hn : okN n = true) (hg : glB sc n = true) (hf : tx.fns[f]? = some (n, ps)) (hsh : sh ∈ tx.shapes) (hs1 : sh.f = f) (hs2 : sh.np = xs.length) (hs3 : ks.map (·.arg) = sh.ks.map some) (hs4 : sh.perm = perm)
    {a b c : List E} (he : es = a ++ b ++ c) (ha : a.length = xs.length) (hb : b.length = ks.length) (hc : cstsAre c sh.dfs = true)
    (hpl : xs.all plainE = true) (hA : PA X xs (tA X.K (semEs (run T k) a))) (hB : PK X ks (tA X.K (semEs (run T k) b))) :
    PE X (.Call (.Name n q) xs ks p) (tE X.K (semE (run T k) (.call f perm es))) := by
  obtain ⟨fa, fd, hm, hk, F, hnp, hshs⟩ := L.fn f n ps hf
  have S := hshs sh hsh hs1
  obtain ⟨dvs, dus, hdv, hdu, hbind⟩ := S.ex
  have hgl : Gl X n := by
    simp only [glB, decide_eq_true_eq] at hg
    show X.env.scope.names.lookup n = _
    rw [A.hsc]; exact hg
  obtain ⟨kw1, kw2, kw3⟩ := kw_all (pos := p) (env := X.env) hs3
  refine ⟨fun pins s σ H Q I h => ?_⟩
  obtain ⟨g, st, rfl, r, sl, h⟩ := h
  refine wpAny_Call_Name_kw (ld_glob I hgl hm ?_ (okN_d hn))
  have e0 : semE (run T k) (.call f perm es) st = bnd (semEs (run T k) a st) fun x => bnd (semEs (run T k) b st) fun y => run T k f (perm.map fun i => ((x ++ y) ++ sh.dfs).getD i .non) := by
    rw [he]
    simp only [semE]
    funext h0
    simp only [semEs_append, semEs_csts hc, bnd, ret]
    cases semEs (run T k) a st h0 with
    | none => rfl
    | some p1 =>
      obtain ⟨x, h1⟩ := p1
      simp only []
      cases semEs (run T k) b st h1 with
      | none => rfl
      | some p2 => rfl
  have h' : Ok X.K g (semE (run T k) (.call f perm es) st) fun g' d => ∀ v, Rep X.K g' d v → Q v g'.H := h
  rw [e0] at h'
  have h1 := h'.bnd
  -- the end: both parts are there
  have last : ∀ (g2 : G) (x y : List D) (vs zs : List V) (us ws : List Value) (s2 : Shared), Rel X.K g2 → x.length = a.length → y.length = b.length → Reps X.K g2 x vs → Reps X.K g2 y zs → Vals vs us → Vals zs ws → Inv X pins σ g2.H s2 →
      Ok X.K g2 (run T k f (perm.map fun i => ((x ++ y) ++ sh.dfs).getD i .non)) (fun g' d => ∀ v, Rep X.K g' d v → Q v g'.H) →
      wpAny (model X.prog X.w) X.A (call (.ref fa) us (sh.ks.zip ws)) (EP X pins σ Q) X.xe s2 := by
    intro g2 x y vs zs us ws s2 r2 lx ly rx ry vx vy I2 hq
    have lus : us.length = sh.np := by rw [← vx.length, ← rx.length, lx, ha, hs2]
    have lks : ks.length = sh.ks.length := by simpa using congrArg List.length hs3
    have lws : ws.length = sh.ks.length := by rw [← vy.length, ← ry.length, ly, hb, lks]
    have rall : Reps X.K g2 ((x ++ y) ++ sh.dfs) ((vs ++ zs) ++ dvs) := (rx.append ry).append (hdv g2)
    have vall : Vals ((vs ++ zs) ++ dvs) ((us ++ ws) ++ dus) := (vx.append vy).append hdu
    have lt1 : ∀ i ∈ perm, i < ((x ++ y) ++ sh.dfs).length := fun i hi => by
      have q := S.lt i (by rw [hs4]; exact hi)
      rw [List.length_append, List.length_append, lx, ly, ha, hb, ← hs2, lks]
      exact q
    have lt2 : ∀ i ∈ perm, i < ((vs ++ zs) ++ dvs).length := fun i hi => by rw [← rall.length]; exact lt1 i hi
    have rp := reps_perm rall lt1
    have vp := vals_perm vall lt2
    have lps : perm.length = ps.length := by rw [← hs4]; exact S.len
    have bt := hbind s2 us ws I2.kIn lus lws
    rw [hs4] at bt
    have sp : spOf X.K T k f (perm.map fun i => ((vs ++ zs) ++ dvs).getD i .non) g2.H Q E0 := ⟨g2, _, rfl, r2, rp, by rw [List.length_map, lps, hnp], hq⟩
    refine wpAny_call (codeAny_mono (F.run X.A X.stack s2 g2.H ⟨us, sh.ks.zip ws⟩ _ _ Q E0 L.room I2.env0 bt vp sp) fun r' s' hq' => ?_)
    cases r' with
    | error e => exact False.elim hq'
    | ok fl =>
      cases fl with
      | ret u => exact I2.after hq'
      | next => exact False.elim hq'
      | brk => exact False.elim hq'
      | cont => exact False.elim hq'
  have lenA : ∀ {st : St} {h h' : AH} {ds : List D}, semEs (run T k) a st h = some (ds, h') → ds.length = a.length := fun e => semEs_len e
  -- positional part, then keywords
  have kwpart : ∀ (g1 : G) (x : List D) (vs : List V) (us : List Value) (s1 : Shared), Rel X.K g1 → Ext g g1 → x.length = a.length → Reps X.K g1 x vs → Vals vs us → Inv X pins σ g1.H s1 →
      Ok X.K g1 (bnd (semEs (run T k) b st) fun y => run T k f (perm.map fun i => ((x ++ y) ++ sh.dfs).getD i .non)) (fun g' d => ∀ v, Rep X.K g' d v → Q v g'.H) →
      wpAny (model X.prog X.w) X.A (evalAll ((backToKw p (keywordEach ks X.env)).map (·.2))) (fun ws s2 => X.K.In s2.heap ∧ wpAny (model X.prog X.w) X.A (call (.ref fa) us (((backToKw p (keywordEach ks X.env)).filterMap (·.1)).zip ws)) (EP X pins σ Q) X.xe s2) X.xe s1 := by
    intro g1 x vs us s1 r1 x1 lx rx vx I1 hq
    have hq' := hq.bnd
    have ly0 : ∃ y h2, semEs (run T k) b st g1.h = some (y, h2) := by
      obtain ⟨y, h2, e, _⟩ := hq'
      exact ⟨y, h2, e⟩
    obtain ⟨y0, h20, ey0⟩ := ly0
    have ly := semEs_len ey0
    refine thn (hB.run p pins s1 σ g1.H (fun zs H2 => ∃ g2 : G, g2.H = H2 ∧ Rel X.K g2 ∧ Ext g1 g2 ∧ Reps X.K g2 y0 zs ∧ Ok X.K g2 (run T k f (perm.map fun i => ((x ++ y0) ++ sh.dfs).getD i .non)) (fun g' d => ∀ v, Rep X.K g' d v → Q v g'.H)) I1 ?_) ?_
    · refine ⟨g1, st, rfl, r1, sl.ext r x1, ?_⟩
      obtain ⟨y, h2, e, q⟩ := hq'
      have e' := ey0.symm.trans e
      simp only [Option.some.injEq, Prod.mk.injEq] at e'
      obtain ⟨rfl, rfl⟩ := e'
      exact ⟨y0, h20, ey0, fun w' H' r' x' zs hz => ⟨_, rfl, r', x', hz, q w' H' r' x'⟩⟩
    · intro ws s2 ⟨zs, H2, I2, vy, g2, e2, r2, x2, ry, hq2⟩
      subst e2
      rw [kw2]
      exact ⟨I2.kIn, last g2 x y0 vs zs us ws s2 r2 lx ly (Reps.ext r1 x2 x rx) ry vx vy I2 hq2⟩
  cases xs with
  | nil =>
    have ea : a = [] := List.length_eq_zero_iff.mp ha
    subst ea
    have h2 := Ok.ret r h1
    have kk := kwpart g [] [] [] s r (Ext.refl g) rfl Reps.nil .nil I h2
    refine PySem.W.callWith_KW0 (h₀ := X.base) I.ok.mod.kin hk kw1 (thn kk fun ws s2 hh => ?_) (by show (false || _) = false; rw [kw3]; rfl)
    exact hh
  | cons e0' xs' =>
    have hp0 : plainE e0' = true := by simp only [List.all_cons, Bool.and_eq_true] at hpl; exact hpl.1
    refine PySem.W.callWith_KW (h₀ := X.base) I.ok.mod.kin hk kw1 ?_ (by rw [plain_back hpl, kw3]; rfl) (star_cons hp0)
    obtain ⟨x0, h10, ex0, qx0⟩ := h1
    have lx := semEs_len ex0
    refine thn (hA.run p pins s σ g.H (fun vs H1 => ∃ g1 : G, g1.H = H1 ∧ Rel X.K g1 ∧ Ext g g1 ∧ Reps X.K g1 x0 vs ∧ Ok X.K g1 (bnd (semEs (run T k) b st) fun y => run T k f (perm.map fun i => ((x0 ++ y) ++ sh.dfs).getD i .non)) (fun g' d => ∀ v, Rep X.K g' d v → Q v g'.H)) I ?_) ?_
    · exact ⟨g, st, rfl, r, sl, x0, h10, ex0, fun w' H' r' x' vs hv => ⟨_, rfl, r', x', hv, qx0 w' H' r' x'⟩⟩
    · intro us s1 ⟨vs, H1, I1, vx, g1, e1, r1, x1, rx, hq1⟩
      subst e1
      exact kwpart g1 x0 vs us s1 r1 x1 lx rx vx I1 hq1
end
end Iv

set_option maxHeartbeats 4000000
/-! Cmp: targets of names, what is walked, the turns of a comprehension. -/
namespace Iv
open PySem L2 PySem.Spec PyProof.Rows
theorem assignEach_cons {e : Expr} {es : List Expr} {env : Env} (h : isStar e = false) : assignEach (e :: es) env = (false, assign e env) :: assignEach es env := by
  cases e <;> first | rfl | simp [isStar] at h
theorem assignEach_len {env : Env} : ∀ {es : List Expr}, (es.all fun e => !isStar e) = true → (assignEach es env).length = es.length ∧ (assignEach es env).findIdx? (·.1) = none
  | [], _ => ⟨rfl, rfl⟩
  | e :: es, h => by
    rw [List.all_cons, Bool.and_eq_true, Bool.not_eq_true'] at h
    rw [assignEach_cons h.1]
    obtain ⟨h1, h2⟩ := assignEach_len (env := env) h.2
    refine ⟨by simp [h1], ?_⟩
    rw [List.findIdx?_cons, if_neg (by simp), h2]
    rfl
theorem locB_ok {sc : Scope} {x : Str} (h : locB sc x = true) : L2.Loc sc x := by
  unfold locB at h
  unfold L2.Loc
  split at h
  · exact .inl (by assumption)
  · exact .inr (by assumption)
  · cases h
theorem PG_imp {X : Cx} {e : Expr} {t t' : TG} (h : PG X e t) (i : ∀ v σ H Q, t' v σ H Q → t v σ H Q) : PG X e t' := ⟨fun pins s σ H v u Q I r q => h.run pins s σ H v u Q I r (i v σ H Q q)⟩
theorem PGs_imp {X : Cx} {es : List Expr} {t t' : TGs} (h : PGs X es t) (i : ∀ v σ H Q, t' v σ H Q → t v σ H Q) : PGs X es t' := ⟨fun pins s σ H v u Q I r q => h.run pins s σ H v u Q I r (i v σ H Q q)⟩
theorem PI_imp {X : Cx} {tg e : Expr} {t t' : TI} (h : PI X tg e t) (i : ∀ σ H R, t' σ H R → t σ H R) : PI X tg e t' := ⟨fun pins s σ H R I q => h.run pins s σ H R I (i σ H R q)⟩
/-! ### names forgotten -/
theorem wipe_get : ∀ (vs : List Nat) (σ : L2.St) (j : Nat), (wipe σ vs)[j]? = if j ∈ vs then (σ[j]?).map (fun _ => none) else σ[j]?
  | [], σ, j => by simp [wipe]
  | v :: vs, σ, j => by
    unfold wipe
    rw [List.getElem?_set, wipe_get vs σ j, wipe_length]
    by_cases h : v = j
    · subst h
      simp only [if_true, List.mem_cons, true_or]
      by_cases hl : v < σ.length
      · simp [hl]
      · simp [hl]
    · rw [if_neg h]
      have : j ∈ v :: vs ↔ j ∈ vs := by simp [Ne.symm h]
      simp only [this]
theorem wipeS_get : ∀ (vs : List Nat) (s : St) (j : Nat), (wipeS s vs)[j]? = if j ∈ vs then (s[j]?).map (fun _ => none) else s[j]?
  | [], σ, j => by simp [wipeS]
  | v :: vs, σ, j => by
    have wl : ∀ (s : St) (vs : List Nat), (wipeS s vs).length = s.length := by
      intro s vs
      induction vs with
      | nil => rfl
      | cons v vs ih => unfold wipeS; rw [List.length_set, ih]
    unfold wipeS
    rw [List.getElem?_set, wipeS_get vs σ j, wl]
    by_cases h : v = j
    · subst h
      simp only [if_true, List.mem_cons, true_or]
      by_cases hl : v < σ.length
      · simp [hl]
      · simp [hl]
    · rw [if_neg h]
      have : j ∈ v :: vs ↔ j ∈ vs := by simp [Ne.symm h]
      simp only [this]
theorem wipeS_len (s : St) : ∀ (vs : List Nat), (wipeS s vs).length = s.length
  | [] => rfl
  | v :: vs => by unfold wipeS; rw [List.length_set, wipeS_len s vs]
theorem wipe_set {σ : L2.St} {vs : List Nat} {i : Nat} {v : Option V} (h : i ∈ vs) : wipe (σ.set i v) vs = wipe σ vs := by
  refine List.ext_getElem? fun j => ?_
  rw [wipe_get, wipe_get]
  by_cases hj : j ∈ vs
  · rw [if_pos hj, if_pos hj, List.getElem?_set]
    split
    · split
      · rename_i e hl
        subst e
        simp [hl]
      · rename_i e hl
        subst e
        simp [hl]
    · rfl
  · rw [if_neg hj, if_neg hj, List.getElem?_set_ne (by rintro rfl; exact hj h)]
theorem wipe_wipe {σ : L2.St} {vs : List Nat} : wipe (wipe σ vs) vs = wipe σ vs := by
  refine List.ext_getElem? fun j => ?_
  rw [wipe_get, wipe_get]
  split
  · simp [Function.comp_def]
  · rfl
section
variable {K : PySem.W.Frag} {g g' : G} [Wd]
theorem Slots.wipe {s : St} {σ : L2.St} (h : Slots K g s σ) (vs : List Nat) : Slots K g (wipeS s vs) (L2.wipe σ vs) := by
  refine ⟨by rw [wipeS_len, wipe_length, h.len], fun i d e => ?_⟩
  rw [wipeS_get] at e
  split at e
  · rename_i hi
    cases z : s[i]? with
    | none => rw [z] at e; cases e
    | some o => rw [z] at e; cases e
  · rename_i hi
    obtain ⟨v, e1, q⟩ := h.get i d e
    exact ⟨v, by rw [wipe_get, if_neg hi]; exact e1, q⟩
/-! ### targets of names -/
mutual
def Pt.slots : Pt → List Nat
  | .nm i => [i]
  | .tup ts => Pt.slotss ts
def Pt.slotss : List Pt → List Nat
  | [] => []
  | t :: ts => Pt.slots t ++ Pt.slotss ts
end
def tP (K : PySem.W.Frag) [Wd] (p : Pt) : TG := fun v σ H Q => ∃ (g : G) (s s' : St) (d : D), g.H = H ∧ Rel K g ∧ Slots K g s σ ∧ Rep K g d v ∧ semP p d s = some s' ∧
  ∀ σ', Slots K g s' σ' → (∀ vs, (∀ i ∈ p.slots, i ∈ vs) → L2.wipe σ' vs = L2.wipe σ vs) → Q σ' g.H
def tPs (K : PySem.W.Frag) [Wd] (p : List Pt) : TGs := fun us σ H Q => ∃ (g : G) (s s' : St) (ds : List D), g.H = H ∧ Rel K g ∧ Slots K g s σ ∧ Reps K g ds us ∧ semPs p ds s = some s' ∧
  ∀ σ', Slots K g s' σ' → (∀ vs, (∀ i ∈ Pt.slotss p, i ∈ vs) → L2.wipe σ' vs = L2.wipe σ vs) → Q σ' g.H
theorem semPs_len : ∀ {ts : List Pt} {ds : List D} {s s' : St}, semPs ts ds s = some s' → ds.length = ts.length
  | [], [], _, _, _ => rfl
  | [], d :: ds, _, _, e => by simp [semPs] at e
  | t :: ts, [], _, _, e => by simp [semPs] at e
  | t :: ts, d :: ds, s, s', e => by
    simp only [semPs, Option.bind_eq_some_iff] at e
    obtain ⟨s1, _, e⟩ := e
    simp [semPs_len e]
end
section
variable {X : Cx} {tx : Tx} {sc scope : Scope} {own : List Nat} {K : PySem.W.Frag} {g : G} [Wd]
mutual
theorem ckP_ok (hc : X.calm = true) (A : At X tx sc) (hfn : ∀ n, scope.names.lookup n = some .cell → X.fn n = true) : ∀ (p : Pt) (x : Expr), ckP tx own scope sc p x = true → PG X x (tP X.K p) ∧ ∀ i ∈ p.slots, i ∈ own
  | .nm i, x, h => by
    simp only [ckP] at h
    split at h
    · rename_i n hn
      obtain ⟨q, rfl⟩ := asName_eq hn
      simp only [Bool.and_eq_true, Bool.or_eq_true, decide_eq_true_eq] at h
      obtain ⟨⟨⟨h1, h2⟩, h3⟩, h4⟩ := h
      have hl : L2.Loc X.env.scope n := by
        rw [A.hsc]
        rcases h4 with h4 | h4
        · exact .inl h4
        · exact locB_ok h4.2
      have hf : X.fn n = true ∨ X.env.scope.names.lookup n = some .local := by
        rcases h4 with h4 | h4
        · exact .inr (by rw [A.hsc]; exact h4)
        · exact .inl (hfn n h4.1)
      refine ⟨PG_imp (pg_name (i := i) A.nd (by rw [A.hn]; exact h1) hl hf) fun v σ H Q q => ?_, fun j hj => ?_⟩
      · obtain ⟨g, s, s', d, rfl, r, sl, hv, e, q⟩ := q
        simp only [semP] at e
        split at e
        · cases e
          refine q _ (sl.set hv) fun vs hvs => wipe_set (hvs i (by simp [Pt.slots]))
        · cases e
      · simp only [Pt.slots, List.mem_singleton] at hj
        subst hj
        simpa using h2
    · cases h
  | .tup ts, x, h => by
    simp only [ckP] at h
    split at h
    · rename_i xs hx
      obtain ⟨k0, q, rfl⟩ := asTuple_eq hx
      obtain ⟨i1, i2, i3⟩ := ckPs_ok hc A hfn ts xs h
      obtain ⟨l1, l2⟩ := assignEach_len (env := X.env) i2
      refine ⟨PG_imp (pg_tup (n := xs.length) hc i1 l1 l2) fun v σ H Q q => ?_, fun j hj => i3.2 j (by simpa [Pt.slots] using hj)⟩
      obtain ⟨g, s, s', d, rfl, r, sl, hv, e, q⟩ := q
      cases d <;> simp only [semP] at e <;> first | (cases e; done) | skip
      rename_i ds
      obtain ⟨a, ys, rfl, hq, rs⟩ := rep_tup.mp hv
      refine ⟨a, ys, rfl, hq, ?_, g, s, s', ds, rfl, r, sl, rs, e, fun σ' sl' hw => q σ' sl' fun vs hvs => hw vs (by simpa [Pt.slots] using hvs)⟩
      rw [← rs.length, ← i3.1]
      exact semPs_len e
    · cases h
theorem ckPs_ok (hc : X.calm = true) (A : At X tx sc) (hfn : ∀ n, scope.names.lookup n = some .cell → X.fn n = true) : ∀ (ps : List Pt) (xs : List Expr), ckPs tx own scope sc ps xs = true → PGs X xs (tPs X.K ps) ∧ (xs.all fun e => !isStar e) = true ∧ ps.length = xs.length ∧ ∀ i ∈ Pt.slotss ps, i ∈ own
  | [], [], _ => ⟨PGs_imp pgs_nil fun vs σ H Q q => by
      obtain ⟨g, s, s', ds, rfl, r, sl, rs, e, q⟩ := q
      cases ds with
      | nil =>
        simp only [Reps] at rs
        simp only [semPs, Option.some.injEq] at e
        subst e
        exact ⟨rs, q σ sl fun _ _ => rfl⟩
      | cons d ds => simp [semPs] at e, rfl, rfl, fun i hi => by simp [Pt.slotss] at hi⟩
  | [], x :: xs, h => by simp [ckPs] at h
  | t :: ts, [], h => by simp [ckPs] at h
  | t :: ts, x :: xs, h => by
    simp only [ckPs, Bool.and_eq_true, Bool.not_eq_true'] at h
    obtain ⟨i1, i2, i3, i4⟩ := ckPs_ok hc A hfn ts xs h.2
    obtain ⟨j1, j2⟩ := ckP_ok hc A hfn t x h.1.1
    refine ⟨PGs_imp (pgs_cons j1 i1 (by rw [assignEach_cons h.1.2]; rfl)) fun vs σ H Q q => ?_, by rw [List.all_cons, h.1.2, i2]; rfl, by simp [i3], fun i hi => ?_⟩
    · obtain ⟨g, s, s', ds, rfl, r, sl, rs, e, q⟩ := q
      cases ds with
      | nil => simp [semPs] at e
      | cons d ds =>
        simp only [semPs, Option.bind_eq_some_iff] at e
        obtain ⟨s1, e1, e2⟩ := e
        simp only [Reps] at rs
        obtain ⟨y, ys, rfl, hd, rs⟩ := rs
        refine ⟨y, ys, rfl, g, s, s1, d, rfl, r, sl, hd, e1, fun σ1 sl1 hw1 => ⟨g, s1, s', ds, rfl, r, sl1, rs, e2, fun σ2 sl2 hw2 => q σ2 sl2 fun vs hvs => ?_⟩⟩
        rw [hw2 vs fun i hi => hvs i (by simp [Pt.slotss, hi]), hw1 vs fun i hi => hvs i (by simp [Pt.slotss, hi])]
    · simp only [Pt.slotss, List.mem_append] at hi
      exact hi.elim (j2 i) (i4 i)
end
end
/-! ### what is walked -/
section
variable (K : PySem.W.Frag) [Wd]
def Stands (p : List D × Option Nat) (h : AH) : Prop := match p.2 with
  | none => True
  | some n => h[n]? = some (.lst p.1)
/-- the iterator gives just these items -/
def ItOk (g : G) (p : List D × Option Nat) (J : L2.It) : Prop := ∀ g', Rel K g' → Ext g g' → Stands p g'.h → ∀ i,
  (∀ d, p.1[i]? = some d → J.go i g'.H ∧ ∀ x H', J.yld i g'.H x H' → ∃ w', Rel K ⟨w', g'.h, H'⟩ ∧ Ext g' ⟨w', g'.h, H'⟩ ∧ Rep K ⟨w', g'.h, H'⟩ d x) ∧
  (p.1.length = i → J.stop i g'.H)
def tI (m : St → M (List D × Option Nat)) : TI := fun σ H R => ∃ (g : G) (s : St), g.H = H ∧ Rel K g ∧ Slots K g s σ ∧ Ok K g (m s) fun g' p => Stands p g'.h ∧ ∀ J, ItOk K g' p J → R J g'.H
end
section
variable {K : PySem.W.Frag} {g g' : G} {s : St} {σ : L2.St} [Wd]
theorem stands_ok {p : List D × Option Nat} {h h' : AH} {u : Unit} (e1 : stands p.1 p.2 h = some (u, h')) : h' = h ∧ Stands p h := by
  unfold stands at e1
  have hp' : p.2 = none ∨ ∃ n, p.2 = some n := by cases p.2 <;> simp
  rcases hp' with hp | ⟨n, hp⟩
  · rw [hp] at e1
    simp only [Option.some.injEq, Prod.mk.injEq] at e1
    obtain ⟨_, rfl⟩ := e1
    exact ⟨rfl, by unfold Stands; rw [hp]; trivial⟩
  · rw [hp] at e1
    dsimp only at e1
    split at e1
    · rename_i es hes
      split at e1
      · rename_i hbq
        simp only [Option.some.injEq, Prod.mk.injEq] at e1
        obtain ⟨_, rfl⟩ := e1
        exact ⟨rfl, by unfold Stands; rw [hp]; rw [← D.beqs_eq hbq]; exact hes⟩
      · cases e1
    · cases e1
/-! ### a list that only we know changes -/
mutual
theorem Rep.updT {p : Addr} {ob o : HO} (hp : g.H p = some ob) (ht : g.w.T p) (hO : isO ob = true) : ∀ (d : D) {v : V}, Rep K g d v → Rep K ⟨g.w, g.h, upd g.H p o⟩ d v
  | .non, _, q => by simpa only [Rep] using q
  | .bl _, _, q => by simpa only [Rep] using q
  | .int _, _, q => by simpa only [Rep] using q
  | .str _, _, q => by simpa only [Rep] using q
  | .tup ds, _, q => by
    simp only [Rep] at q ⊢
    obtain ⟨a, xs, e, q, rs⟩ := q
    refine ⟨a, xs, e, ?_, Reps.updT hp ht hO ds rs⟩
    rcases q with (q | ⟨u, q⟩) | q
    · exact .inl (.inl (by
        show upd g.H p o a = _
        rw [upd_ne (by rintro rfl; rw [hp] at q; cases q; cases hO)]; exact q))
    · exact .inl (.inr ⟨u, by
        show upd g.H p o a = _
        rw [upd_ne (by rintro rfl; rw [hp] at q; cases q; cases hO)]; exact q⟩)
    · exact .inr q
  | .lst ds, _, q => by
    simp only [Rep] at q ⊢
    obtain ⟨a, xs, e, q, rs⟩ := q
    refine ⟨a, xs, e, ?_, Reps.updT hp ht hO ds rs⟩
    rcases q with ⟨q, t⟩ | q
    · have ne : a ≠ p := by rintro rfl; exact t ht
      refine .inl ⟨?_, t⟩
      rcases q with q | ⟨u, q⟩
      · exact .inl (by show upd g.H p o a = _; rw [upd_ne ne]; exact q)
      · exact .inr ⟨u, by show upd g.H p o a = _; rw [upd_ne ne]; exact q⟩
    · exact .inr q
  | .dct t ks vs, _, q => by
    simp only [Rep] at q ⊢
    obtain ⟨a, kxs, ys, e, q, t', rk, rs⟩ := q
    have ne : a ≠ p := by rintro rfl; exact t' ht
    exact ⟨a, kxs, ys, e, q.at fun u z => by show upd g.H p o a = _; rw [upd_ne ne]; exact z, t', Reps.updT hp ht hO ks rk, Reps.updT hp ht hO vs rs⟩
  | .ref n, _, q => by simpa only [Rep] using q
theorem Reps.updT {p : Addr} {ob o : HO} (hp : g.H p = some ob) (ht : g.w.T p) (hO : isO ob = true) : ∀ (ds : List D) {vs : List V}, Reps K g ds vs → Reps K ⟨g.w, g.h, upd g.H p o⟩ ds vs
  | [], _, q => by simpa only [Reps] using q
  | d :: ds, _, q => by
    simp only [Reps] at q ⊢
    obtain ⟨y, ys, e, q, rs⟩ := q
    exact ⟨y, ys, e, Rep.updT hp ht hO d q, Reps.updT hp ht hO ds rs⟩
end
theorem Rel.updT (r : Rel K g) {p : Addr} {ob o : HO} (hp : g.H p = some ob) (ht : g.w.T p) (hO : isO ob = true) (hi : ¬ Img g p) : Rel K ⟨g.w, g.h, upd g.H p o⟩ := by
  refine ⟨fun a i => r.img a i, r.inj, fun n u h => ?_, fun a h => ?_⟩
  · refine (r.obj n u h).carry rfl (fun ho e _ => ?_) (fun b a e => ?_) fun ds xs _ q => Reps.updT hp ht hO ds q
    · show upd g.H p o (g.w.ι n) = some ho
      rw [upd_ne (fun z => hi (by rw [← z]; exact ⟨n, _, h, rfl⟩))]
      exact e
    · show upd g.H p o b = some (.own a)
      rw [upd_ne (by rintro rfl; rw [hp] at e; cases e; cases hO)]
      exact e
  · obtain ⟨u, e⟩ := r.dom a h
    by_cases z : a = p
    · subst z
      exact ⟨o, upd_same⟩
    · exact ⟨u, by show upd g.H p o a = some u; rw [upd_ne z]; exact e⟩
theorem Slots.updT {p : Addr} {ob o : HO} (hp : g.H p = some ob) (ht : g.w.T p) (hO : isO ob = true) (h : Slots K g s σ) : Slots K ⟨g.w, g.h, upd g.H p o⟩ s σ :=
  ⟨h.len, fun i d e => let ⟨v, e1, q⟩ := h.get i d e; ⟨v, e1, Rep.updT hp ht hO d q⟩⟩
/-- seen from before it was laid -/
theorem Ext.updN (x : Ext g g') {p : Addr} {o : HO} (hn : g.H p = none) : Ext g ⟨g'.w, g'.h, upd g'.H p o⟩ := by
  refine ⟨x.len, x.ids, fun a u e ni => ?_, fun a u e => ?_, x.tnew, x.told, x.inew⟩
  · show upd g'.H p o a = some u
    rw [upd_ne (ne_of_none e hn)]
    exact x.keep a u e ni
  · obtain ⟨u', e'⟩ := x.there a u e
    exact ⟨u', by show upd g'.H p o a = some u'; rw [upd_ne (ne_of_none e hn)]; exact e'⟩
/-- our mark taken off again -/
theorem unmark {p : Addr} {g0 : G} (r0 : Rel K g0) (r : Rel K g) (hi : ¬ Img g p) (ht : g.w.T p) (x : Ext g0 g) (hn : g0.H p = none) :
    ∃ w', Rel K ⟨w', g.h, g.H⟩ ∧ Ext g0 ⟨w', g.h, g.H⟩ ∧ ¬ w'.T p ∧ G.mark ⟨w', g.h, g.H⟩ p = g ∧ Rel K (G.mark ⟨w', g.h, g.H⟩ p) := by
  let w' : W := ⟨g.w.ι, fun b => g.w.T b ∧ b ≠ p⟩
  have em : G.mark ⟨w', g.h, g.H⟩ p = g := by
    have eT : (fun b => (g.w.T b ∧ b ≠ p) ∨ b = p) = g.w.T := by
      funext b
      refine propext ⟨fun h => ?_, fun h => ?_⟩
      · rcases h with h | rfl
        · exact h.1
        · exact ht
      · by_cases z : b = p
        · exact .inr z
        · exact .inl ⟨h, z⟩
    show (⟨⟨g.w.ι, fun b => (g.w.T b ∧ b ≠ p) ∨ b = p⟩, g.h, g.H⟩ : G) = g
    rw [eT]
  refine ⟨w', ⟨fun a i => ⟨r.img a i, fun z => hi (by rw [← z]; exact i)⟩, r.inj, fun n u h => ?_, fun a h => r.dom a h.1⟩, ⟨x.len, x.ids, x.keep, x.there, fun a h => x.tnew a h.1, fun a h => ⟨x.told a h, fun z => ?_⟩, x.inew⟩, fun h => h.2 rfl, em, by rw [em]; exact r⟩
  · exact (r.obj n u h).carry rfl (fun ho e _ => e) (fun b a e => e) fun ds xs _ q => Reps.weak (w := g.w) (w' := w') (h := g.h) (H := g.H) rfl (fun b hb => hb.1) ds q
  · subst z
    obtain ⟨o, e⟩ := r0.dom a h
    rw [hn] at e
    cases e
/-- where a comprehension's turn stands: g the heap with our list LA in it -/
structure LcAt (K : PySem.W.Frag) [Wd] (g0 : G) (p : List D × Option Nat) (LA : Addr) (s : St) (σ : L2.St) (m : List D → M (List D)) (P : G → List D → Prop) (i : Nat) (H : Hp) (g : G) (ds : List D) (acc : List V) : Prop where
  eH : g.H = H
  rel : Rel K g
  ext : Ext g0 g
  tD : g.w.T LA
  nI : ¬ Img g LA
  hD : g.H LA = some (.lst acc)
  reps : Reps K g ds acc
  st : Stands p g.h
  sl : Slots K g s σ
  go : ∃ r h', m (p.1.drop i) g.h = some (r, h') ∧ ds.length + r.length ≤ sizeMax ∧ ∀ w' H', Rel K ⟨w', h', H'⟩ → Ext g0 ⟨w', h', H'⟩ → P ⟨w', h', H'⟩ (ds ++ r)
theorem LcAt.upd {g0 : G} {p : List D × Option Nat} {LA : Addr} {m : List D → M (List D)} {P : G → List D → Prop} {i : Nat} {ds : List D} {acc : List V} {d : D} {v : V}
    (rel : Rel K g) (ext : Ext g0 g) (tD : g.w.T LA) (nI : ¬ Img g LA) (hD : g.H LA = some (.lst acc)) (reps : Reps K g ds acc) (st : Stands p g.h) (sl : Slots K g s σ) (hn : g0.H LA = none) (hv : Rep K g d v)
    (go : ∃ r h', m (p.1.drop i) g.h = some (r, h') ∧ (ds ++ [d]).length + r.length ≤ sizeMax ∧ ∀ w' H', Rel K ⟨w', h', H'⟩ → Ext g0 ⟨w', h', H'⟩ → P ⟨w', h', H'⟩ ((ds ++ [d]) ++ r)) :
    LcAt K g0 p LA s σ m P i (upd g.H LA (.lst (acc ++ [v]))) ⟨g.w, g.h, upd g.H LA (.lst (acc ++ [v]))⟩ (ds ++ [d]) (acc ++ [v]) :=
  ⟨rfl, rel.updT hD tD rfl nI, ext.updN hn, tD, nI, upd_same, Reps.append (Reps.updT hD tD rfl ds reps) (Reps.cons (Rep.updT hD tD rfl d hv) Reps.nil), st, sl.updT hD tD rfl, go⟩
end
theorem tail_split {α : Type} {all : List D} {g : Option Nat} {body : D → M (Option D)} {d : D} {ds : List D} {h h' : AH} {r : List D} (e : compL all g body (d :: ds) h = some (r, h')) :
    ∃ o h1 r', body d h = some (o, h1) ∧ stands all g h1 = some ((), h1) ∧ compL all g body ds h1 = some (r', h') ∧ r = o.toList ++ r' := by
  simp only [compL, bnd] at e
  split at e
  · rename_i o h1 e1
    split at e
    · rename_i u h2 e2
      split at e
      · rename_i r' h3 e3
        simp only [ret, Option.some.injEq, Prod.mk.injEq] at e
        obtain ⟨rfl, rfl⟩ := e
        have : h2 = h1 := by
          unfold stands at e2
          split at e2
          · simp only [Option.some.injEq, Prod.mk.injEq] at e2
            exact e2.2.symm
          · split at e2
            · split at e2
              · simp only [Option.some.injEq, Prod.mk.injEq] at e2
                exact e2.2.symm
              · cases e2
            · cases e2
        subst this
        exact ⟨o, h2, r', e1, e2, e3, rfl⟩
      · cases e
    · cases e
  · cases e
section
variable {K : PySem.W.Frag} {g : G} {s : St} {σ : L2.St} [Wd]
/-- the turns of a comprehension -/
theorem comp_ok {C : Cal} {p : Pt} {own : List Nat} {ifs : List E} {elt : E} {g0 : G} {w : List D × Option Nat} {J : L2.It} (hJ : ItOk K g0 w J) (r0 : Rel K g0) (sl0 : Slots K g0 s σ) (st0 : Stands w g0.h)
    {LA : Addr} (hD : g0.H LA = none) (hp : ∀ i ∈ p.slots, i ∈ own) {tt : TT} {te : TE}
    (ht : ∀ σ H Q, (∃ (g : G) (s : St), g.H = H ∧ Rel K g ∧ Slots K g s σ ∧ Ok K g (semIfs C ifs s) fun g' b => Q b g'.H) → tt σ H Q) (he : ∀ σ H Q, tE K (semE C elt) σ H Q → te σ H Q) {Q : VK}
    (h : Ok K g0 (bnd (compL w.1 w.2 (fun d => bnd (opt (semP p d (wipeS s own))) fun s2 => bnd (semIfs C ifs s2) fun k => if k = true then bnd (semE C elt s2) fun y => ret (some y) else ret none) w.1) fun r => if r.length ≤ sizeMax then ret r else bad)
      fun g' ds => ∀ a xs, g0.H a = none → ¬ g'.w.T a → g'.H a = some (.lst xs) → Rel K (g'.mark a) → Reps K (g'.mark a) ds xs → Q (.ref a) g'.H) :
    ∃ W : Nat → Nat → Hp → Prop, (∃ m, W 0 m (upd g0.H LA (.lst []))) ∧ ∀ i m H, W i m H →
      (J.stop i H ∧ Q (.ref LA) H) ∨ (J.go i H ∧ ∃ Nx : Hp → Prop, (∀ H', Nx H' → ∃ m', m' < m ∧ W (i + 1) m' H') ∧ ∀ x H', J.yld i H x H' → tP K p x (L2.wipe σ own) H' fun σ2 H2 => L2.wipe σ2 own = L2.wipe σ own ∧ tt σ2 H2 fun b H3 =>
        if b = true then te σ2 H3 fun y H4 => ∃ acc, H4 LA = some (.lst acc) ∧ acc.length < sizeLine ∧ Nx (upd H4 LA (.lst (acc ++ [y]))) else Nx H3) := by
  generalize hm : (fun d => bnd (opt (semP p d (wipeS s own))) fun s2 => bnd (semIfs C ifs s2) fun k => if k = true then bnd (semE C elt s2) fun y => ret (some y) else ret none : D → M (Option D)) = body at h
  generalize hP : (fun (g' : G) (ds : List D) => ∀ a xs, g0.H a = none → ¬ g'.w.T a → g'.H a = some (.lst xs) → Rel K (g'.mark a) → Reps K (g'.mark a) ds xs → Q (.ref a) g'.H) = P at h
  refine ⟨fun i m H => m = w.1.length - i ∧ i ≤ w.1.length ∧ ∃ g ds acc, LcAt K g0 w LA s σ (compL w.1 w.2 body) P i H g ds acc, ⟨w.1.length, by simp, Nat.zero_le _, ?_⟩, ?_⟩
  · obtain ⟨x, r⟩ := Ext.layT (o := .lst []) r0 hD
    refine ⟨G.mark ⟨g0.w, g0.h, upd g0.H LA (.lst [])⟩ LA, [], [], ⟨rfl, r, x, .inr rfl, fun i => ?_, upd_same, Reps.nil, st0, sl0.ext r0 x, ?_⟩⟩
    · have i' : Img g0 LA := i
      obtain ⟨o, e⟩ := r0.dom LA (r0.img LA i')
      rw [hD] at e; cases e
    · obtain ⟨a, h', e, fin⟩ := h
      simp only [bnd] at e
      split at e
      · rename_i r1 h1 e1
        split at e
        · rename_i hz
          cases e
          exact ⟨a, h', (by rw [List.drop_zero]; exact e1), by simpa using hz, fun w' H' r' x' => by simpa using fin w' H' r' x'⟩
        · cases e
      · cases e
  · rintro i m H ⟨rfl, hi, g, ds, acc, L⟩
    obtain ⟨j1, j2⟩ := hJ g L.rel L.ext L.st i
    by_cases hlt : i < w.1.length
    · have ed : w.1[i]? = some w.1[i] := List.getElem?_eq_getElem hlt
      obtain ⟨go, yl⟩ := j1 _ ed
      obtain ⟨r, h', e, hz, fin⟩ := L.go
      rw [List.drop_eq_getElem_cons hlt] at e
      obtain ⟨o, h1, r', e1, e2, e3, rfl⟩ := tail_split (α := Unit) e
      have hst := (stands_ok (p := w) e2).2
      refine .inr ⟨by rw [← L.eH]; exact go, fun H' => ∃ g ds acc, LcAt K g0 w LA s σ (compL w.1 w.2 body) P (i + 1) H' g ds acc, fun H' q => ⟨w.1.length - (i + 1), by omega, rfl, hlt, q⟩, fun x H' hy => ?_⟩
      rw [← L.eH] at hy
      obtain ⟨w', rel', x', hd⟩ := yl x H' hy
      have sl' := (L.sl.ext L.rel x').wipe own
      rw [← hm] at e1
      simp only [bnd, opt] at e1
      split at e1
      · rename_i s2 ha eo
        have es : semP p w.1[i] (wipeS s own) = some s2 ∧ ha = g.h := by
          cases z : semP p w.1[i] (wipeS s own) with
          | none => rw [z] at eo; cases eo
          | some q =>
            rw [z] at eo
            simp only [Option.some.injEq, Prod.mk.injEq] at eo
            exact ⟨by rw [eo.1], eo.2.symm⟩
        obtain ⟨es, rfl⟩ := es
        refine ⟨⟨w', g.h, H'⟩, wipeS s own, s2, w.1[i], rfl, rel', sl', hd, es, fun σ2 sl2 hw => ⟨?_, ?_⟩⟩
        · rw [hw own hp, wipe_wipe]
        · have D1 := x'.keep LA _ L.hD L.nI
          have nI1 : ∀ {g2 : G}, Ext ⟨w', g.h, H'⟩ g2 → ¬ Img g2 LA := fun {g2} x2 i2 => by
            rcases x2.inew LA i2 with i2 | i2
            · rcases x'.inew LA i2 with i2 | i2
              · exact L.nI i2
              · rw [L.hD] at i2; cases i2
            · have : H' LA = none := i2
              rw [show H' LA = some (.lst acc) from D1] at this; cases this
          split at e1
          · rename_i k hb eb
            refine ht _ _ _ ⟨⟨w', g.h, H'⟩, s2, rfl, rel', sl2, k, hb, eb, fun w3 H3 r3 x3 => ?_⟩
            have keepD : ∀ {g2 : G}, Ext ⟨w', g.h, H'⟩ g2 → g2.H LA = some (.lst acc) := fun {g2} x2 => x2.keep LA _ D1 (nI1 (Ext.refl _))
            cases k with
            | false =>
              simp only [Bool.false_eq_true, if_false, ret, Option.some.injEq, Prod.mk.injEq] at e1 ⊢
              obtain ⟨rfl, rfl⟩ := e1
              exact ⟨⟨w3, hb, H3⟩, ds, acc, ⟨rfl, r3, (L.ext.trans x').trans x3, x3.told LA (x'.told LA L.tD), nI1 x3, keepD x3, Reps.ext rel' x3 ds (Reps.ext L.rel x' ds L.reps), hst, (L.sl.ext L.rel x').ext rel' x3, r', h', e3, by simpa using hz, fun w' H' r x => by simpa using fin w' H' r x⟩⟩
            | true =>
              simp only [if_true] at e1 ⊢
              unfold Iv.bnd at e1
              split at e1
              · rename_i y hc ec
                simp only [ret, Option.some.injEq, Prod.mk.injEq] at e1
                obtain ⟨rfl, rfl⟩ := e1
                refine he _ _ _ ⟨⟨w3, hb, H3⟩, s2, rfl, r3, sl2.ext rel' x3, y, hc, ec, fun w4 H4 r4 x4 v hv => ?_⟩
                have x34 := x3.trans x4
                have hrs : Reps K ⟨w4, hc, H4⟩ ds acc := Reps.ext r3 x4 ds (Reps.ext rel' x3 ds (Reps.ext L.rel x' ds L.reps))
                refine ⟨acc, keepD x34, ?_, ⟨w4, hc, upd H4 LA (.lst (acc ++ [v]))⟩, ds ++ [y], acc ++ [v], ?_⟩
                · rw [sizeMax_eq, ← hrs.length]
                  simp only [Option.toList, List.length_append, List.length_cons, List.length_nil] at hz
                  omega
                · refine LcAt.upd (g := ⟨w4, hc, H4⟩) r4 ((L.ext.trans x').trans x34) (x34.told LA (x'.told LA L.tD)) (nI1 x34) (keepD x34) hrs hst (((L.sl.ext L.rel x').ext rel' x3).ext r3 x4) hD hv ⟨r', h', e3, ?_, fun w' H' r x => ?_⟩
                  · simp only [Option.toList, List.length_append, List.length_cons, List.length_nil] at hz ⊢
                    omega
                  · rw [List.append_assoc]
                    exact fin w' H' r x
              · cases e1
          · cases e1
      · cases e1
    · refine .inl ⟨by rw [← L.eH]; exact j2 (by omega), ?_⟩
      obtain ⟨r, h', e, hz, fin⟩ := L.go
      rw [List.drop_eq_nil_of_le (by omega)] at e
      simp only [compL, ret, Option.some.injEq, Prod.mk.injEq] at e
      obtain ⟨rfl, rfl⟩ := e
      obtain ⟨w', r1, x1, nt, em, rm⟩ := unmark r0 L.rel L.nI L.tD L.ext hD
      have f := fin w' g.H r1 x1
      rw [List.append_nil, ← hP] at f
      have f2 := f LA acc hD nt L.hD rm (by rw [em]; exact L.reps)
      rw [← L.eH]
      exact f2
end
end Iv

set_option maxHeartbeats 4000000
/-! SndM: every expression that the checker takes. -/
namespace Iv
open PySem L2 PySem.Spec PyProof.Rows
/-- d.get(e), d a module's dict -/
theorem pe_kget {X : Cx} {a : Addr} {o e : Expr} {apos cpos : Pos} {ty : TE} (hsys : (a == sysModules) = false) {es : Array DictEntry} {n : Nat} (hl : X.K.lookup a = some ⟨.type "dict", none, .dict es n, #[]⟩) (hk : PySem.W.KeysLit X.w.params es.toList)
    (ho : PE X o (tC (.ref a))) (he : PE X e ty) (m : M1 X o "get" apos e cpos) : PE X (.Call (.Attribute o "get" apos) [e] [] cpos) (fun σ H Q => ty σ H fun y H2 => ∃ z v, y = .str z ∧ KDct X.K X.w a z v ∧ Q v H2) := by
  refine ⟨fun pins s σ H Q I h => ?_⟩
  have ho' : tC (.ref a) σ H (fun x H1 => x = .ref a ∧ ty σ H1 fun y H2 => ∃ z v, y = .str z ∧ KDct X.K X.w a z v ∧ Q v H2) := ⟨rfl, h⟩
  have hh := ho.run pins s σ H _ I ho'
  refine wpAny_Call_method m.base m.few m.line PySem.F.plainAttrs_dict PySem.F.slot_dict_get PySem.F.type_dict_get (thn hh fun u s1 ⟨x, H1, I1, rx, ex, q1⟩ => ?_)
  subst ex
  obtain rfl : u = Value.ref a := rx
  refine ⟨(PySem.W.mapOf_K (prog := X.prog) (w := X.w) I1.kIn hl hk).typeIs, fun b q => ?_, ?_⟩
  · cases q
    exact ⟨_, I1.kIn a _ hl, rfl⟩
  · rw [m.trees]
    refine Calls.callWith_builtin rfl (Calls.evalArgs_plain (Calls.spliced_cons (thn (he.run pins s1 σ H1 _ I1 q1) fun iv s2 ⟨y, H2, I2, ry, z, v, ey, ⟨es', n', u, hl', hk', e1, ru⟩, q2⟩ => Calls.spliced_nil ?_)))
    subst ey
    obtain ⟨t, rfl⟩ := ry
    have hm := PySem.W.mapOf_K (prog := X.prog) (w := X.w) I2.kIn hl' hk'
    refine call_meetsIn PySem.F.slot_dict_get hm.typeIs PySem.F.entry_dict_get (PySem.F.args_dict_get_2 _ _) (meets_dict_get (strKind X.prog X.w) a (strKind_is X.prog X.w z t) hsys) ⟨_, hm, ?_⟩
    refine ⟨v, H2, I2.tok _, ?_, q2⟩
    rw [PySem.W.find_K hl' e1]
    exact ru
def semB (C : Cal) (e : E) (s : St) : M Bool := bnd (semE C e s) fun d => opt (tBl d)
section
variable {X : Cx} {tx : Tx} {sc : Scope} {T : List Fn} {k : Nat} [Wd]
/-- what is shown of an expression: its value; its test; its test within and, or -/
structure EOk (X : Cx) (T : List Fn) (k : Nat) (e : E) (x : Expr) : Prop where
  val : PE X x (tE X.K (semE (run T k) e))
  tst : tstB e = true → PT X x (tT X.K (semB (run T k) e))
  bl : tstB e = true → (∃ o l p, x = .BoolOp o l p) → PW X x (tT X.K (semB (run T k) e))
theorem tst_of {e : E} {x : Expr} (h : PE X x (tE X.K (semE (run T k) e))) (hp : plainT x = true) : PT X x (tT X.K (semB (run T k) e)) := by
  refine PT_imp (pt_val h (isTrue_ok hp)) fun σ H Q q => ?_
  obtain ⟨g, s, rfl, r, sl, q⟩ := q
  refine tE_use r sl q.bnd fun g' d v r' x' p hv => ?_
  obtain ⟨b, e1, p⟩ := p.opt
  cases d <;> simp only [tBl] at e1 <;> first | (cases e1; done) | skip
  cases e1
  exact ⟨_, rep_bl.mp hv, Ok.ret r' p⟩
theorem EOk.plain {e : E} {x : Expr} (h : PE X x (tE X.K (semE (run T k) e))) (hp : plainT x = true) (hb : ¬ ∃ o l p, x = .BoolOp o l p) : EOk X T k e x :=
  ⟨h, fun _ => tst_of h hp, fun _ q => absurd q hb⟩
theorem vis_at (A : At X tx sc) {n : Str} (h : visB sc n = true) : Vis X.env.scope n := by rw [A.hsc]; exact visB_ok h
theorem gl_at (A : At X tx sc) {n : Str} (h : glB sc n = true) : Gl X n := by
  simp only [glB, decide_eq_true_eq] at h
  show X.env.scope.names.lookup n = _
  rw [A.hsc]; exact h
/-- and, or: the value, the test, from both parts -/
theorem and_ok {a b : E} {l r x : Expr} (hx : asBool x = some (.And, l, r)) (ha : EOk X T k a l) (hb : EOk X T k b r) : EOk X T k (.and a b) x := by
  have val0 : ∀ {σ : L2.St} {H : Hp} {Q : VK}, tE X.K (semE (run T k) (.and a b)) σ H Q → tAndV (tE X.K (semE (run T k) a)) (tE X.K (semE (run T k) b)) σ H Q := by
    intro σ H Q q
    obtain ⟨g, s, rfl, r0, sl, q⟩ := q
    refine tE_use r0 sl q.bnd fun g' d v r' x' p hv => ?_
    obtain ⟨c, e1, p2⟩ := p.optb
    cases d <;> simp only [tBl] at e1 <;> first | (cases e1; done) | skip
    cases e1
    rw [rep_bl.mp hv]
    refine ⟨_, rfl, ?_⟩
    split
    · rename_i hc
      rw [if_pos hc] at p2
      exact ⟨g', s, rfl, r', sl.ext r0 x', p2⟩
    · rename_i hc
      rw [if_neg hc] at p2
      exact Ok.ret r' p2 _ (rep_bl.mpr rfl)
  have tst0 : ∀ {σ : L2.St} {H : Hp} {Q : Bool → Hp → Prop}, tT X.K (semB (run T k) (.and a b)) σ H Q → tAnd (tT X.K (semB (run T k) a)) (tT X.K (semB (run T k) b)) σ H Q := by
    intro σ H Q q
    obtain ⟨g, s, rfl, r0, sl, q⟩ := q
    have e0 : semB (run T k) (.and a b) s = bnd (semB (run T k) a s) fun c => if c = true then semB (run T k) b s else ret false := by
      funext h0
      simp only [semB, semE, bnd, opt]
      cases semE (run T k) a s h0 with
      | none => rfl
      | some p =>
        obtain ⟨d, h1⟩ := p
        simp only []
        cases tBl d with
        | none => rfl
        | some c => cases c <;> rfl
    rw [e0] at q
    refine tT_use r0 sl q.bnd fun g' c r' x' p => ?_
    split
    · rename_i hc
      rw [if_pos hc] at p
      exact ⟨g', s, rfl, r', sl.ext r0 x', p⟩
    · rename_i hc
      rw [if_neg hc] at p
      exact Ok.ret r' p
  rcases asBool_eq hx with ⟨p, rfl⟩ | ⟨b', c, rr, p, rfl, rfl⟩
  · refine ⟨PE_imp (pe_and ha.val (pe_one hb.val)) fun σ H Q q => val0 q, fun ht => ?_, fun ht _ => ?_⟩
    · simp only [tstB, Bool.and_eq_true] at ht
      exact PT_imp (PW.pt (pw_and (ha.tst ht.1) (pw_and1 (hb.tst ht.2)))) fun σ H Q q => tst0 q
    · simp only [tstB, Bool.and_eq_true] at ht
      exact PW_imp (pw_and (ha.tst ht.1) (pw_and1 (hb.tst ht.2))) fun σ H Q q => tst0 q
  · refine ⟨PE_imp (pe_and ha.val hb.val) fun σ H Q q => val0 q, fun ht => ?_, fun ht _ => ?_⟩
    · simp only [tstB, Bool.and_eq_true] at ht
      exact PT_imp (PW.pt (pw_and (ha.tst ht.1) (hb.bl ht.2 ⟨_, _, _, rfl⟩))) fun σ H Q q => tst0 q
    · simp only [tstB, Bool.and_eq_true] at ht
      exact PW_imp (pw_and (ha.tst ht.1) (hb.bl ht.2 ⟨_, _, _, rfl⟩)) fun σ H Q q => tst0 q
theorem or_ok {a b : E} {l r x : Expr} (hx : asBool x = some (.Or, l, r)) (ha : EOk X T k a l) (hb : EOk X T k b r) : EOk X T k (.or a b) x := by
  have val0 : ∀ {σ : L2.St} {H : Hp} {Q : VK}, tE X.K (semE (run T k) (.or a b)) σ H Q → tOrV (tE X.K (semE (run T k) a)) (tE X.K (semE (run T k) b)) σ H Q := by
    intro σ H Q q
    obtain ⟨g, s, rfl, r0, sl, q⟩ := q
    refine tE_use r0 sl q.bnd fun g' d v r' x' p hv => ?_
    obtain ⟨c, e1, p2⟩ := p.optb
    cases d <;> simp only [tBl] at e1 <;> first | (cases e1; done) | skip
    cases e1
    rw [rep_bl.mp hv]
    refine ⟨_, rfl, ?_⟩
    split
    · rename_i hc
      rw [if_pos hc] at p2
      exact Ok.ret r' p2 _ (rep_bl.mpr rfl)
    · rename_i hc
      rw [if_neg hc] at p2
      exact ⟨g', s, rfl, r', sl.ext r0 x', p2⟩
  have tst0 : ∀ {σ : L2.St} {H : Hp} {Q : Bool → Hp → Prop}, tT X.K (semB (run T k) (.or a b)) σ H Q → tOr (tT X.K (semB (run T k) a)) (tT X.K (semB (run T k) b)) σ H Q := by
    intro σ H Q q
    obtain ⟨g, s, rfl, r0, sl, q⟩ := q
    have e0 : semB (run T k) (.or a b) s = bnd (semB (run T k) a s) fun c => if c = true then ret true else semB (run T k) b s := by
      funext h0
      simp only [semB, semE, bnd, opt]
      cases semE (run T k) a s h0 with
      | none => rfl
      | some p =>
        obtain ⟨d, h1⟩ := p
        simp only []
        cases tBl d with
        | none => rfl
        | some c => cases c <;> rfl
    rw [e0] at q
    refine tT_use r0 sl q.bnd fun g' c r' x' p => ?_
    split
    · rename_i hc
      rw [if_pos hc] at p
      exact Ok.ret r' p
    · rename_i hc
      rw [if_neg hc] at p
      exact ⟨g', s, rfl, r', sl.ext r0 x', p⟩
  rcases asBool_eq hx with ⟨p, rfl⟩ | ⟨b', c, rr, p, rfl, rfl⟩
  · refine ⟨PE_imp (pe_or ha.val (pe_one hb.val)) fun σ H Q q => val0 q, fun ht => ?_, fun ht _ => ?_⟩
    · simp only [tstB, Bool.and_eq_true] at ht
      exact PT_imp (PW.pt (pw_or (ha.tst ht.1) (pw_or1 (hb.tst ht.2)))) fun σ H Q q => tst0 q
    · simp only [tstB, Bool.and_eq_true] at ht
      exact PW_imp (pw_or (ha.tst ht.1) (pw_or1 (hb.tst ht.2))) fun σ H Q q => tst0 q
  · refine ⟨PE_imp (pe_or ha.val hb.val) fun σ H Q q => val0 q, fun ht => ?_, fun ht _ => ?_⟩
    · simp only [tstB, Bool.and_eq_true] at ht
      exact PT_imp (PW.pt (pw_or (ha.tst ht.1) (hb.bl ht.2 ⟨_, _, _, rfl⟩))) fun σ H Q q => tst0 q
    · simp only [tstB, Bool.and_eq_true] at ht
      exact PW_imp (pw_or (ha.tst ht.1) (hb.bl ht.2 ⟨_, _, _, rfl⟩)) fun σ H Q q => tst0 q
theorem not_ok {a : E} {l x : Expr} (hx : asUn x = some (.Not, l)) (ha : EOk X T k a l) : EOk X T k (.not a) x := by
  obtain ⟨p, rfl⟩ := asUn_eq hx
  refine ⟨PE_imp (pe_not ha.val) fun σ H Q q => ?_, fun ht => PT_imp (pt_not (ha.tst ht)) fun σ H Q q => ?_, fun _ q => by obtain ⟨_, _, _, z⟩ := q; cases z⟩
  · obtain ⟨g, s, rfl, r0, sl, q⟩ := q
    refine tE_use r0 sl q.bnd fun g' d v r' x' p hv => ?_
    obtain ⟨c, e1, p2⟩ := p.optb
    cases d <;> simp only [tBl] at e1 <;> first | (cases e1; done) | skip
    cases e1
    rw [rep_bl.mp hv]
    exact ⟨_, rfl, Ok.ret r' p2 _ (rep_bl.mpr rfl)⟩
  · obtain ⟨g, s, rfl, r0, sl, q⟩ := q
    have e0 : semB (run T k) (.not a) s = bnd (semB (run T k) a s) fun c => ret (!c) := by
      funext h0
      simp only [semB, semE, bnd, opt]
      cases semE (run T k) a s h0 with
      | none => rfl
      | some p =>
        obtain ⟨d, h1⟩ := p
        simp only []
        cases tBl d with
        | none => rfl
        | some c => rfl
    rw [e0] at q
    exact tT_use r0 sl q.bnd fun g' c r' x' p => Ok.ret r' p
theorem cmp_ok (hw : X.w = Wd.w) (hp : X.prog = Wd.P) (hu : X.A.units + 64 < cLine) {op : Cop} {a b : E} {l r x : Expr} {o : CmpOp} (hx : asCmp x = some (l, o, r)) (ho : copIs op o = true) (hs : isSet r = false) (ha : PE X l (tE X.K (semE (run T k) a))) (hb : PE X r (tE X.K (semE (run T k) b))) : EOk X T k (.cmp op a b) x := by
  obtain ⟨p, rfl⟩ := asCmp_eq hx
  obtain ⟨rr, hr, hq⟩ := op_cmp (X := X) hw hp hu op o ho
  refine ⟨PE_imp (pe_cmpR hr ha hb (marks_ok hs)) fun σ H Q q => ?_, fun _ => PT_imp (pt_cmpR hr ha hb (marks_ok hs)) fun σ H Q q => ?_, fun _ q => by obtain ⟨_, _, _, z⟩ := q; cases z⟩
  · obtain ⟨g, s, rfl, r0, sl, q⟩ := q
    refine tE_use r0 sl q.bnd fun g' d v r' x' p hv => ?_
    refine tE_use r' (sl.ext r0 x') p.bnd fun g2 d2 v2 r2 x2 p2 hv2 => ?_
    obtain ⟨c, e1, p3⟩ := p2.askb
    exact hq g2 d d2 c v v2 Q e1 r2 (Rep.ext r' x2 d hv) hv2 (Ok.ret r2 p3 _ (rep_bl.mpr rfl))
  · obtain ⟨g, s, rfl, r0, sl, q⟩ := q
    have e0 : semB (run T k) (.cmp op a b) s = bnd (semE (run T k) a s) fun x => bnd (semE (run T k) b s) fun y => Iv.ask fun h => cmpD h op x y := by
      funext h0
      simp only [semB, semE, bnd, opt, Iv.ask]
      cases semE (run T k) a s h0 with
      | none => rfl
      | some p =>
        obtain ⟨d, h1⟩ := p
        simp only []
        cases semE (run T k) b s h1 with
        | none => rfl
        | some p2 =>
          obtain ⟨d2, h2⟩ := p2
          simp only []
          cases cmpD h2 op d d2 with
          | none => rfl
          | some c => rfl
    rw [e0] at q
    show tOp rr _ _ σ g.H _
    refine tE_use r0 sl q.bnd fun g' d v r' x' p hv => ?_
    refine tE_use r' (sl.ext r0 x') p.bnd fun g2 d2 v2 r2 x2 p2 hv2 => ?_
    obtain ⟨c, e1, p3⟩ := p2.ask
    exact hq g2 d d2 c v v2 _ e1 r2 (Rep.ext r' x2 d hv) hv2 ⟨c, rfl, Ok.ret r2 p3⟩
theorem chain_ok (hw : X.w = Wd.w) (hp : X.prog = Wd.P) (hu : X.A.units + 64 < cLine) {op op' : Cop} {a b c : E} {l m r x : Expr} {o o' : CmpOp} (hx : asCmp2 x = some (l, o, o', m, r)) (ho : copIs op o = true) (ho' : copIs op' o' = true) (hs : isSet r = false)
    (ha : PE X l (tE X.K (semE (run T k) a))) (hb : PE X m (tE X.K (semE (run T k) b))) (hc : PE X r (tE X.K (semE (run T k) c))) : EOk X T k (.chain op op' a b c) x := by
  obtain ⟨p, rfl⟩ := asCmp2_eq hx
  obtain ⟨rr, hr, hq⟩ := op_cmp (X := X) hw hp hu op o ho
  obtain ⟨rr', hr', hq'⟩ := op_cmp (X := X) hw hp hu op' o' ho'
  have main : ∀ {σ : L2.St} {H : Hp} {Q : VK}, tE X.K (semE (run T k) (.chain op op' a b c)) σ H Q → tChain rr rr' (tE X.K (semE (run T k) a)) (tE X.K (semE (run T k) b)) (tE X.K (semE (run T k) c)) σ H Q := by
    intro σ H Q q
    obtain ⟨g, s, rfl, r0, sl, q⟩ := q
    refine tE_use r0 sl q.bnd fun g' d v r' x' p hv => ?_
    refine tE_use r' (sl.ext r0 x') p.bnd fun g2 d2 v2 r2 x2 p2 hv2 => ?_
    obtain ⟨c1, e1, p3⟩ := p2.askb
    refine hq g2 d d2 c1 v v2 _ e1 r2 (Rep.ext r' x2 d hv) hv2 ⟨c1, rfl, ?_⟩
    split
    · rename_i hc1
      rw [if_pos hc1] at p3
      refine tE_use r2 ((sl.ext r0 x').ext r' x2) p3.bnd fun g3 d3 v3 r3 x3 p4 hv3 => ?_
      obtain ⟨c2, e2, p5⟩ := p4.askb
      exact hq' g3 d2 d3 c2 v2 v3 Q e2 r3 (Rep.ext r2 x3 d2 hv2) hv3 (Ok.ret r3 p5 _ (rep_bl.mpr rfl))
    · rename_i hc1
      rw [if_neg hc1] at p3
      exact Ok.ret r2 p3 _ (rep_bl.mpr rfl)
  refine ⟨PE_imp (pe_chain hr hr' ha hb hc (marks_ok hs)) fun σ H Q q => main q, fun _ => PT_imp (pt_chain hr hr' ha hb hc (marks_ok hs)) fun σ H Q q => ?_, fun _ q => by obtain ⟨_, _, _, z⟩ := q; cases z⟩
  refine main (Q := fun x H' => ∃ k, x = .bl k ∧ Q k H') ?_
  obtain ⟨g, s, e, r0, sl, q⟩ := q
  refine ⟨g, s, e, r0, sl, ?_⟩
  have qb : Ok X.K g (bnd (semE (run T k) (.chain op op' a b c) s) fun d => opt (tBl d)) fun g' b => Q b g'.H := q
  refine qb.bnd.mono fun g' d r' x' p v hv => ?_
  obtain ⟨b1, e1, p⟩ := p.opt
  cases d <;> simp only [tBl] at e1 <;> first | (cases e1; done) | skip
  cases e1
  exact ⟨_, rep_bl.mp hv, Ok.ret r' p⟩
theorem name_notbool {n : Str} {p : Pos} : ¬ ∃ o l q, (Expr.Name n p) = .BoolOp o l q := fun ⟨_, _, _, z⟩ => by cases z
/-- a new list made: what is asked of it -/
theorem newF {K : PySem.W.Frag} [Wd] {g0 g : G} {Q : VK} {ds : List D} {xs : List V} {a : Addr} (r0 : Rel K g0) (r : Rel K g) (x : Ext g0 g) (ha : g.H a = none)
    (p : Ok K g (ret ds) fun g' ds => ∀ a xs, g0.H a = none → ¬ g'.w.T a → g'.H a = some (.lst xs) → Rel K (g'.mark a) → Reps K (g'.mark a) ds xs → Q (.ref a) g'.H) (rs : Reps K g ds xs) : Q (.ref a) (upd g.H a (.lst xs)) := by
  obtain ⟨x2, r2⟩ := Ext.lay (o := .lst xs) r ha
  obtain ⟨x3, r3⟩ := Ext.layT (o := .lst xs) r ha
  refine Ok.ret' p r2 x2 a xs ?_ ?_ upd_same r3 (Reps.ext r x3 ds rs)
  · cases z : g0.H a with
    | none => rfl
    | some o =>
      obtain ⟨o', z'⟩ := x.there a o z
      rw [ha] at z'; cases z'
  · intro t
    obtain ⟨o, z⟩ := r.dom a t
    rw [ha] at z; cases z
def tO (K : PySem.W.Frag) [Wd] (m : St → M (Option Int)) : TO := fun σ H Q => ∃ (g : G) (s : St), g.H = H ∧ Rel K g ∧ Slots K g s σ ∧ Ok K g (m s) fun g' o => Q o g'.H
theorem fold_ok {e : Expr} {env : Env} (h : isSet e = false) : ∀ x, foldedSetIterable e env x = pure x := fun x => by
  cases e <;> first | rfl | simp [isSet] at h
/-- list + list, read anyhow -/
theorem op_catL : OpR X (binaryOp .Add) (fun x y H Q => ∃ l b xs zs, x = .ref l ∧ y = .ref b ∧ SqL X.K H l xs ∧ SqL X.K H b zs ∧ xs.length + zs.length ≤ sizeLine ∧ ∀ p, H p = none → Q (.ref p) (upd H p (.lst (xs ++ zs)))) := by
  intro pins s σ H x y v u Q I rx ry h
  obtain ⟨l, b, xs, zs, rfl, rfl, hH, hB, hz, q⟩ := h
  cases rx
  cases ry
  obtain ⟨its, r, ⟨⟨cls, dd, data, sl⟩, n, ho, hc, hd0, hd⟩, hl⟩ := I.list hH
  obtain ⟨its2, r2, ⟨⟨cls2, dd2, data2, sl2⟩, n2, ho2, hc2, hd02, hd2⟩, hl2⟩ := I.list hB
  simp only at hc hd hc2 hd2
  subst hc hd hc2 hd2
  have l1 := r.length
  have l2 := r2.length
  refine concat_meets ⟨_, ho, rfl⟩ ⟨_, ho2, rfl⟩ noFill_list_add seq_list_add PySem.F.slot_list_add PySem.F.entry_list_add (PySem.F.args_list_add_2 _ _) (list_addW l b its.toArray its2.toArray n n2 dd dd2 sl sl2 (by rw [List.size_toArray, List.size_toArray]; omega)) ⟨ho, ho2, ?_⟩
  have ea : its.toArray ++ its2.toArray = (its ++ its2).toArray := by simp
  rw [ea]
  exact ⟨.ref _, _, I.lnew (t' := s.toks) (r.append r2) (by rw [List.length_append]; omega), rfl, q _ I.fresh⟩
theorem part_ok (o : Option Expr) (e : E) (b : Bool) (he : ∀ x, ckE tx sc e x = true → EOk X T k e x) (h : (match o with
      | some l => b && ckE tx sc e l
      | none => !b) = true) : PO X o (tO X.K fun s => if b = true then bnd (semE (run T k) e s) fun l => opt (partD l) else ret none) := by
  cases o with
  | none =>
    simp only [Bool.not_eq_true'] at h
    subst h
    exact ⟨fun pins s σ H Q I q => po_none.run pins s σ H Q I (by
      obtain ⟨g, st, rfl, r0, sl, q⟩ := q
      exact Ok.ret r0 q)⟩
  | some x =>
    simp only [Bool.and_eq_true] at h
    obtain ⟨rfl, h⟩ := h
    refine ⟨fun pins s σ H Q I q => (po_some (he x h).val).run pins s σ H Q I ?_⟩
    obtain ⟨g, st, rfl, r0, sl, q⟩ := q
    have q' : Ok X.K g (bnd (semE (run T k) e st) fun l => opt (partD l)) fun g' o => Q o g'.H := q
    refine tE_use r0 sl q'.bnd fun g' d v r' x' p hv => ?_
    obtain ⟨l, e1, p⟩ := p.opt
    cases d <;> simp only [partD] at e1 <;> first | (cases e1; done) | skip
    cases e1
    exact ⟨_, rep_int.mp hv, Ok.ret r' p⟩
theorem cut_rep {g : G} {ds : List D} {xs : List V} {o o2 : Option Int} (rs : Reps X.K g ds xs) : Reps X.K g (cutD ds o o2) (cutV xs o o2) := by
  unfold cutD cutV
  rw [rs.length]
  exact (rs.drop _).take _
theorem range_ok {K : PySem.W.Frag} [Wd] {g : G} {lo : Int} {n : Nat} : ItOk K g (rangeL lo n, none) (Itr lo n) := by
  intro g' r' x' _ i
  refine ⟨fun d e => ?_, fun h => by show n ≤ i; have h1 : (rangeL lo n).length = i := h; simp [rangeL] at h1; omega⟩
  have e' : ((List.range n).map fun k : Nat => D.int (lo + (k : Int)))[i]? = some d := e
  rw [List.getElem?_map, Option.map_eq_some_iff] at e'
  obtain ⟨j, e1, rfl⟩ := e'
  obtain ⟨hi, rfl⟩ : i < n ∧ i = j := by
    have hi := (List.getElem?_eq_some_iff.mp e1).1
    rw [List.length_range] at hi
    refine ⟨hi, ?_⟩
    rw [List.getElem?_range hi] at e1
    exact Option.some.inj e1
  refine ⟨hi, fun x H' y => ?_⟩
  obtain ⟨rfl, rfl⟩ := y
  exact ⟨g'.w, r', Ext.refl g', rep_int.mpr rfl⟩
theorem seq_it {K : PySem.W.Frag} [Wd] {g : G} {p : List D × Option Nat} {a : Addr} {tup : Bool} (hs : ∀ g', Rel K g' → Ext g g' → Stands p g'.h → ∃ xs, (if tup = true then SqT K g'.H a xs else SqL K g'.H a xs) ∧ Reps K g' p.1 xs) :
    ItOk K g p (if tup = true then Itt K a else Itl K a) := by
  intro g' r' x' st i
  obtain ⟨xs, hq, rs⟩ := hs g' r' x' st
  cases tup with
  | true =>
    refine ⟨fun d e => ?_, fun h => ⟨xs, hq, by rw [← rs.length]; exact Nat.le_of_eq h⟩⟩
    obtain ⟨v, e1, hv⟩ := rs.get e
    refine ⟨⟨xs, v, hq, e1⟩, fun x H' y => ?_⟩
    obtain ⟨rfl, y⟩ := y
    have := (y xs hq).symm.trans e1
    cases this
    exact ⟨g'.w, r', Ext.refl g', hv⟩
  | false =>
    refine ⟨fun d e => ?_, fun h => ⟨xs, hq, by rw [← rs.length]; exact Nat.le_of_eq h⟩⟩
    obtain ⟨v, e1, hv⟩ := rs.get e
    refine ⟨⟨xs, v, hq, e1⟩, fun x H' y => ?_⟩
    obtain ⟨rfl, y⟩ := y
    have := (y xs hq).symm.trans e1
    cases this
    exact ⟨g'.w, r', Ext.refl g', hv⟩
theorem zip_it {K : PySem.W.Frag} [Wd] {g : G} {es : List D} {xs : List V} {w : Str} {a : Addr} (r : Rel K g) (hq : SqT K g.H a xs) (rs : Reps K g es xs) (hl : es.length = w.cps.size) :
    ItOk K g (List.zipWith (fun d c => D.tup [d, .str ⟨#[c]⟩]) es w.cps.toList, none) (ItzS K a w) := by
  intro g' r' x' _ i
  refine ⟨fun d e => ?_, fun h => ?_⟩
  · have e' : (List.zipWith (fun d c => D.tup [d, .str ⟨#[c]⟩]) es w.cps.toList)[i]? = some d := e
    rw [List.getElem?_zipWith] at e'
    cases z1 : es[i]? with
    | none => rw [z1] at e'; simp at e'
    | some d1 =>
      cases z2 : w.cps.toList[i]? with
      | none => rw [z1, z2] at e'; simp at e'
      | some c =>
        rw [z1, z2] at e'
        simp only [Option.some.injEq] at e'
        subst e'
        obtain ⟨v, e3, hv⟩ := rs.get z1
        have hc : w.cps[i]? = some c := by simpa using z2
        have hq' := x'.tup r hq
        refine ⟨⟨xs, v, c, hq', e3, hc⟩, fun y H' yl => ?_⟩
        obtain ⟨T, u, c', rfl, hT, rfl, h1, h2⟩ := yl
        have eu : v = u := Option.some.inj (e3.symm.trans (h1 xs hq'))
        have ec : c = c' := Option.some.inj (hc.symm.trans h2)
        subst eu ec
        obtain ⟨x2, r2⟩ := Ext.lay (o := .tup [v, .str ⟨#[c]⟩]) r' hT
        exact ⟨g'.w, r2, x2, rep_tup.mpr ⟨T, _, rfl, .of upd_same, Reps.cons (Rep.ext r' x2 _ (Rep.ext r x' _ hv)) (Reps.cons (rep_str.mpr rfl) Reps.nil)⟩⟩
  · have h' : (List.zipWith (fun d c => D.tup [d, .str ⟨#[c]⟩]) es w.cps.toList).length = i := h
    rw [List.length_zipWith] at h'
    have hw : w.cps.toList.length = w.cps.size := by simp
    exact ⟨xs, x'.tup r hq, by rw [← rs.length]; omega, by omega⟩
theorem enum_it {K : PySem.W.Frag} [Wd] {g : G} {w : Str} {k : Nat} : ItOk K g (enumL k w.cps.toList, none) (ItEnS w k) := by
  intro g' r' x' _ i
  refine ⟨fun d e => ?_, fun h => ?_⟩
  · have e' : (enumL k w.cps.toList)[i]? = some d := e
    rw [enumL_get, Option.map_eq_some_iff] at e'
    obtain ⟨c, hc, rfl⟩ := e'
    have hc' : w.cps[i]? = some c := by simpa using hc
    refine ⟨⟨c, hc'⟩, fun y H' yl => ?_⟩
    obtain ⟨T, c2, rfl, hT, rfl, h2⟩ := yl
    have ec : c = c2 := Option.some.inj (hc'.symm.trans h2)
    subst ec
    obtain ⟨x2, r2⟩ := Ext.lay (o := .tup [.int ((i + k : Nat) : Int), .str ⟨#[c]⟩]) r' hT
    exact ⟨g'.w, r2, x2, rep_tup.mpr ⟨T, _, rfl, .of upd_same, Reps.cons (rep_int.mpr rfl) (Reps.cons (rep_str.mpr rfl) Reps.nil)⟩⟩
  · have h' : (enumL k w.cps.toList).length = i := h
    rw [enumL_len] at h'
    have hw : w.cps.toList.length = w.cps.size := by simp
    show i = w.cps.size
    omega
theorem Lk.blk (L : Lk X tx T k) {s : Shared} {H : Hp} {scope : Scope} {C : Addr} {cl : List (Str × Addr)} {fp : List Addr} : Lk (X.blk s H scope (compEnvC scope cl C X.env) fp) tx T k := ⟨L.hw, L.hp, L.room, L.calm, L.fn, L.gl, L.blt, L.kd⟩
theorem At.blk (A : At X tx sc) {s : Shared} {H : Hp} {scope : Scope} {C : Addr} {cl : List (Str × Addr)} {fp : List Addr} : At (X.blk s H scope (compEnvC scope cl C X.env) fp) tx (relS scope sc) := ⟨A.hn, A.nd, by rw [← A.hsc]; rfl⟩
theorem own_map {N : List Str} {own : List Nat} : (ownP N own).map (·.2) = own := by
  simp [ownP, Function.comp_def]
theorem semIt_stands {C : Cal} {it : It} {s : St} {h h' : AH} {p : List D × Option Nat} (e : semIt C it s h = some (p, h')) : Stands p h' := by
  cases it with
  | range1 a =>
    simp only [semIt, bnd] at e
    split at e
    · split at e
      · split at e
        · simp only [ret, Option.some.injEq, Prod.mk.injEq] at e
          rw [← e.1]; trivial
        · cases e
      · cases e
    · cases e
  | range2 a b =>
    simp only [semIt, bnd] at e
    split at e
    · split at e
      · split at e
        · split at e
          · simp only [ret, Option.some.injEq, Prod.mk.injEq] at e
            rw [← e.1]; trivial
          · cases e
        · cases e
      · cases e
    · cases e
  | seq a =>
    simp only [semIt, bnd, Iv.ask] at e
    split at e
    · rename_i d h1 e1
      cases z : seqOf h1 d with
      | none => rw [z] at e; cases e
      | some ds =>
        rw [z] at e
        simp only [ret, Option.some.injEq, Prod.mk.injEq] at e
        obtain ⟨rfl, rfl⟩ := e
        unfold Stands
        cases d with
        | ref n =>
          simp only [seqOf] at z
          split at z
          · rename_i es hes
            cases z
            exact hes
          · cases z
        | _ => trivial
    · cases e
  | enumS k a =>
    simp only [semIt, bnd] at e
    split at e
    · split at e
      · simp only [ret, Option.some.injEq, Prod.mk.injEq] at e
        rw [← e.1]; trivial
      · cases e
    · cases e
  | zipS a b =>
    simp only [semIt, bnd] at e
    split at e
    · split at e
      · split at e
        · simp only [ret, Option.some.injEq, Prod.mk.injEq] at e
          rw [← e.1]; trivial
        · cases e
      · cases e
    · cases e
/-- what the comprehension's rule asks -/
theorem lc_use [Wd] {X : Cx} {T : List Fn} {k : Nat} {N : List Str} {p : Pt} {own : List Nat} {it : It} {ifs : List E} {elt : E} (hslots : ∀ i ∈ p.slots, i ∈ own) {σ : L2.St} {H : Hp} {Q : VK} (q : tF X.K (semF (run T k) (.comp p own it ifs elt)) σ H Q) :
    tLc (tI X.K (semIt (run T k) it)) (tP X.K p) (fun σ H Q => ∃ (g : G) (s : St), g.H = H ∧ Rel X.K g ∧ Slots X.K g s σ ∧ Ok X.K g (semIfs (run T k) ifs s) fun g' b => Q b g'.H) (tE X.K (semE (run T k) elt)) ((ownP N own).map (·.2)) σ H Q := by
  rw [own_map]
  obtain ⟨g, s, rfl, r0, sl, q⟩ := q
  have q0 : Ok X.K g (bnd (semIt (run T k) it s) fun w => bnd (compL w.1 w.2 (fun d => bnd (opt (semP p d (wipeS s own))) fun s2 => bnd (semIfs (run T k) ifs s2) fun k' => if k' = true then bnd (semE (run T k) elt s2) fun y => ret (some y) else ret none) w.1) fun r => if r.length ≤ sizeMax then ret r else bad) fun g' ds => ∀ a xs, g.H a = none → ¬ g'.w.T a → g'.H a = some (.lst xs) → Rel X.K (g'.mark a) → Reps X.K (g'.mark a) ds xs → Q (.ref a) g'.H := q
  have st0 : ∀ w h', semIt (run T k) it s g.h = some (w, h') → Stands w h' := fun w h' e => semIt_stands e
  obtain ⟨w, h1', e1, q1⟩ := q0.bnd
  refine ⟨g, s, rfl, r0, sl, w, h1', e1, fun w' H' r' x' => ⟨st0 _ _ e1, fun J hJ LA hLA => ?_⟩⟩
  refine comp_ok hJ r' (sl.ext r0 x') (st0 _ _ e1) hLA hslots (fun σ H Q q => q) (fun σ H Q q => q) ((q1 w' H' r' x').mono fun g2 ds r2 x2 q2 a xs ha => q2 a xs ?_)
  cases z : g.H a with
  | none => rfl
  | some o =>
    obtain ⟨o', e'⟩ := x'.there a o z
    have e2 : H' a = some o' := e'
    rw [show H' a = none from ha] at e2; cases e2
mutual
theorem ckE_ok {X : Cx} {sc : Scope} (L : Lk X tx T k) (A : At X tx sc) : ∀ (e : E) (x : Expr), ckE tx sc e x = true → EOk X T k e x
  | .v i, x, h => by
    simp only [ckE] at h
    split at h
    · rename_i n hn
      obtain ⟨p, rfl⟩ := asName_eq hn
      simp only [Bool.and_eq_true, decide_eq_true_eq] at h
      refine .plain (PE_imp (pe_var (i := i) (by rw [A.hn]; exact h.1.1) (vis_at A h.1.2) (okN_d h.2) (okN_c h.2)) fun σ H Q q => ?_) rfl name_notbool
      obtain ⟨g, s, rfl, r0, sl, q⟩ := q
      obtain ⟨d, e1, q⟩ := Ok.opt q
      have e2 : s[i]? = some (some d) := by
        cases z : s[i]? with
        | none => rw [z] at e1; cases e1
        | some o => rw [z] at e1; exact congrArg some e1
      obtain ⟨v, e3, hv⟩ := sl.get i d e2
      exact ⟨v, e3, Ok.ret r0 q v hv⟩
    · cases h
  | .c d, x, h => by
    simp only [ckE] at h
    split at h
    · rename_i c hc
      obtain ⟨k0, p, rfl⟩ := asConst_eq hc
      have nb : ¬ ∃ o l q, (Expr.Constant c k0 p) = .BoolOp o l q := fun ⟨_, _, _, z⟩ => by cases z
      unfold cstIs at h
      split at h
      · rename_i d' hd
        have e := D.beq_eq h
        subst e
        cases c <;> simp only [cstD, Option.some.injEq] at hd <;> first | (cases hd; done) | subst hd
        · refine .plain (PE_imp pe_non fun σ H Q q => ?_) rfl nb
          obtain ⟨g, s, rfl, r0, sl, q⟩ := q
          exact Ok.ret r0 q _ (rep_non.mpr rfl)
        · refine .plain (PE_imp pe_bl fun σ H Q q => ?_) rfl nb
          obtain ⟨g, s, rfl, r0, sl, q⟩ := q
          exact Ok.ret r0 q _ (rep_bl.mpr rfl)
        · refine .plain (PE_imp pe_int fun σ H Q q => ?_) rfl nb
          obtain ⟨g, s, rfl, r0, sl, q⟩ := q
          exact Ok.ret r0 q _ (rep_int.mpr rfl)
        · refine .plain (PE_imp pe_str fun σ H Q q => ?_) rfl nb
          obtain ⟨g, s, rfl, r0, sl, q⟩ := q
          exact Ok.ret r0 q _ (rep_str.mpr rfl)
      · cases h
    · split at h
      · rename_i n hn
        obtain ⟨p, rfl⟩ := asName_eq hn
        simp only [Bool.and_eq_true, List.any_eq_true, decide_eq_true_eq] at h
        obtain ⟨⟨h1, h2⟩, ⟨pn, pd⟩, h3, h4, h5⟩ := h
        have e := D.beq_eq h5
        subst e
        have h4' : pn = n := h4
        subst h4'
        obtain ⟨u, v, hm, hr, hv⟩ := L.gl _ h3
        refine .plain (PE_imp (pe_glob (gl_at A h2) hm hr (okN_d h1)) fun σ H Q q => ?_) rfl name_notbool
        obtain ⟨g, s, rfl, r0, sl, q⟩ := q
        exact Ok.ret r0 q _ (hv g)
      · cases h
  | .tup es, x, h => by
    simp only [ckE] at h
    split at h
    · rename_i xs hx
      obtain ⟨k0, p, rfl⟩ := asTuple_eq hx
      refine .plain (PE_imp (pe_tup (ckEs_ok L A es xs h)) fun σ H Q q => ?_) rfl (fun ⟨_, _, _, z⟩ => by cases z)
      obtain ⟨g, s, rfl, r0, sl, q⟩ := q
      refine tA_use r0 sl q.bnd fun g' ds vs r' x' p hv => ?_
      split at p
      · rename_i hl
        refine ⟨by rw [sizeMax_eq, ← hv.length]; exact hl, fun a ha => ?_⟩
        obtain ⟨x2, r2⟩ := Ext.lay (o := .tup vs) r' ha
        exact Ok.ret' p r2 x2 _ (rep_tup.mpr ⟨a, vs, rfl, .of upd_same, Reps.ext r' x2 ds hv⟩)
      · exact (Ok.bad p).elim
    · cases h
  | .lstv f, x, h => by
    have hf := ckF_ok L A f x h
    refine .plain (PE_imp hf.1 fun σ H Q q => ?_) hf.2.1 hf.2.2
    obtain ⟨g, s, rfl, r0, sl, q⟩ := q
    refine ⟨g, s, rfl, r0, sl, q.bnd.mono fun g' ds r' x' p a xs h0 ht ha rm rs => ?_⟩
    refine Ok.ret r' p _ (rep_lst.mpr ⟨a, xs, rfl, .inl ⟨.inl ha, ht⟩, ?_⟩)
    exact Reps.weak (w := (g'.mark a).w) (w' := g'.w) rfl (fun b hb => .inl hb) ds rs
  | .alloc f, x, h => by
    have hf := ckF_ok L A f x h
    refine .plain (PE_imp hf.1 fun σ H Q q => ?_) hf.2.1 hf.2.2
    obtain ⟨g, s, rfl, r0, sl, q⟩ := q
    obtain ⟨d, h2, e, q⟩ := q
    have e' : bnd (semF (run T k) f s) newLst g.h = some (d, h2) := e
    unfold bnd at e'
    split at e'
    · rename_i ds h1 e1
      unfold newLst at e'
      split at e'
      · rename_i hr
        simp only [Option.some.injEq, Prod.mk.injEq] at e'
        obtain ⟨rfl, rfl⟩ := e'
        refine ⟨g, s, rfl, r0, sl, ds, h1, e1, fun w1 H1 r1 x1 a xs h0 ht ha rm rs => ?_⟩
        obtain ⟨w', x2, r2, e2⟩ := Ext.track x1 r1 h0 ht ha rm rs hr
        exact q w' H1 r2 x2 _ (rep_ref.mpr ⟨by simp, by rw [show w'.ι h1.length = a from e2]⟩)
      · cases e'
    · cases e'
  | .bin op a b, x, h => by
    simp only [ckE] at h
    split at h
    · rename_i l o r hx
      obtain ⟨p, rfl⟩ := asBin_eq hx
      simp only [Bool.and_eq_true] at h
      obtain ⟨rr, hr, hq⟩ := op_bin (X := X) op o h.1.1
      refine .plain (PE_imp (pe_op hr (ckE_ok L A a l h.1.2).val (ckE_ok L A b r h.2).val) fun σ H Q q => ?_) rfl (fun ⟨_, _, _, z⟩ => by cases z)
      obtain ⟨g, s, rfl, r0, sl, q⟩ := q
      refine tE_use r0 sl q.bnd fun g' d v r' x' p hv => ?_
      refine tE_use r' (sl.ext r0 x') p.bnd fun g2 d2 v2 r2 x2 p2 hv2 => ?_
      obtain ⟨d3, e1, p3⟩ := p2.opt
      refine hq g2 d d2 d3 v v2 Q e1 r2 (Rep.ext r' x2 d hv) hv2 fun g3 v3 e3 r3 x3 hv3 => ?_
      obtain ⟨w3, h3, H3⟩ := g3
      have e3' : h3 = g2.h := e3
      subst e3'
      exact Ok.ret' p3 r3 x3 v3 hv3
    · cases h
  | .neg a, x, h => by
    simp only [ckE] at h
    split at h
    · rename_i o r hx
      simp only [Bool.and_eq_true, decide_eq_true_eq] at h
      obtain ⟨rfl, h⟩ := h
      obtain ⟨p, rfl⟩ := asUn_eq hx
      refine .plain (PE_imp (pe_un un_neg (ckE_ok L A a r h).val) fun σ H Q q => ?_) rfl (fun ⟨_, _, _, z⟩ => by cases z)
      obtain ⟨g, s, rfl, r0, sl, q⟩ := q
      refine tE_use r0 sl q.bnd fun g' d v r' x' p hv => ?_
      split at p
      · exact ⟨_, rep_int.mp hv, Ok.ret r' p _ (rep_int.mpr rfl)⟩
      · exact (Ok.bad p).elim
    · cases h
  | .cmp op a b, x, h => by
    simp only [ckE] at h
    split at h
    · rename_i l o r hx
      simp only [Bool.and_eq_true, Bool.not_eq_true'] at h
      exact cmp_ok L.hw L.hp L.room.units hx h.1.1.1 h.2 (ckE_ok L A a l h.1.1.2).val (ckE_ok L A b r h.1.2).val
    · cases h
  | .chain op op' a b c, x, h => by
    simp only [ckE] at h
    split at h
    · rename_i l o o' m r hx
      simp only [Bool.and_eq_true, Bool.not_eq_true'] at h
      exact chain_ok L.hw L.hp L.room.units hx h.1.1.1.1.1 h.1.1.1.1.2 h.2 (ckE_ok L A a l h.1.1.1.2).val (ckE_ok L A b m h.1.1.2).val (ckE_ok L A c r h.1.2).val
    · cases h
  | .and a b, x, h => by
    simp only [ckE] at h
    split at h
    · rename_i o l r hx
      simp only [Bool.and_eq_true, decide_eq_true_eq] at h
      obtain ⟨⟨rfl, h1⟩, h2⟩ := h
      exact and_ok hx (ckE_ok L A a l h1) (ckE_ok L A b r h2)
    · cases h
  | .or a b, x, h => by
    simp only [ckE] at h
    split at h
    · rename_i o l r hx
      simp only [Bool.and_eq_true, decide_eq_true_eq] at h
      obtain ⟨⟨rfl, h1⟩, h2⟩ := h
      exact or_ok hx (ckE_ok L A a l h1) (ckE_ok L A b r h2)
    · cases h
  | .not a, x, h => by
    simp only [ckE] at h
    split at h
    · rename_i o r hx
      simp only [Bool.and_eq_true, decide_eq_true_eq] at h
      obtain ⟨rfl, h1⟩ := h
      exact not_ok hx (ckE_ok L A a r h1)
    · cases h
  | .ite t a b, x, h => by
    simp only [ckE] at h
    split at h
    · rename_i c l r hx
      obtain ⟨p, rfl⟩ := asIf_eq hx
      simp only [Bool.and_eq_true] at h
      refine ⟨PE_imp (pe_ifExp ((ckE_ok L A t c h.1.1.1).tst h.1.1.2) (ckE_ok L A a l h.1.2).val (ckE_ok L A b r h.2).val) fun σ H Q q => ?_, fun z => by simp [tstB] at z, fun z => by simp [tstB] at z⟩
      obtain ⟨g, s, rfl, r0, sl, q⟩ := q
      have e0 : semE (run T k) (.ite t a b) s = bnd (semB (run T k) t s) fun c => if c = true then semE (run T k) a s else semE (run T k) b s := by
        funext h0
        simp only [semB, semE, bnd, opt]
        cases semE (run T k) t s h0 with
        | none => rfl
        | some p =>
          obtain ⟨d, h1⟩ := p
          rfl
      have q' : Ok X.K g (semE (run T k) (.ite t a b) s) fun g' d => ∀ v, Rep X.K g' d v → Q v g'.H := q
      rw [e0] at q'
      refine tT_use r0 sl q'.bnd fun g' c r' x' p => ?_
      split
      · rename_i hc
        rw [if_pos hc] at p
        exact ⟨g', s, rfl, r', sl.ext r0 x', p⟩
      · rename_i hc
        rw [if_neg hc] at p
        exact ⟨g', s, rfl, r', sl.ext r0 x', p⟩
    · cases h
  | .idx a i, x, h => by
    simp only [ckE] at h
    split at h
    · rename_i l r hx
      obtain ⟨p, rfl⟩ := asSub_eq hx
      simp only [Bool.and_eq_true, Bool.not_eq_true'] at h
      refine .plain (PE_imp (pe_ix ((ix_list.or ix_tup).or (ix_dct L.hw L.hp L.room.units)) (ckE_ok L A a l h.1.1).val (ckE_ok L A i r h.1.2).val (plainIx_ok h.2)) fun σ H Q q => ?_) rfl (fun ⟨_, _, _, z⟩ => by cases z)
      obtain ⟨g, s, rfl, r0, sl, q⟩ := q
      refine tE_use r0 sl q.bnd fun g' d v r' x' p hv => ?_
      refine tE_use r' (sl.ext r0 x') p.bnd fun g2 d2 v2 r2 x2 p2 hv2 => ?_
      obtain ⟨d3, e1, p3⟩ := p2.ask
      unfold idxD at e1
      split at e1
      · rename_i ds hs
        split at e1
        · rename_i j
          obtain ⟨y, xs, rfl, hsq, rs⟩ := seq_rep hs r2 (Rep.ext r' x2 d hv)
          obtain ⟨v3, e2, hv3⟩ := atI_rep rs e1
          rw [rep_int.mp hv2]
          have fin := Ok.ret r2 p3 v3 hv3
          rcases hsq with hsq | hsq
          · exact .inl (.inl ⟨y, xs, j, v3, rfl, rfl, hsq, e2, fin⟩)
          · exact .inl (.inr ⟨y, xs, j, v3, rfl, rfl, hsq, e2, fin⟩)
        · cases e1
      · split at e1
        · rename_i t ks vs hd
          split at e1
          · rename_i hk
            exact .inr ⟨g2, d2, d, d3, t, ks, vs, rfl, r2, Rep.ext r' x2 d hv, hv2, hd, hk, e1, fun v3 hv3 => Ok.ret r2 p3 v3 hv3⟩
          · cases e1
        · cases e1
    · cases h
  | .call f perm es, x, h => by
    simp only [ckE] at h
    split at h
    · rename_i n xs ks hx
      obtain ⟨q, p, rfl⟩ := asCall_eq hx
      simp only [Bool.and_eq_true, List.any_eq_true, decide_eq_true_eq] at h
      obtain ⟨⟨⟨⟨h1, h2⟩, h3⟩, sh, hsh, ⟨⟨⟨hs1, hs2⟩, hs3⟩, hs4⟩, hs5⟩, h4⟩ := h
      split at h3
      · rename_i pp hf
        obtain ⟨pn, ps⟩ := pp
        have h3' : pn = n := by simpa using h3
        subst h3'
        obtain ⟨a, b, c, ea, eb, ec, ed⟩ := ckEks_split es xs ks h4
        have hab := ckEks_ok L A es xs ks h4 a b c ea eb ec
        refine .plain (pe_defcall L A h1 h2 hf hsh hs1 hs2 hs3 hs4 ea eb ec (by rw [ed]; exact hs5) hab.1 hab.2.1 hab.2.2) rfl (fun ⟨_, _, _, z⟩ => by cases z)
      · cases h3
    · cases h
  | .bi b es, x, h => by
    simp only [ckE] at h
    split at h
    · rename_i n hb
      split at h
      · rename_i m xs ks hx
        obtain ⟨q, p, rfl⟩ := asCall_eq hx
        simp only [Bool.and_eq_true, decide_eq_true_eq] at h
        obtain ⟨⟨⟨rfl, h1⟩, h2⟩, h3⟩ := h
        obtain ⟨hok, hgl, hm⟩ := isBlt_ok L A h1
        have hks : ks = [] := by simpa using h2
        subst hks
        obtain ⟨id, r, hv, hr, hq⟩ := pe_bi L A hb
        obtain ⟨hpl, hlen⟩ := ckEs_plain h3
        cases xs with
        | nil =>
          have : es = [] := List.length_eq_zero_iff.mp hlen
          subst this
          refine .plain ⟨fun pins s σ H Q I q => ?_⟩ rfl (fun ⟨_, _, _, z⟩ => by cases z)
          obtain ⟨g, st, rfl, r0, sl, q⟩ := q
          have q' := Ok.ret r0 (Ok.bnd q)
          obtain ⟨d, e1, _⟩ := Ok.ask q'
          exact absurd e1 (by cases b <;> simp [biD])
        | cons y ys =>
          simp only [List.all_cons, Bool.and_eq_true] at hpl
          refine .plain (PE_imp (pe_callB hr hgl hm hv (ckEs_ok L A es (y :: ys) h3) (okN_n hok) (okN_d hok) (star_cons hpl.1) (plain_back hpl.2)) fun σ H Q q => ?_) rfl (fun ⟨_, _, _, z⟩ => by cases z)
          obtain ⟨g, st, rfl, r0, sl, q⟩ := q
          refine tA_use r0 sl q.bnd fun g' ds vs r' x' p hv => ?_
          obtain ⟨d, e1, p2⟩ := p.ask
          exact hq g' ds d vs Q e1 r' hv fun w' H' v r2 x2 hv2 => Ok.ret' p2 r2 x2 v hv2
      · cases h
    · rename_i hb
      split at h
      · rename_i t ht
        split at h
        · rename_i m y z hx
          obtain ⟨q, p, rfl⟩ := asCall_eq hx
          simp only [Bool.and_eq_true, decide_eq_true_eq] at h
          obtain ⟨⟨⟨⟨rfl, h1⟩, h2⟩, h3⟩, h4⟩ := h
          split at h2
          · rename_i n hn
            obtain ⟨pz, rfl⟩ := asName_eq hn
            simp only [Bool.and_eq_true, decide_eq_true_eq] at h2
            obtain ⟨rfl, h2⟩ := h2
            obtain ⟨hok, hgl, hm⟩ := isBlt_ok L A h1
            obtain ⟨hok2, hgl2, hm2⟩ := isBlt_ok L A h2
            have hbt : b = .isa t := by cases b <;> simp [isIsa] at ht; rw [ht]
            subst hbt
            obtain ⟨hpl, hlen⟩ := ckEs_plain h4
            simp only [List.all_cons, List.all_nil, Bool.and_true] at hpl
            obtain ⟨e1, rfl⟩ : ∃ e1, es = [e1] := by
              match es, hlen with
              | [e1], _ => exact ⟨e1, rfl⟩
            simp only [ckEs, Bool.and_eq_true, Bool.and_true] at h4
            have pz2 : PE X (.Name (tyName t : Str) pz) (tC (.ty (tyName t))) := pe_bltn hgl2 hm2 (ty_boot t) rfl (okN_n hok2) (okN_d hok2)
            have pe1 := (ckE_ok L A e1 y h4.1).val
            refine .plain (PE_imp (pe_callB call_isi hgl hm (by decide +kernel) (pa_cons pe1 (pa_cons pz2 pa_nil) (star_cons hpl)) (okN_n hok) (okN_d hok) (star_cons hpl) rfl) fun σ H Q q => ?_) rfl (fun ⟨_, _, _, z⟩ => by cases z)
            obtain ⟨g, st, rfl, r0, sl, q⟩ := q
            have e0 : semE (run T k) (.bi (.isa t) [e1]) st = bnd (semE (run T k) e1 st) fun d => Iv.ask fun h => biD h (.isa t) [d] := by
              funext h0
              simp only [semE, semEs, bnd, ret]
              cases semE (run T k) e1 st h0 with
              | none => rfl
              | some p => rfl
            have q' : Ok X.K g (semE (run T k) (.bi (.isa t) [e1]) st) fun g' d => ∀ v, Rep X.K g' d v → Q v g'.H := q
            rw [e0] at q'
            refine tE_use r0 sl q'.bnd fun g' d v r' x' p hv => ?_
            obtain ⟨d2, e2, p2⟩ := p.ask
            have fin := Ok.ret r' p2
            simp only [biD] at e2
            split at e2
            · cases e2
              rw [rep_non.mp hv]
              exact ⟨_, _, _, _, _, rfl, .ty _, .base .non, kit_ty (isa_non t), fin _ (rep_bl.mpr rfl)⟩
            · simp only [Option.map_eq_some_iff] at e2
              obtain ⟨t2, e3, rfl⟩ := e2
              exact ⟨_, _, _, _, _, rfl, .ty _, tyX_rep r' e3 hv, kit_ty (isa_kit t2 t), fin _ (rep_bl.mpr rfl)⟩
          · cases h2
        · cases h
      · rename_i ht
        split at h
        · rename_i o m hx
          obtain ⟨q, p, rfl, hl⟩ := asMeth_eq hx
          simp only [Bool.and_eq_true, decide_eq_true_eq] at h
          obtain ⟨⟨⟨rfl, rfl⟩, h2⟩, h3⟩ := h
          obtain ⟨hpl, hlen⟩ := ckEs_plain h3
          obtain ⟨e1, rfl⟩ : ∃ e1, es = [e1] := by
            match es, hlen with
            | [e1], _ => exact ⟨e1, rfl⟩
          simp only [ckEs, Bool.and_eq_true, Bool.and_true] at h3
          have pe1 := (ckE_ok L A e1 o h3.1).val
          refine .plain (PE_imp (pe_bits pe1 (base_ok h2) hl) fun σ H Q q => ?_) rfl (fun ⟨_, _, _, z⟩ => by cases z)
          obtain ⟨g, st, rfl, r0, sl, q⟩ := q
          have e0 : semE (run T k) (.bi .bitlen [e1]) st = bnd (semE (run T k) e1 st) fun d => Iv.ask fun h => biD h .bitlen [d] := by
            funext h0
            simp only [semE, semEs, bnd, ret]
            cases semE (run T k) e1 st h0 with
            | none => rfl
            | some p => rfl
          have q' : Ok X.K g (semE (run T k) (.bi .bitlen [e1]) st) fun g' d => ∀ v, Rep X.K g' d v → Q v g'.H := q
          rw [e0] at q'
          refine tE_use r0 sl q'.bnd fun g' d v r' x' p hv => ?_
          obtain ⟨d2, e2, p2⟩ := p.ask
          have fin := Ok.ret r' p2
          cases d <;> simp only [biD, Option.some.injEq] at e2 <;> first | (cases e2; done) | skip
          cases e2
          exact ⟨_, rep_int.mp hv, fin _ (rep_int.mpr rfl)⟩
        · split at h
          · rename_i n hbt
            split at h
            · rename_i m xs ks hx
              obtain ⟨q, p, rfl⟩ := asCall_eq hx
              simp only [Bool.and_eq_true, decide_eq_true_eq] at h
              obtain ⟨⟨⟨rfl, h1⟩, h2⟩, h3⟩ := h
              obtain ⟨hok, hgl, hm⟩ := isBlt_ok L A h1
              have hks : ks = [] := by simpa using h2
              subst hks
              obtain ⟨id, r, hv, hr, hq⟩ := pe_bt (X := X) hbt
              obtain ⟨hpl, hlen⟩ := ckEs_plain h3
              cases xs with
              | nil =>
                have : es = [] := List.length_eq_zero_iff.mp hlen
                subst this
                refine .plain ⟨fun pins s σ H Q I q => ?_⟩ rfl (fun ⟨_, _, _, z⟩ => by cases z)
                obtain ⟨g, st, rfl, r0, sl, q⟩ := q
                have q' := Ok.ret r0 (Ok.bnd q)
                obtain ⟨d, e1, _⟩ := Ok.ask q'
                exact absurd e1 (by cases b <;> simp [biD])
              | cons y ys =>
                simp only [List.all_cons, Bool.and_eq_true] at hpl
                refine .plain (PE_imp (pe_callTy hr hgl hm hv (ckEs_ok L A es (y :: ys) h3) (okN_n hok) (okN_d hok) (star_cons hpl.1) (plain_back hpl.2)) fun σ H Q q => ?_) rfl (fun ⟨_, _, _, z⟩ => by cases z)
                obtain ⟨g, st, rfl, r0, sl, q⟩ := q
                refine tA_use r0 sl q.bnd fun g' ds vs r' x' p hv => ?_
                obtain ⟨d, e1, p2⟩ := p.ask
                exact hq g' ds d vs Q e1 r' hv fun w' H' v r2 x2 hv2 => Ok.ret' p2 r2 x2 v hv2
            · cases h
          · cases h
  | .slice bl bh a lo hi, x, h => by
    simp only [ckE] at h
    split at h
    · rename_i y l u hx
      obtain ⟨p, q, rfl⟩ := asSlice_eq hx
      simp only [Bool.and_eq_true] at h
      have hl := part_ok (T := T) (k := k) l lo bl (ckE_ok L A lo) (by cases l <;> simp_all)
      have hu := part_ok (T := T) (k := k) u hi bh (ckE_ok L A hi) (by cases u <;> simp_all)
      refine .plain (PE_imp (pe_slice (sl_str.or sl_tupA) (ckE_ok L A a y h.1.1).val hl hu) fun σ H Q q => ?_) rfl (fun ⟨_, _, _, z⟩ => by cases z)
      obtain ⟨g, s, rfl, r0, sl, q⟩ := q
      refine tE_use r0 sl q.bnd fun g' d v r' x' p hv => ?_
      refine ⟨g', s, rfl, r', sl.ext r0 x', p.bnd.mono fun g2 o r2 x2 p2 => ?_⟩
      refine ⟨g2, s, rfl, r2, (sl.ext r0 x').ext r' x2, p2.bnd.mono fun g3 o2 r3 x3 p3 => ?_⟩
      obtain ⟨d2, e1, p4⟩ := p3.opt
      have hv3 := Rep.ext r2 x3 d (Rep.ext r' x2 d hv)
      cases d <;> simp only [sliD] at e1 <;> first | (cases e1; done) | skip
      · rename_i z
        split at e1
        · rename_i hz
          cases e1
          exact .inl ⟨z, rep_str.mp hv3, by rw [sizeMax_eq]; exact hz, Ok.ret r3 p4 _ (rep_str.mpr rfl)⟩
        · cases e1
      · rename_i ds
        cases e1
        obtain ⟨pa, xs, rfl, hq, rs⟩ := rep_tup.mp hv3
        refine .inr ⟨pa, xs, rfl, hq, fun hw => ?_, fun hw b hb => ?_⟩
        · have e2 : cutD ds o o2 = ds := by
            unfold cutD
            rw [rs.length, hw.1, hw.2]
            simp [← rs.length]
          rw [e2] at p4
          exact Ok.ret r3 p4 _ hv3
        · obtain ⟨x4, r4⟩ := Ext.lay (o := .tup (cutV xs o o2)) r3 hb
          exact Ok.ret' p4 r4 x4 _ (rep_tup.mpr ⟨b, _, rfl, .of upd_same, Reps.ext r3 x4 _ (cut_rep rs)⟩)
    · cases h
  | .kidx n tab a, x, h => by
    simp only [ckE] at h
    split at h
    · rename_i l r hx
      split at h
      · rename_i m hm
        obtain ⟨p, rfl⟩ := asSub_eq hx
        obtain ⟨pn, rfl⟩ := asName_eq hm
        simp only [Bool.and_eq_true, decide_eq_true_eq, List.any_eq_true, List.all_eq_true, Bool.not_eq_true'] at h
        obtain ⟨⟨⟨⟨⟨rfl, h1⟩, h2⟩, ⟨kn, kt⟩, hk, hkn, htab⟩, h4⟩, h5⟩ := h
        have hkn' : kn = m := hkn
        subst hkn'
        obtain ⟨ad, hmg, _, _, hent⟩ := L.kd _ hk
        refine .plain (PE_imp (pe_ix ix_kdict (pe_glob (gl_at A h2) hmg (v := V.ref ad) rfl (okN_d h1)) (ckE_ok L A a r h4).val (plainIx_ok h5)) fun σ H Q q => ?_) rfl (fun ⟨_, _, _, z⟩ => by cases z)
        obtain ⟨g, s, rfl, r0, sl, q⟩ := q
        show tE X.K (semE (run T k) a) σ g.H fun y H2 => rIxD X.K X.w (.ref ad) y H2 Q
        refine tE_use r0 sl q.bnd fun g' d v r' x' p hv => ?_
        obtain ⟨d2, e1, p2⟩ := p.opt
        cases d <;> simp only [kidxD] at e1 <;> first | (cases e1; done) | skip
        rename_i z
        obtain ⟨⟨z', d3⟩, hq', hz, hd⟩ := htab (z, d2) (PySem.mem_of_lookup e1)
        have hz' : z = z' := hz
        subst hz'
        have e3 := D.beq_eq hd
        subst e3
        obtain ⟨v2, hkd, hrep⟩ := hent _ hq'
        exact ⟨ad, z, v2, rfl, rep_str.mp hv, hkd, Ok.ret r' p2 _ (hrep g')⟩
      · cases h
    · cases h
  | .kget n tab a, x, h => by
    simp only [ckE] at h
    split at h
    · rename_i m r hx
      obtain ⟨p1, q, p, rfl, hline⟩ := asGet_eq hx
      simp only [Bool.and_eq_true, decide_eq_true_eq, List.any_eq_true, List.all_eq_true] at h
      obtain ⟨⟨⟨⟨⟨rfl, h1⟩, h2⟩, ⟨kn, kt⟩, hk, hkn, htab⟩, h4⟩, h5⟩ := h
      have hkn' : kn = m := hkn
      subst hkn'
      obtain ⟨ad, hmg, hsys, ⟨es0, n0, hl0, hk0⟩, hent⟩ := L.kd _ hk
      refine .plain (PE_imp (pe_kget hsys hl0 hk0 (pe_glob (gl_at A h2) hmg (v := V.ref ad) rfl (okN_d h1)) (ckE_ok L A a r h4).val ⟨base_ok rfl, by rw [star_cons h5]; rfl, hline, by rw [star_cons h5]; rfl⟩) fun σ H Q q => ?_) rfl (fun ⟨_, _, _, z⟩ => by cases z)
      obtain ⟨g, s, rfl, r0, sl, q⟩ := q
      refine tE_use r0 sl q.bnd fun g' d v r' x' p hv => ?_
      obtain ⟨d2, e1, p2⟩ := p.opt
      cases d <;> simp only [kidxD] at e1 <;> first | (cases e1; done) | skip
      rename_i z
      obtain ⟨⟨z', d3⟩, hq', hz, hd⟩ := htab (z, d2) (PySem.mem_of_lookup e1)
      have hz' : z = z' := hz
      subst hz'
      have e3 := D.beq_eq hd
      subst e3
      obtain ⟨v2, hkd, hrep⟩ := hent _ hq'
      exact ⟨z, v2, rep_str.mp hv, hkd, Ok.ret r' p2 _ (hrep g')⟩
    · cases h
  | .dnew t, x, h => by
    simp only [ckE] at h
    obtain ⟨p, rfl⟩ := asEmptyD_eq h
    refine .plain (PE_imp (pe_dnew t L.hw L.hp) fun σ H Q q => ?_) rfl (fun ⟨_, _, _, z⟩ => by cases z)
    obtain ⟨g, s, rfl, r0, sl, q⟩ := q
    intro a o ha hdc
    obtain ⟨d, h', e, fin⟩ := q
    simp only [semE, Option.some.injEq, Prod.mk.injEq] at e
    obtain ⟨rfl, rfl⟩ := e
    obtain ⟨x2, r2⟩ := Ext.lay (o := o) r0 ha
    obtain ⟨x3, r3⟩ := Ext.layT (o := o) r0 ha
    have nt : ¬ g.w.T a := fun t => by
      obtain ⟨o, z⟩ := r0.dom a t
      rw [ha] at z; cases z
    obtain ⟨w', x4, r4, e4⟩ := Ext.trackD x2 r2 ha nt hdc r3 (Reps.nil) (Reps.nil) rfl rfl
    exact fin w' _ r4 x4 _ (rep_ref.mpr ⟨by simp, by rw [show w'.ι g.h.length = a from e4]⟩)
  | .dfin t, x, h => by
    simp only [ckE] at h
    obtain ⟨p, rfl⟩ := asEmptyD_eq h
    refine .plain (PE_imp (pe_dnew t L.hw L.hp) fun σ H Q q => ?_) rfl (fun ⟨_, _, _, z⟩ => by cases z)
    obtain ⟨g, s, rfl, r0, sl, q⟩ := q
    intro a o ha hdc
    obtain ⟨x2, r2⟩ := Ext.lay (o := o) r0 ha
    refine Ok.ret' q r2 x2 _ (rep_dct.mpr ⟨a, [], [], rfl, hdc, fun t => ?_, Reps.nil, Reps.nil⟩)
    obtain ⟨o, z⟩ := r0.dom a t
    rw [ha] at z; cases z
  | .bad, x, h => by
    have no : ∀ {g : G} {P : G → D → Prop} {s : St}, ¬ Ok X.K g (semE (run T k) .bad s) P := fun h => Ok.bad h
    have noB : ∀ {g : G} {P : G → Bool → Prop} {s : St}, ¬ Ok X.K g (semB (run T k) .bad s) P := fun h => no h.bnd
    refine ⟨⟨fun pins s σ H Q I q => ?_⟩, fun _ => ⟨fun pins s σ H Q I q => ?_⟩, fun _ _ => ⟨fun wh pins s σ H Q I q => ?_⟩⟩
    · obtain ⟨g, st, rfl, r0, sl, q⟩ := q
      exact (no q).elim
    · obtain ⟨g, st, rfl, r0, sl, q⟩ := q
      exact (noB q).elim
    · obtain ⟨g, st, rfl, r0, sl, q⟩ := q
      exact (noB q).elim
termination_by e _ _ => sizeOf e
theorem ckEs_ok {X : Cx} {sc : Scope} (L : Lk X tx T k) (A : At X tx sc) : ∀ (es : List E) (xs : List Expr), ckEs tx sc es xs = true → PA X xs (tA X.K (semEs (run T k) es))
  | [], [], _ => PA_imp pa_nil fun σ H Q q => by
    obtain ⟨g, s, rfl, r0, sl, q⟩ := q
    exact Ok.ret r0 q _ Reps.nil
  | [], x :: xs, h => by simp [ckEs] at h
  | e :: es, [], h => by simp [ckEs] at h
  | e :: es, x :: xs, h => by
    simp only [ckEs, Bool.and_eq_true] at h
    refine PA_imp (pa_cons (ckE_ok L A e x h.1.1).val (ckEs_ok L A es xs h.2) (star_cons h.1.2)) fun σ H Q q => ?_
    obtain ⟨g, s, rfl, r0, sl, q⟩ := q
    refine tE_use r0 sl q.bnd fun g' d v r' x' p hv => ?_
    refine tA_use r' (sl.ext r0 x') p.bnd fun g2 ds vs r2 x2 p2 hvs => ?_
    exact Ok.ret r2 p2 _ (Reps.cons (Rep.ext r' x2 d hv) hvs)
termination_by e _ _ => sizeOf e
theorem ckEks_ok {X : Cx} {sc : Scope} (L : Lk X tx T k) (A : At X tx sc) : ∀ (es : List E) (xs : List Expr) (ks : List Keyword), ckEks tx sc es xs ks = true → ∀ a b c, es = a ++ b ++ c → a.length = xs.length → b.length = ks.length →
    xs.all plainE = true ∧ PA X xs (tA X.K (semEs (run T k) a)) ∧ PK X ks (tA X.K (semEs (run T k) b))
  | es, [], [], _ => fun a b c he ha hb => by
    have ea : a = [] := List.length_eq_zero_iff.mp ha
    have eb : b = [] := List.length_eq_zero_iff.mp hb
    subst ea eb
    refine ⟨rfl, PA_imp pa_nil fun σ H Q q => ?_, PK_imp pk_nil fun σ H Q q => ?_⟩
    · obtain ⟨g, s, rfl, r0, sl, q⟩ := q
      exact Ok.ret r0 q _ Reps.nil
    · obtain ⟨g, s, rfl, r0, sl, q⟩ := q
      exact Ok.ret r0 q _ Reps.nil
  | [], x :: xs, ks, h => by simp [ckEks] at h
  | [], [], k :: ks, h => by simp [ckEks] at h
  | e :: es, x :: xs, ks, h => fun a b c he ha hb => by
    simp only [ckEks, Bool.and_eq_true] at h
    cases a with
    | nil => simp at ha
    | cons e' a =>
      simp only [List.cons_append, List.cons.injEq] at he
      obtain ⟨rfl, he⟩ := he
      obtain ⟨i1, i2, i3⟩ := ckEks_ok L A es xs ks h.2 a b c he (by simpa using ha) hb
      refine ⟨by rw [List.all_cons, h.1.2, i1]; rfl, PA_imp (pa_cons (ckE_ok L A e x h.1.1).val i2 (star_cons h.1.2)) fun σ H Q q => ?_, i3⟩
      obtain ⟨g, s, rfl, r0, sl, q⟩ := q
      refine tE_use r0 sl q.bnd fun g' d v r' x' p hv => ?_
      refine tA_use r' (sl.ext r0 x') p.bnd fun g2 ds vs r2 x2 p2 hvs => ?_
      exact Ok.ret r2 p2 _ (Reps.cons (Rep.ext r' x2 d hv) hvs)
  | e :: es, [], ⟨nm, kv, kp⟩ :: ks, h => fun a b c he ha hb => by
    simp only [ckEks, Bool.and_eq_true] at h
    have ea : a = [] := List.length_eq_zero_iff.mp ha
    subst ea
    cases b with
    | nil => simp at hb
    | cons e' b =>
      simp only [List.nil_append, List.cons_append, List.cons.injEq] at he
      obtain ⟨rfl, he⟩ := he
      obtain ⟨i1, i2, i3⟩ := ckEks_ok L A es [] ks h.2 [] b c (by simpa using he) rfl (by simpa using hb)
      refine ⟨rfl, i2, PK_imp (pk_cons (ckE_ok L A e kv h.1).val i3) fun σ H Q q => ?_⟩
      obtain ⟨g, s, rfl, r0, sl, q⟩ := q
      refine tE_use r0 sl q.bnd fun g' d v r' x' p hv => ?_
      refine tA_use r' (sl.ext r0 x') p.bnd fun g2 ds vs r2 x2 p2 hvs => ?_
      exact Ok.ret r2 p2 _ (Reps.cons (Rep.ext r' x2 d hv) hvs)
termination_by es _ _ _ => sizeOf es
theorem ckF_ok {X : Cx} {sc : Scope} (L : Lk X tx T k) (A : At X tx sc) : ∀ (f : F) (x : Expr), ckF tx sc f x = true → PE X x (tF X.K (semF (run T k) f)) ∧ plainT x = true ∧ ¬ ∃ o l p, x = .BoolOp o l p
  | .disp es, x, h => by
    simp only [ckF] at h
    split at h
    · rename_i xs hx
      obtain ⟨p, rfl⟩ := asList_eq hx
      refine ⟨PE_imp (pe_lst (ckEs_ok L A es xs h)) fun σ H Q q => ?_, rfl, fun ⟨_, _, _, z⟩ => by cases z⟩
      obtain ⟨g, s, rfl, r0, sl, q⟩ := q
      refine tA_use r0 sl q.bnd fun g' ds vs r' x' p hv => ?_
      split at p
      · rename_i hl
        refine ⟨by rw [sizeMax_eq, ← hv.length]; exact hl, fun a ha => ?_⟩
        obtain ⟨x2, r2⟩ := Ext.lay (o := .lst vs) r' ha
        obtain ⟨x3, r3⟩ := Ext.layT (o := .lst vs) r' ha
        refine Ok.ret' p r2 x2 a vs ?_ ?_ upd_same r3 (Reps.ext r' x3 ds hv)
        · cases z : g.H a with
          | none => rfl
          | some o =>
            obtain ⟨o', z'⟩ := x'.there a o z
            rw [ha] at z'; cases z'
        · intro t
          obtain ⟨o, z⟩ := r'.dom a t
          rw [ha] at z; cases z
      · exact (Ok.bad p).elim
    · cases h
  | .cat a b, x, h => by
    simp only [ckF] at h
    split at h
    · rename_i l o r hx
      obtain ⟨p, rfl⟩ := asBin_eq hx
      simp only [Bool.and_eq_true, decide_eq_true_eq] at h
      obtain ⟨⟨rfl, h1⟩, h2⟩ := h
      refine ⟨PE_imp (pe_op op_catL (ckE_ok L A a l h1).val (ckE_ok L A b r h2).val) fun σ H Q q => ?_, rfl, fun ⟨_, _, _, z⟩ => by cases z⟩
      obtain ⟨g, s, rfl, r0, sl, q⟩ := q
      refine tE_use r0 sl q.bnd fun g' d v r' x' p hv => ?_
      refine tE_use r' (sl.ext r0 x') p.bnd fun g2 d2 v2 r2 x2 p2 hv2 => ?_
      obtain ⟨ds, e1, p3⟩ := p2.ask
      split at e1
      · rename_i as bs ha hb
        split at e1
        · rename_i hz
          cases e1
          obtain ⟨pa, xs, rfl, hq, rs⟩ := lst_rep ha r2 (Rep.ext r' x2 d hv)
          obtain ⟨pb, ys, rfl, hq2, rs2⟩ := lst_rep hb r2 hv2
          refine ⟨pa, pb, xs, ys, rfl, rfl, hq, hq2, by rw [sizeMax_eq, ← rs.length, ← rs2.length]; exact hz, fun c hc => ?_⟩
          exact newF r0 r2 (x'.trans x2) hc p3 (rs.append rs2)
        · cases e1
      · cases e1
    · cases h
  | .slc bl bh a lo hi, x, h => by
    simp only [ckF] at h
    split at h
    · rename_i y l u hx
      obtain ⟨p, q, rfl⟩ := asSlice_eq hx
      simp only [Bool.and_eq_true] at h
      have hl := part_ok (T := T) (k := k) l lo bl (ckE_ok L A lo) (by cases l <;> simp_all)
      have hu := part_ok (T := T) (k := k) u hi bh (ckE_ok L A hi) (by cases u <;> simp_all)
      refine ⟨PE_imp (pe_slice sl_list (ckE_ok L A a y h.1.1).val hl hu) fun σ H Q q => ?_, rfl, fun ⟨_, _, _, z⟩ => by cases z⟩
      obtain ⟨g, s, rfl, r0, sl, q⟩ := q
      refine tE_use r0 sl q.bnd fun g' d v r' x' p hv => ?_
      refine ⟨g', s, rfl, r', sl.ext r0 x', p.bnd.mono fun g2 o r2 x2 p2 => ?_⟩
      refine ⟨g2, s, rfl, r2, (sl.ext r0 x').ext r' x2, p2.bnd.mono fun g3 o2 r3 x3 p3 => ?_⟩
      obtain ⟨ds, e1, p4⟩ := p3.ask
      obtain ⟨es, e2, rfl⟩ := Option.map_eq_some_iff.mp e1
      obtain ⟨pa, xs, rfl, hq, rs⟩ := lst_rep e2 r3 (Rep.ext r2 x3 d (Rep.ext r' x2 d hv))
      refine ⟨pa, xs, rfl, hq, fun c hc => ?_⟩
      exact newF r0 r3 ((x'.trans x2).trans x3) hc p4 (cut_rep rs)
    · cases h
  | .lst1 a, x, h => by
    simp only [ckF] at h
    split at h
    · rename_i n y hx
      obtain ⟨q, p, rfl⟩ := asCall_eq hx
      simp only [Bool.and_eq_true, decide_eq_true_eq] at h
      obtain ⟨⟨⟨rfl, h1⟩, h2⟩, h3⟩ := h
      obtain ⟨hok, hgl, hm⟩ := isBlt_ok L A h1
      refine ⟨PE_imp (pe_callTy call_list_of hgl hm (by decide +kernel) (pa_cons (ckE_ok L A a y h3).val pa_nil (star_cons h2)) (okN_n hok) (okN_d hok) (star_cons h2) rfl) fun σ H Q q => ?_, rfl, fun ⟨_, _, _, z⟩ => by cases z⟩
      obtain ⟨g, s, rfl, r0, sl, q⟩ := q
      refine tE_use r0 sl q.bnd fun g' d v r' x' p hv => ?_
      obtain ⟨ds, e1, p4⟩ := p.ask
      obtain ⟨pa, xs, rfl, hq, rs⟩ := seq_rep e1 r' hv
      refine ⟨pa, xs, rfl, hq, fun c hc => ?_⟩
      exact newF r0 r' x' hc p4 rs
    · cases h
  | .comp p own it ifs elt, x, h => by
    simp only [ckF] at h
    split at h
    · rename_i y tg iter cs scope hx
      obtain ⟨pp, rfl⟩ := asComp_eq hx
      simp only [Bool.and_eq_true, Bool.not_eq_true'] at h
      obtain ⟨⟨⟨⟨⟨⟨h1, h2⟩, h3⟩, h4⟩, h5⟩, h6⟩, h7⟩ := h
      have hb : BlkOk X.N X.env.scope scope (ownP tx.N own) := by rw [A.hn, A.hsc]; exact blkOk_by h1
      have hlc := pe_lc (te := tE X.K (semE (run T k) elt)) (g := tP X.K p) (tt := fun σ H Q => ∃ (g : G) (s : St), g.H = H ∧ Rel X.K g ∧ Slots X.K g s σ ∧ Ok X.K g (semIfs (run T k) ifs s) fun g' b => Q b g'.H) (wi := tI X.K (semIt (run T k) it)) (elt := y) (tg := tg) (iter := iter) (ifs := cs) (scope := scope) (pos := pp) L.calm A.nd (ckIt_ok L A tg it iter h2.2 h2.1) hb
        (fun s H C cl fp => (ckP_ok (X := X.blk s H scope (compEnvC scope cl C X.env) fp) (sc := relS scope sc) L.calm A.blk (fun n hn => by simp [hn]) p tg h4).1)
        (fun s H C cl fp => ckIfs_ok (X := X.blk s H scope (compEnvC scope cl C X.env) fp) L.blk A.blk ifs cs h6)
        (fun s H C cl fp => (ckE_ok (X := X.blk s H scope (compEnvC scope cl C X.env) fp) L.blk A.blk elt y h7).val) (fold_ok h3)
      have hslots := (ckP_ok (X := X.blk X.s_0 X.H_0 scope (compEnvC scope [] 0 X.env) []) (sc := relS scope sc) L.calm A.blk (fun n hn => by simp [hn]) p tg h4).2
      refine ⟨PE_imp hlc fun σ H Q q => ?_, rfl, fun ⟨_, _, _, z⟩ => by cases z⟩
      exact lc_use hslots q
    · cases h
termination_by e _ _ => sizeOf e
theorem ckIfs_ok {X : Cx} {sc : Scope} (L : Lk X tx T k) (A : At X tx sc) : ∀ (es : List E) (xs : List Expr), ckIfs tx sc es xs = true → PTs X xs fun σ H Q => ∃ (g : G) (s : St), g.H = H ∧ Rel X.K g ∧ Slots X.K g s σ ∧ Ok X.K g (semIfs (run T k) es s) fun g' b => Q b g'.H
  | [], [], _ => ⟨fun pins s σ H Q I q => pts_nil.run pins s σ H Q I (by
      obtain ⟨g, st, rfl, r0, sl, q⟩ := q
      exact Ok.ret r0 q)⟩
  | [], x :: xs, h => by simp [ckIfs] at h
  | [e], [x], h => by
    simp only [ckIfs, Bool.and_eq_true] at h
    exact ⟨fun pins s σ H Q I q => (pts_one ((ckE_ok L A e x h.1).tst h.2)).run pins s σ H Q I q⟩
  | [e], [], h => by simp [ckIfs] at h
  | [e], x :: y :: xs, h => by simp [ckIfs] at h
  | e :: f :: es, xs, h => by cases xs <;> simp [ckIfs] at h
termination_by e _ _ => sizeOf e
theorem ckIt_ok {X : Cx} {sc : Scope} (L : Lk X tx T k) (A : At X tx sc) (tg : Expr) : ∀ (it : It) (x : Expr), okTg it tg = true → ckIt tx sc it x = true → PI X tg x (tI X.K (semIt (run T k) it))
  | .range1 a, x, _, h => by
    simp only [ckIt] at h
    split at h
    · rename_i n y hx
      obtain ⟨q, p, rfl⟩ := asCall_eq hx
      simp only [Bool.and_eq_true, decide_eq_true_eq] at h
      obtain ⟨⟨⟨rfl, h1⟩, h2⟩, h3⟩ := h
      obtain ⟨hok, hgl, hm⟩ := isBlt_ok L A h1
      refine PI_imp (pi_range1 hgl hm (pa_cons (ckE_ok L A a y h3).val pa_nil (star_cons h2)) (star_cons h2)) fun σ H R q => ?_
      obtain ⟨g, s, rfl, r0, sl, q⟩ := q
      show tE X.K (semE (run T k) a) σ g.H _
      refine tE_use r0 sl q.bnd fun g' d v r' x' p hv => ?_
      split at p
      · rename_i i
        split at p
        · rename_i hr
          simp only [rgOk, Bool.and_eq_true, decide_eq_true_eq] at hr
          rw [rep_int.mp hv]
          exact ⟨i, rfl, hr.1, hr.2, (Ok.ret r' p).2 _ range_ok⟩
        · exact (Ok.bad p).elim
      · exact (Ok.bad p).elim
    · cases h
  | .range2 a b, x, _, h => by
    simp only [ckIt] at h
    split at h
    · rename_i n y z hx
      obtain ⟨q, p, rfl⟩ := asCall_eq hx
      simp only [Bool.and_eq_true, decide_eq_true_eq] at h
      obtain ⟨⟨⟨⟨⟨rfl, h1⟩, h2⟩, h2'⟩, h3⟩, h4⟩ := h
      obtain ⟨hok, hgl, hm⟩ := isBlt_ok L A h1
      have s2 : starEach [z] X.env = [(false, eval z X.env)] := star_cons h2'
      refine PI_imp (pi_range2 hgl hm (pa_cons (ckE_ok L A a y h3).val (pa_cons (ckE_ok L A b z h4).val pa_nil s2) (star_cons h2)) (by rw [star_cons h2, s2]) s2) fun σ H R q => ?_
      obtain ⟨g, s, rfl, r0, sl, q⟩ := q
      unfold iRng2 tCons tNil
      refine tE_use r0 sl q.bnd fun g' d v r' x' p hv => ?_
      refine tE_use r' (sl.ext r0 x') p.bnd fun g2 d2 v2 r2 x2 p2 hv2 => ?_
      split at p2
      · rename_i i j
        split at p2
        · rename_i hr
          simp only [rgOk, Bool.and_eq_true, decide_eq_true_eq] at hr
          rw [rep_int.mp hv, rep_int.mp hv2]
          exact ⟨i, j, rfl, ⟨hr.1.1, hr.1.2, hr.2.1, hr.2.2⟩, (Ok.ret r2 p2).2 _ range_ok⟩
        · exact (Ok.bad p2).elim
      · exact (Ok.bad p2).elim
    · cases h
  | .seq e, x, _, h => by
    have he := (ckE_ok L A e x h).val
    refine ⟨fun pins s σ H R I q => ?_⟩
    obtain ⟨g, st, rfl, r0, sl, q⟩ := q
    obtain ⟨d, h1, e1, q2⟩ := q.bnd
    have hsq : ∃ ds, seqOf h1 d = some ds := by
      obtain ⟨p, h2, e2, _⟩ := q
      simp only [semIt, bnd, e1, Iv.ask] at e2
      cases z : seqOf h1 d with
      | none => rw [z] at e2; cases e2
      | some ds => exact ⟨ds, rfl⟩
    have fin : ∀ {tup : Bool} (g' : G) (p : List D × Option Nat) (xs : List V) (a : Addr), Rel X.K g' → Ok X.K g' (ret p) (fun g' p => Stands p g'.h ∧ ∀ J, ItOk X.K g' p J → R J g'.H) → ItOk X.K g' p (if tup = true then Itt X.K a else Itl X.K a) →
        R (if tup = true then Itt X.K a else Itl X.K a) g'.H := fun g' p xs a r' o hi => (Ok.ret r' o).2 _ hi
    cases d with
    | tup ds =>
      refine (pi_tup (tg := tg) he).run pins s σ g.H R I ?_
      refine ⟨g, st, rfl, r0, sl, .tup ds, h1, e1, fun w' H' r' x' v hv => ?_⟩
      have p := q2 w' H' r' x'
      obtain ⟨ds', e2, p⟩ := (show Ok X.K _ (bnd (Iv.ask fun h => seqOf h (.tup ds)) fun ds => ret (ds, none)) _ from p).bnd.ask
      simp only [seqOf, Option.some.injEq] at e2
      subst e2
      have p := Ok.ret r' p
      obtain ⟨a, xs, rfl, hq, rs⟩ := rep_tup.mp hv
      refine ⟨a, rfl, ⟨xs, hq⟩, fin (tup := true) _ _ xs a r' p (seq_it (tup := true) fun g' r2 x2 _ => ⟨xs, x2.tup r' hq, Reps.ext r' x2 ds rs⟩)⟩
    | lst ds =>
      refine (pi_list (tg := tg) he).run pins s σ g.H R I ?_
      refine ⟨g, st, rfl, r0, sl, .lst ds, h1, e1, fun w' H' r' x' v hv => ?_⟩
      have p := q2 w' H' r' x'
      obtain ⟨ds', e2, p⟩ := (show Ok X.K _ (bnd (Iv.ask fun h => seqOf h (.lst ds)) fun ds => ret (ds, none)) _ from p).bnd.ask
      simp only [seqOf, Option.some.injEq] at e2
      subst e2
      have p := Ok.ret r' p
      obtain ⟨a, xs, rfl, hq, rs⟩ := rep_lst.mp hv
      have toL : ∀ {g : G}, SqR X.K g a xs → SqL X.K g.H a xs := fun h => h.elim (fun z => .inl z.1) .inr
      refine ⟨a, rfl, ⟨xs, toL hq⟩, fin (tup := false) _ _ xs a r' p (seq_it (tup := false) fun g' r2 x2 _ => ⟨xs, toL (x2.sqr r' hq), Reps.ext r' x2 ds rs⟩)⟩
    | ref n =>
      refine (pi_list (tg := tg) he).run pins s σ g.H R I ?_
      refine ⟨g, st, rfl, r0, sl, .ref n, h1, e1, fun w' H' r' x' v hv => ?_⟩
      have p := q2 w' H' r' x'
      obtain ⟨ds', e2, p⟩ := (show Ok X.K _ (bnd (Iv.ask fun h => seqOf h (.ref n)) fun ds => ret (ds, some n)) _ from p).bnd.ask
      have p := Ok.ret r' p
      obtain ⟨hn, rfl⟩ := rep_ref.mp hv
      simp only [seqOf] at e2
      split at e2
      · rename_i es hes
        cases e2
        obtain ⟨_, xs, hx, rs⟩ := r'.obj n _ hes
        refine ⟨_, rfl, ⟨xs, .of hx⟩, fin (tup := false) _ _ xs _ r' p (seq_it (tup := false) fun g' r2 x2 st2 => ?_)⟩
        obtain ⟨_, ys, hy, rs2⟩ := r2.obj n _ st2
        refine ⟨ys, ?_, rs2⟩
        have e3 := x2.ids n hn
        rw [e3] at hy
        exact .of hy
      · cases e2
    | _ => obtain ⟨ds, e⟩ := hsq; simp [seqOf] at e
  | .enumS n a, x, ht, h => by
    simp only [ckIt] at h
    split at h
    · rename_i y j hx
      obtain ⟨p, ck, cp, kp, q, rfl⟩ := asEnumS_eq hx
      simp only [Bool.and_eq_true, decide_eq_true_eq] at h
      obtain ⟨⟨⟨⟨rfl, h0⟩, h1⟩, h2⟩, h3⟩ := h
      obtain ⟨ts, hts⟩ := Option.isSome_iff_exists.mp (show (asTuple tg).isSome = true from ht)
      obtain ⟨kk, tp, rfl⟩ := asTuple_eq hts
      obtain ⟨hok, hgl, hm⟩ := isBlt_ok L A h1
      refine PI_imp (pi_enumS (by omega) hgl hm (pa_cons (ckE_ok L A a y h3).val pa_nil (star_cons h2)) (star_cons h2)) fun σ H R q => ?_
      obtain ⟨g, s, rfl, r0, sl, q⟩ := q
      unfold iEnumS tCons tNil
      refine tE_use r0 sl q.bnd fun g' d v r' x' p hv => ?_
      obtain ⟨ds, e1, p3⟩ := p.optb
      cases d <;> simp only [enumD] at e1 <;> first | (cases e1; done) | skip
      cases e1
      rw [rep_str.mp hv]
      exact ⟨_, rfl, (Ok.ret r' p3).2 _ enum_it⟩
    · cases h
  | .zipS a b, x, ht, h => by
    simp only [ckIt] at h
    split at h
    · rename_i y z hx
      obtain ⟨p, ck, cp, kp, q, rfl⟩ := asZipS_eq hx
      simp only [Bool.and_eq_true] at h
      obtain ⟨⟨⟨⟨h1, h2⟩, h3⟩, h4⟩, h5⟩ := h
      obtain ⟨ts, hts⟩ := Option.isSome_iff_exists.mp (show (asTuple tg).isSome = true from ht)
      obtain ⟨kk, tp, rfl⟩ := asTuple_eq hts
      obtain ⟨hok, hgl, hm⟩ := isBlt_ok L A h1
      have s2 : starEach [z] X.env = [(false, eval z X.env)] := star_cons h3
      refine PI_imp (pi_zipS hgl hm (pa_cons (ckE_ok L A a y h4).val (pa_cons (ckE_ok L A b z h5).val pa_nil s2) (star_cons h2)) (by rw [star_cons h2, s2])) fun σ H R q => ?_
      obtain ⟨g, s, rfl, r0, sl, q⟩ := q
      unfold iZipS tCons tNil
      refine tE_use r0 sl q.bnd fun g' d v r' x' p hv => ?_
      refine tE_use r' (sl.ext r0 x') p.bnd fun g2 d2 v2 r2 x2 p2 hv2 => ?_
      obtain ⟨ds, e1, p3⟩ := p2.optb
      cases d <;> cases d2 <;> simp only [zipD] at e1 <;> first | (cases e1; done) | skip
      rename_i es w
      split at e1
      · rename_i hc
        cases e1
        obtain ⟨pa, xs, rfl, hq, rs⟩ := rep_tup.mp (Rep.ext r' x2 _ hv)
        rw [rep_str.mp hv2]
        exact ⟨pa, xs, w, rfl, hq, hc.1, (Ok.ret r2 p3).2 _ (zip_it r2 hq rs hc.2)⟩
      · cases e1
    · cases h
termination_by e _ _ _ => sizeOf e
end
end
/-- name = [..]: the list, then the store -/
theorem setC_ok [Wd] {X : Cx} {tx : Tx} {sc : Scope} {T : List Fn} {k i : Nat} {n : Str} {py sp pos : Pos} (L : Lk X tx T k) (A : At X tx sc) {p : Pt} {own : List Nat} {it : It} {ifs : List E} {elt : E} {y tg iter : Expr} {cs : List Expr} {scope : Scope}
    (hn : X.N[i]? = some n) (hl : X.env.scope.names.lookup n = some .local) (hsw : swapsWith (.ListComp y [⟨tg, iter, cs, 0⟩] scope pos) (some (.Name n py)) sp.line X.env = pure true)
    (h : ckF tx sc (.comp p own it ifs elt) (.ListComp y [⟨tg, iter, cs, 0⟩] scope pos) = true) :
    PS X (.Assign [.Name n py] (.ListComp y [⟨tg, iter, cs, 0⟩] scope pos) sp) (tAsg (tF X.K (semF (run T k) (.comp p own it ifs elt))) (gName i)) := by
  simp only [ckF, asComp, Bool.and_eq_true, Bool.not_eq_true'] at h
  obtain ⟨⟨⟨⟨⟨⟨h1, h2⟩, h3⟩, h4⟩, h5⟩, h6⟩, h7⟩ := h
  have hb : BlkOk X.N X.env.scope scope (ownP tx.N own) := by rw [A.hn, A.hsc]; exact blkOk_by h1
  have hlc := ps_setLc (i := i) (y := n) (py := py) (spos := sp) (te := tE X.K (semE (run T k) elt)) (g := tP X.K p) (tt := fun σ H Q => ∃ (g : G) (s : St), g.H = H ∧ Rel X.K g ∧ Slots X.K g s σ ∧ Ok X.K g (semIfs (run T k) ifs s) fun g' b => Q b g'.H) (wi := tI X.K (semIt (run T k) it)) (elt := y) (tg := tg) (iter := iter) (ifs := cs) (scope := scope) (pos := pos) L.calm A.nd hn hl hsw (ckIt_ok L A tg it iter h2.2 h2.1) hb
    (fun s H C cl fp => (ckP_ok (X := X.blk s H scope (compEnvC scope cl C X.env) fp) (sc := relS scope sc) L.calm A.blk (fun n hn => by simp [hn]) p tg h4).1)
    (fun s H C cl fp => ckIfs_ok (X := X.blk s H scope (compEnvC scope cl C X.env) fp) L.blk A.blk ifs cs h6)
    (fun s H C cl fp => (ckE_ok (X := X.blk s H scope (compEnvC scope cl C X.env) fp) L.blk A.blk elt y h7).val) (fold_ok h3)
  have hslots := (ckP_ok (X := X.blk X.s_0 X.H_0 scope (compEnvC scope [] 0 X.env) []) (sc := relS scope sc) L.calm A.blk (fun n hn => by simp [hn]) p tg h4).2
  exact ⟨fun pins s σ H D I q => hlc.run pins s σ H D I (lc_use hslots q)⟩
end Iv

set_option maxHeartbeats 4000000
/-! SndS: statements. -/
namespace Iv
open PySem L2 PySem.Spec PyProof.Rows

/-! ### looking at the text -/
def asAssign : Stmt → Option (Expr × Expr)
  | .Assign [t] e _ => some (t, e)
  | _ => none
theorem asAssign_eq {s : Stmt} {t e : Expr} (h : asAssign s = some (t, e)) : ∃ p, s = .Assign [t] e p := by
  unfold asAssign at h
  split at h
  · simp at h
    obtain ⟨rfl, rfl⟩ := h; exact ⟨_, rfl⟩
  · cases h
def asAug : Stmt → Option (Str × Operator × Expr)
  | .AugAssign (.Name x _) o e _ => some (x, o, e)
  | _ => none
theorem asAug_eq {s : Stmt} {x : Str} {o : Operator} {e : Expr} (h : asAug s = some (x, o, e)) : ∃ q p, s = .AugAssign (.Name x q) o e p := by
  unfold asAug at h
  split at h
  · simp at h
    obtain ⟨rfl, rfl, rfl⟩ := h; exact ⟨_, _, rfl⟩
  · cases h
def asExpr : Stmt → Option Expr
  | .Expr e _ => some e
  | _ => none
theorem asExpr_eq {s : Stmt} {e : Expr} (h : asExpr s = some e) : ∃ p, s = .Expr e p := by
  cases s <;> simp [asExpr] at h
  subst h; exact ⟨_, rfl⟩
def asRet : Stmt → Option (Option Expr)
  | .Return e _ => some e
  | _ => none
theorem asRet_eq {s : Stmt} {e : Option Expr} (h : asRet s = some e) : ∃ p, s = .Return e p := by
  cases s <;> simp [asRet] at h
  subst h; exact ⟨_, rfl⟩
def asIfS : Stmt → Option (Expr × List Stmt × List Stmt)
  | .If c a b _ => some (c, a, b)
  | _ => none
theorem asIfS_eq {s : Stmt} {c : Expr} {a b : List Stmt} (h : asIfS s = some (c, a, b)) : ∃ p, s = .If c a b p := by
  cases s <;> simp [asIfS] at h
  obtain ⟨rfl, rfl, rfl⟩ := h; exact ⟨_, rfl⟩
def asFor : Stmt → Option (Expr × Expr × List Stmt)
  | .For t i b [] _ => some (t, i, b)
  | _ => none
theorem asFor_eq {s : Stmt} {t i : Expr} {b : List Stmt} (h : asFor s = some (t, i, b)) : ∃ p, s = .For t i b [] p := by
  unfold asFor at h
  split at h
  · simp at h
    obtain ⟨rfl, rfl, rfl⟩ := h; exact ⟨_, rfl⟩
  · cases h
def asWhile : Stmt → Option (Expr × List Stmt)
  | .While c b [] _ => some (c, b)
  | _ => none
theorem asWhile_eq {s : Stmt} {c : Expr} {b : List Stmt} (h : asWhile s = some (c, b)) : ∃ p, s = .While c b [] p := by
  unfold asWhile at h
  split at h
  · simp at h
    obtain ⟨rfl, rfl⟩ := h; exact ⟨_, rfl⟩
  · cases h
/-- o.append(e) on one line -/
def asApp : Stmt → Option (Expr × Expr)
  | .Expr (.Call (.Attribute o m q) [e] [] p) _ => if (m == ("append" : Str)) && (q.endLine == p.line) then some (o, e) else none
  | _ => none
theorem asApp_eq {s : Stmt} {o e : Expr} (h : asApp s = some (o, e)) : ∃ q p p2, s = .Expr (.Call (.Attribute o "append" q) [e] [] p) p2 ∧ (q.endLine == p.line) = true := by
  unfold asApp at h
  split at h
  · split at h
    · rename_i o' m q e' p p2 hl
      simp only [Bool.and_eq_true] at hl
      have hm : m = "append" := by simpa using hl.1
      subst hm
      simp at h
      obtain ⟨rfl, rfl⟩ := h; exact ⟨_, _, _, rfl, hl.2⟩
    · cases h
  · cases h
/-- x = [..] in one row -/
def asSetC : Stmt → Option (Str × Pos × Expr × Expr × Expr × List Expr × Scope × Pos × Pos)
  | .Assign [.Name y py] (.ListComp elt [⟨tg, iter, ifs, 0⟩] scope pos) sp => some (y, py, elt, tg, iter, ifs, scope, pos, sp)
  | _ => none
theorem asSetC_eq {s : Stmt} {y : Str} {py pos sp : Pos} {elt tg iter : Expr} {ifs : List Expr} {scope : Scope} (h : asSetC s = some (y, py, elt, tg, iter, ifs, scope, pos, sp)) : s = .Assign [.Name y py] (.ListComp elt [⟨tg, iter, ifs, 0⟩] scope pos) sp := by
  unfold asSetC at h
  split at h
  · simp at h
    obtain ⟨rfl, rfl, rfl, rfl, rfl, rfl, rfl, rfl, rfl⟩ := h; rfl
  · cases h
/-- x = dict(y); x[k] = v -/
def asDext : Stmt → Stmt → Option (Str × Str × Expr × Str × Expr × Expr)
  | .Assign [.Name n _] (.Call (.Name b _) [x] [] _) _, .Assign [.Subscript (.Name m _) k _] v _ => some (n, b, x, m, k, v)
  | _, _ => none
theorem asDext_eq {s1 s2 : Stmt} {n b m : Str} {x k v : Expr} (h : asDext s1 s2 = some (n, b, x, m, k, v)) : ∃ p1 p2 p3 p4 p5 p6 p7, s1 = .Assign [.Name n p1] (.Call (.Name b p2) [x] [] p3) p4 ∧ s2 = .Assign [.Subscript (.Name m p5) k p6] v p7 := by
  unfold asDext at h
  split at h
  · simp at h
    obtain ⟨rfl, rfl, rfl, rfl, rfl, rfl⟩ := h
    exact ⟨_, _, _, _, _, _, _, rfl, rfl⟩
  · cases h
def asPass : Stmt → Bool
  | .Pass _ => true
  | _ => false
theorem asPass_eq {s : Stmt} (h : asPass s = true) : ∃ p, s = .Pass p := by
  cases s <;> simp [asPass] at h
  exact ⟨_, rfl⟩
def isComp : Expr → Bool
  | .ListComp _ _ _ _ => true
  | .SetComp _ _ _ _ => true
  | .DictComp _ _ _ _ _ => true
  | _ => false
theorem swaps_ok {e : Expr} {t : Option Expr} {l : Nat} {env : Env} (h : isComp e = false) : swapsWith e t l env = pure false := by
  cases e <;> first | rfl | simp [isComp] at h
theorem swapsS_ok {e t : Expr} {l : Nat} {env : Env} (h : isComp e = false) : swapsWithSole [t] e l env = pure false := swaps_ok h
/-- a comprehension isn't stored by its own rule there -/
def plainSwap (sc : Scope) (t e : Expr) : Bool := !isComp e || match t with
  | .Name n _ => decide (sc.names.lookup n ≠ some .local)
  | _ => true
theorem plainSwap_ok {sc : Scope} {t e : Expr} {l : Nat} {env : Env} (hs : env.scope = sc) (h : plainSwap sc t e = true) : swapsWithSole [t] e l env = pure false := by
  unfold plainSwap at h
  by_cases hc : isComp e = true
  · simp only [hc, Bool.not_true, Bool.false_or] at h
    show swapsWith e (some t) l env = pure false
    cases t with
    | Name n p =>
      simp only [decide_eq_true_eq] at h
      have hk : (env.kindOf n == some NameKind.local) = false := by
        unfold Env.kindOf
        rw [hs]
        cases z : sc.names.lookup n with
        | none => rfl
        | some k =>
          rw [z] at h
          cases k <;> first | rfl | exact absurd rfl h
      unfold swapsWith
      cases e <;> first | rfl | (simp only [hk, Bool.and_false, Bool.false_and]; done) | (simp only [hk, Bool.and_false, Bool.false_and]; rfl)
    | _ => cases e <;> rfl
  · exact swapsS_ok (by simpa using hc)
/-- no two names that are exchanged -/
def noSwap (t e : Expr) : Bool := match asTuple t, asTuple e with
  | some ts, some _ => !(ts.length == 2 || ts.length == 3) || ts.any fun x => (asName x).isNone
  | _, _ => match t with
    | .List _ _ => false
    | _ => true
theorem filter_lt {ts : List Expr} {f : Expr → Option Str} (hf : ∀ x, asName x = none → f x = none) (h : (ts.any fun x => (asName x).isNone) = true) : (ts.filterMap f).length < ts.length := by
  induction ts with
  | nil => simp at h
  | cons x ts ih =>
    rw [List.any_cons, Bool.or_eq_true] at h
    have le : (ts.filterMap f).length ≤ ts.length := List.length_filterMap_le f ts
    rcases h with h | h
    · have : f x = none := hf x (by simpa using h)
      rw [List.filterMap_cons, this]
      exact Nat.lt_succ_of_le le
    · have q := ih h
      rw [List.filterMap_cons]
      split
      · exact Nat.lt_succ_of_lt q
      · simp only [List.length_cons]; omega
theorem noSwap_ok {t e : Expr} {env : Env} (h : noSwap t e = true) : swappedStores [t] e env = pure none := by
  unfold noSwap at h
  unfold swappedStores
  split at h
  · rename_i ts vs ht he
    obtain ⟨k, p, rfl⟩ := asTuple_eq ht
    obtain ⟨k', p', rfl⟩ := asTuple_eq he
    simp only [Bool.or_eq_true, Bool.not_eq_true'] at h
    show (if (!(ts.length == 2 || ts.length == 3) || vs.length != ts.length || env.blockKind != .function) = true then (pure none : Sem (Option (List Str))) else _) = _
    by_cases c1 : (!(ts.length == 2 || ts.length == 3) || vs.length != ts.length || env.blockKind != .function) = true
    · rw [if_pos c1]
    · rw [if_neg c1]
      rcases h with h | h
      · exfalso
        apply c1
        rw [h]; rfl
      · split
        · rfl
        · have lt := filter_lt (ts := ts) (f := fun x => match x with
            | .Name id pos => if env.kindOf id == some .local && pos.line == (ts.head?.map (·.pos.line)).getD 0 then some id else none
            | _ => none) (fun x hx => by cases x <;> first | rfl | simp [asName] at hx) h
          refine if_pos ?_
          rw [Bool.or_eq_true]
          exact .inl (bne_iff_ne.mpr (Nat.ne_of_lt lt))
  · rename_i hn
    split at h
    · cases h
    · rename_i hl
      cases t <;> first | rfl | skip
      · rename_i es p
        exact absurd rfl (hl es p)
      · rename_i ts k p
        cases e <;> first | rfl | skip
        rename_i vs k' p'
        exact absurd rfl (hn ts vs rfl)
theorem assign_sub {o i : Expr} {p : Pos} {env : Env} (h : isSlice i = false) (v : Value) : assign (.Subscript o i p) env v = (do
      let ov ← holding [v] (eval o env)
      let iv ← holding [v, ov] (eval i env)
      standAt p
      holding [v, ov, iv] (PySem.setItem ov iv v)
      release [v, ov, iv] []) := by
  cases i <;> first | rfl | simp [isSlice] at h
/-! ### the checker -/
section
variable (tx : Tx) (sc : Scope) [Wd]
mutual
def ckT : Tg → Expr → Bool
  | .nm i, x => match asName x with
    | some n => decide (tx.N[i]? = some n) && locB sc n && okN n
    | none => false
  | .tup ts, x => match asTuple x with
    | some xs => ckTs ts xs
    | none => false
  | .sub a i, x => match asSub x with
    | some (l, r) => ckE tx sc a l && ckE tx sc i r && !isSlice r
    | none => false
def ckTs : List Tg → List Expr → Bool
  | [], [] => true
  | t :: ts, x :: xs => ckT t x && !isStar x && ckTs ts xs
  | _, _ => false
end
mutual
def ckS : S → Stmt → Bool
  | .asg t e, s => match asAssign s with
    | some (y, x) => ckT tx sc t y && ckE tx sc e x && plainSwap sc y x && noSwap y x && !isStar y
    | none => false
  | .aug i op e, s => match asAug s with
    | some (n, o, x) => decide (tx.N[i]? = some n) && locB sc n && okN n && (decide (op = .add) && decide (o = .Add) || decide (op = .sub) && decide (o = .Sub)) && ckE tx sc e x
    | none => false
  | .expr e, s => match asExpr s with
    | some x => ckE tx sc e x && !isComp x
    | none => false
  | .ret e, s => match asRet s with
    | some (some x) => ckE tx sc e x
    | _ => false
  | .retN, s => match asRet s with
    | some none => true
    | _ => false
  | .ite t a b, s => match asIfS s with
    | some (c, y, z) => ckE tx sc t c && tstB t && ckSs a y && ckSs b z
    | none => false
  | .for t it body, s => match asFor s with
    | some (y, i, b) => ckT tx sc t y && (ckIt tx sc it i && okTg it y) && ckSs body b && !isSet i
    | none => false
  | .while t body, s => match asWhile s with
    | some (c, b) => ckE tx sc t c && tstB t && ckSs body b
    | none => false
  | .pass, s => asPass s
  | .app a e, s => match asApp s with
    | some (o, x) => ckE tx sc a o && ckE tx sc e x && plainE o && plainE x
    | none => false
  | .setF al i (.comp p own it ifs elt), s => match asSetC s with
    | some (y, py, elt', tg, iter, cs, scope, pos, sp) => decide (tx.N[i]? = some y) && decide (sc.names.lookup y = some .local) && decide (sc.kind = .function) && (py.line == pos.line) && !(scope.names.any fun (n, k) => n == y && (k == .local || k == .cell)) && ckF tx sc (.comp p own it ifs elt) (.ListComp elt' [⟨tg, iter, cs, 0⟩] scope pos)
    | none => false
  | .setF _ _ _, _ => false
  | .dext _ _ _ _, _ => false
  | .bad, _ => true
def ckSs : List S → List Stmt → Bool
  | [], [] => true
  | .dext i a k v :: cs, s1 :: s2 :: ss => (match asDext s1 s2 with
    | some (n, b, x, m, ky, vl) => decide (tx.N[i]? = some n) && locB sc n && okN n && isBlt tx sc b && decide (b = "dict") && decide (m = n) && visB sc n && ckE tx sc a x && plainE x && ckE tx sc k ky && ckE tx sc v vl && !isSlice ky && plainSwap sc (.Name n default) vl && !isComp vl
    | none => false) && ckSs cs ss
  | c :: cs, s :: ss => ckS c s && ckSs cs ss
  | _, _ => false
end
end

/-! ### readings -/
section
variable (K : PySem.W.Frag) [Wd]
def tG (m : D → St → M St) : TG := fun v σ H Q => ∃ (g : G) (s : St) (d : D), g.H = H ∧ Rel K g ∧ Slots K g s σ ∧ Rep K g d v ∧ Ok K g (m d s) fun g' s' => ∀ σ', Slots K g' s' σ' → Q σ' g'.H
def tGs (m : List D → St → M St) : TGs := fun vs σ H Q => ∃ (g : G) (s : St) (ds : List D), g.H = H ∧ Rel K g ∧ Slots K g s σ ∧ Reps K g ds vs ∧ Ok K g (m ds s) fun g' s' => ∀ σ', Slots K g' s' σ' → Q σ' g'.H
def FlP (D : Ends) (g : G) : Fl → Prop
  | .nx s => ∀ σ, Slots K g s σ → D.nx σ g.H
  | .rt d => ∀ v, Rep K g d v → D.rt v g.H
def tS (m : St → M Fl) : TS := fun D σ H => ∃ (g : G) (s : St), g.H = H ∧ Rel K g ∧ Slots K g s σ ∧ Ok K g (m s) fun g' f => FlP K D g' f
end
/-- where one stands, for statements -/
structure AtS (X : Cx) (tx : Tx) (sc : Scope) : Prop where
  toAt : At X tx sc
  xe : X.xe = fun _ _ => False
  cell : ∀ x, sc.names.lookup x = some .cell → X.fn x = true
section
variable {X : Cx} {tx : Tx} {sc : Scope} {T : List Fn} {k : Nat} {K : PySem.W.Frag} {g : G} {s : St} {σ : L2.St} {H : Hp} [Wd]
theorem PS_imp {st : Stmt} {t t' : TS} (h : PS X st t) (i : ∀ D σ H, t' D σ H → t D σ H) : PS X st t' := ⟨fun pins s σ H D I q => h.run pins s σ H D I (i D σ H q)⟩
theorem PSs_imp {st : List Stmt} {t t' : TS} (h : PSs X st t) (i : ∀ D σ H, t' D σ H → t D σ H) : PSs X st t' := ⟨fun pins s σ H D I q => h.run pins s σ H D I (i D σ H q)⟩
theorem fn_at (A : AtS X tx sc) {n : Str} (h : locB sc n = true) : X.fn n = true ∨ X.env.scope.names.lookup n = some .local := by
  rcases locB_ok h with q | q
  · exact .inr (by rw [A.toAt.hsc]; exact q)
  · exact .inl (A.cell n q)
theorem loc_at (A : AtS X tx sc) {n : Str} (h : locB sc n = true) : L2.Loc X.env.scope n := by rw [A.toAt.hsc]; exact locB_ok h

/-- the heap's object n changed -/
theorem Ext.storeO (r : Rel K g) {n : Nat} {o0 o : AO} {u : HO} (hn : g.h[n]? = some o0) (hob : Ext g ⟨g.w, g.h.set n o, upd g.H (g.w.ι n) u⟩ → Obj1 K ⟨g.w, g.h.set n o, upd g.H (g.w.ι n) u⟩ n o) :
    Ext g ⟨g.w, g.h.set n o, upd g.H (g.w.ι n) u⟩ ∧ Rel K ⟨g.w, g.h.set n o, upd g.H (g.w.ι n) u⟩ := by
  have hlt : n < g.h.length := (List.getElem?_eq_some_iff.mp hn).1
  have img : Img g (g.w.ι n) := ⟨n, _, hn, rfl⟩
  have imgs : ∀ a, Img ⟨g.w, g.h.set n o, upd g.H (g.w.ι n) u⟩ a → Img g a := by
    rintro a ⟨m, o', h1, h2⟩
    have hm : m < (g.h.set n o).length := (List.getElem?_eq_some_iff.mp h1).1
    rw [List.length_set] at hm
    exact ⟨m, _, List.getElem?_eq_getElem hm, h2⟩
  have x : Ext g ⟨g.w, g.h.set n o, upd g.H (g.w.ι n) u⟩ := by
    refine ⟨by simp, fun _ _ => rfl, fun a o' e ni => ?_, fun a o' e => ?_, fun a t => .inl t, fun a t => t, fun a i => .inl (imgs a i)⟩
    · show upd g.H (g.w.ι n) u a = some o'
      rw [upd_ne (fun z => ni (by rw [z]; exact img))]
      exact e
    · by_cases z : a = g.w.ι n
      · subst z
        exact ⟨_, upd_same⟩
      · exact ⟨o', by show upd g.H (g.w.ι n) u a = some o'; rw [upd_ne z]; exact e⟩
  refine ⟨x, fun a i => r.img a (imgs a i), fun m p hm hp e => r.inj m p (by simpa using hm) (by simpa using hp) e, fun m o' hm => ?_, fun a t => ?_⟩
  · have hm1 : (g.h.set n o)[m]? = some o' := hm
    by_cases z : n = m
    · subst z
      rw [List.getElem?_set_self hlt] at hm1
      cases hm1
      exact hob x
    · rw [List.getElem?_set_ne z] at hm1
      refine (r.obj m o' hm1).carry rfl (fun ho e _ => ?_) (fun b a e => x.ownK r e) fun ds xs _ q => Reps.ext r x ds q
      show upd g.H (g.w.ι n) u (g.w.ι m) = some ho
      rw [upd_ne (fun e' => z (r.inj n m hlt (List.getElem?_eq_some_iff.mp hm1).1 e'.symm))]
      exact e
  · obtain ⟨o', e⟩ := r.dom a t
    exact x.there a o' e
theorem Ext.store (r : Rel K g) {n : Nat} {ds es : List D} {ys : List V} (hn : g.h[n]? = some (.lst ds)) (hr : D.rfs es = true) (rs : Reps K g es ys) :
    Ext g ⟨g.w, g.h.set n (.lst es), upd g.H (g.w.ι n) (.lst ys)⟩ ∧ Rel K ⟨g.w, g.h.set n (.lst es), upd g.H (g.w.ι n) (.lst ys)⟩ :=
  Ext.storeO r hn fun x => ⟨hr, ys, upd_same, Reps.ext r x es rs⟩
theorem Ext.storeD (r : Rel K g) {n : Nat} {t : Bool} {ks vs ks' vs' : List D} {kxs ys : List V} {u : HO} (hn : g.h[n]? = some (.dct t ks vs)) (hk : D.rfs ks' = true) (hr : D.rfs vs' = true) (hd : DctH (upd g.H (g.w.ι n) u) (g.w.ι n) t ks' kxs ys) (rk : Reps K g ks' kxs) (rs : Reps K g vs' ys) :
    Ext g ⟨g.w, g.h.set n (.dct t ks' vs'), upd g.H (g.w.ι n) u⟩ ∧ Rel K ⟨g.w, g.h.set n (.dct t ks' vs'), upd g.H (g.w.ι n) u⟩ :=
  Ext.storeO r hn fun x => ⟨⟨hk, hr⟩, kxs, ys, hd, Reps.ext r x ks' rk, Reps.ext r x vs' rs⟩
theorem rfs_dputK {t : Bool} {ks : List D} {k : D} (h : D.rfs ks = true) (hk : D.rf k = true) : D.rfs (dputK t ks k) = true := by
  unfold dputK
  split
  · exact h
  · rw [D.rfs_append, h]; simp [D.rfs, hk]
theorem rfs_dputV {t : Bool} {ks vs : List D} {k v : D} (h : D.rfs vs = true) (hv : D.rf v = true) : D.rfs (dputV t ks vs k v) = true := by
  unfold dputV
  split
  · rw [D.rfs_all] at h ⊢
    rw [List.all_eq_true] at h ⊢
    intro x hx
    obtain ⟨i, hi, e⟩ := List.mem_iff_getElem.mp hx
    rw [List.getElem_zipWith] at e
    rw [← e]
    split
    · exact hv
    · exact h _ (List.getElem_mem _)
  · rw [D.rfs_append, h]; simp [D.rfs, hv]
theorem PG_or {e : Expr} {t t' : TG} (h : PG X e t) (h' : PG X e t') : PG X e (fun v σ H Q => t v σ H Q ∨ t' v σ H Q) := ⟨fun pins s σ H v u Q I r q => by
  rcases q with q | q
  · exact h.run pins s σ H v u Q I r q
  · exact h'.run pins s σ H v u Q I r q⟩
theorem PSet_or {t t' : TSet} (h : PSet X t) (h' : PSet X t') : PSet X (fun o i v H Q => t o i v H Q ∨ t' o i v H Q) := fun pins s σ H o i v ov iv u Q I ro ri rv q => by
  rcases q with q | q
  · exact h pins s σ H o i v ov iv u Q I ro ri rv q
  · exact h' pins s σ H o i v ov iv u Q I ro ri rv q
mutual
theorem ckT_ok (L : Lk X tx T k) (A : AtS X tx sc) : ∀ (t : Tg) (x : Expr), ckT tx sc t x = true → PG X x (tG X.K (semT (run T k) t))
  | .nm i, x, h => by
    simp only [ckT] at h
    split at h
    · rename_i n hn
      obtain ⟨p, rfl⟩ := asName_eq hn
      simp only [Bool.and_eq_true, decide_eq_true_eq] at h
      refine PG_imp (pg_name (i := i) A.toAt.nd (by rw [A.toAt.hn]; exact h.1.1) (loc_at A h.1.2) (fn_at A h.1.2)) fun v σ H Q q => ?_
      obtain ⟨g, s, d, rfl, r, sl, hv, q⟩ := q
      have q' : Ok X.K g (if i < s.length then ret (s.set i (some d)) else bad) fun g' s' => ∀ σ', Slots X.K g' s' σ' → Q σ' g'.H := q
      split at q'
      · exact Ok.ret r q' _ (sl.set hv)
      · exact (Ok.bad q').elim
    · cases h
  | .tup ts, x, h => by
    simp only [ckT] at h
    split at h
    · rename_i xs hx
      obtain ⟨k0, p, rfl⟩ := asTuple_eq hx
      have hs := ckTs_ok L A ts xs h
      obtain ⟨l1, l2⟩ := assignEach_len (env := X.env) hs.2.1
      refine PG_imp (PG_or (pg_tup (n := xs.length) L.calm hs.1 l1 l2) (pg_unl (n := xs.length) L.calm hs.1 l1 l2)) fun v σ H Q q => ?_
      obtain ⟨g, s, d, rfl, r, sl, hv, q⟩ := q
      cases d with
      | tup ds =>
        obtain ⟨a, ys, rfl, hq, rs⟩ := rep_tup.mp hv
        have q' : Ok X.K g (semTs (run T k) ts ds s) fun g' s' => ∀ σ', Slots X.K g' s' σ' → Q σ' g'.H := q
        refine .inl ⟨a, ys, rfl, hq, ?_, g, s, ds, rfl, r, sl, rs, q'⟩
        rw [← rs.length, ← hs.2.2]
        obtain ⟨s', h', e, _⟩ := q'
        exact semTs_len e
      | lst ds =>
        obtain ⟨a, ys, rfl, hq, rs⟩ := rep_lst.mp hv
        have q' : Ok X.K g (semTs (run T k) ts ds s) fun g' s' => ∀ σ', Slots X.K g' s' σ' → Q σ' g'.H := q
        refine .inr ⟨a, ys, rfl, hq.elim (fun z => .inl z.1) .inr, ?_, g, s, ds, rfl, r, sl, rs, q'⟩
        rw [← rs.length, ← hs.2.2]
        obtain ⟨s', h', e, _⟩ := q'
        exact semTs_len e
      | _ => exact (Ok.bad (show Ok X.K g Iv.bad _ from q)).elim
    · cases h
  | .sub a i, x, h => by
    simp only [ckT] at h
    split at h
    · rename_i l r hx
      obtain ⟨p, rfl⟩ := asSub_eq hx
      simp only [Bool.and_eq_true, Bool.not_eq_true'] at h
      refine PG_imp (pg_sub (ckE_ok L A.toAt a l h.1.1).val (ckE_ok L A.toAt i r h.1.2).val (PSet_or set_list (set_dct L.hw L.hp L.room.units)) (assign_sub h.2)) fun v σ H Q q => ?_
      obtain ⟨g, s, d, rfl, r0, sl, hv, q⟩ := q
      have q' : Ok X.K g (bnd (semE (run T k) a s) fun o => bnd (semE (run T k) i s) fun k0 => bnd (setItem o k0 d) fun _ => ret s) fun g' s' => ∀ σ', Slots X.K g' s' σ' → Q σ' g'.H := q
      refine tE_use r0 sl q'.bnd fun g1 o vo r1 x1 p1 ho => ?_
      refine tE_use r1 (sl.ext r0 x1) p1.bnd fun g2 j vj r2 x2 p2 hj => ?_
      have hd : Rep X.K g2 d v := Rep.ext r1 x2 d (Rep.ext r0 x1 d hv)
      have ho2 := Rep.ext r1 x2 o ho
      obtain ⟨s', h', e, fin⟩ := p2
      have e' : bnd (setItem o j d) (fun _ => ret s) g2.h = some (s', h') := e
      unfold bnd at e'
      split at e'
      · rename_i u h1 e1
        simp only [ret, Option.some.injEq, Prod.mk.injEq] at e'
        obtain ⟨rfl, rfl⟩ := e'
        unfold setItem at e1
        split at e1
        · rename_i n
          split at e1
          · rename_i ds hds
            split at e1
            · rename_i jj
              split at e1
              · rename_i kk hk
                split at e1
                · rename_i hrf
                  simp only [Option.some.injEq, Prod.mk.injEq] at e1
                  obtain ⟨_, rfl⟩ := e1
                  obtain ⟨_, rfl⟩ := rep_ref.mp ho2
                  obtain ⟨hrs, xs, hx1, rs⟩ := r2.obj n _ hds
                  have hrs2 : D.rfs (ds.set kk d) = true := by
                    rw [D.rfs_all] at hrs ⊢
                    rw [List.all_eq_true] at hrs ⊢
                    intro z hz
                    rcases List.mem_or_eq_of_mem_set hz with hz | rfl
                    · exact hrs z hz
                    · exact hrf
                  obtain ⟨x3, r3⟩ := Ext.store r2 hds hrs2 (Reps.set hd kk rs)
                  refine .inl ⟨_, xs, jj, kk, rfl, rep_int.mp hj, hx1, by rw [← rs.length]; exact hk, ?_⟩
                  exact fin _ _ r3 x3 σ ((((sl.ext r0 x1).ext r1 x2)).ext r2 x3)
                · cases e1
              · cases e1
            · cases e1
          · rename_i t ks vs hds
            split at e1
            · rename_i hc
              simp only [Option.some.injEq, Prod.mk.injEq] at e1
              obtain ⟨_, rfl⟩ := e1
              obtain ⟨_, rfl⟩ := rep_ref.mp ho2
              obtain ⟨⟨hrk, hrs⟩, kxs, ys, hx1, rk, rs⟩ := r2.obj n _ hds
              refine .inr ⟨g2, _, t, ks, vs, kxs, ys, j, d, rfl, rfl, hx1, rk, rs, hj, hd, hc.1.1, hc.1.2, fun o' kxs' ys' _ hdc rk' rs' => ?_⟩
              obtain ⟨x3, r3⟩ := Ext.storeD r2 hds (rfs_dputK hrk hc.2.2) (rfs_dputV hrs hc.2.1) hdc rk' rs'
              exact fin _ _ r3 x3 σ ((((sl.ext r0 x1).ext r1 x2)).ext r2 x3)
            · cases e1
          · cases e1
        · cases e1
      · cases e'
    · cases h
theorem ckTs_ok (L : Lk X tx T k) (A : AtS X tx sc) : ∀ (ts : List Tg) (xs : List Expr), ckTs tx sc ts xs = true → PGs X xs (tGs X.K (semTs (run T k) ts)) ∧ (xs.all fun e => !isStar e) = true ∧ ts.length = xs.length
  | [], [], _ => ⟨PGs_imp pgs_nil fun vs σ H Q q => by
      obtain ⟨g, s, ds, rfl, r, sl, rs, q⟩ := q
      cases ds with
      | nil =>
        simp only [Reps] at rs
        exact ⟨rs, Ok.ret r q σ sl⟩
      | cons d ds => exact (Ok.bad q).elim, rfl, rfl⟩
  | [], x :: xs, h => by simp [ckTs] at h
  | t :: ts, [], h => by simp [ckTs] at h
  | t :: ts, x :: xs, h => by
    simp only [ckTs, Bool.and_eq_true, Bool.not_eq_true'] at h
    obtain ⟨i1, i2, i3⟩ := ckTs_ok L A ts xs h.2
    refine ⟨PGs_imp (pgs_cons (ckT_ok L A t x h.1.1) i1 (by rw [assignEach_cons h.1.2]; rfl)) fun vs σ H Q q => ?_, by rw [List.all_cons, h.1.2, i2]; rfl, by simp [i3]⟩
    obtain ⟨g, s, ds, rfl, r, sl, rs, q⟩ := q
    cases ds with
    | nil => exact (Ok.bad q).elim
    | cons d ds =>
      simp only [Reps] at rs
      obtain ⟨y, ys, rfl, hd, rs⟩ := rs
      refine ⟨y, ys, rfl, g, s, d, rfl, r, sl, hd, ?_⟩
      have q' : Ok X.K g (bnd (semT (run T k) t d s) fun s' => semTs (run T k) ts ds s') fun g' s' => ∀ σ', Slots X.K g' s' σ' → Q σ' g'.H := q
      exact q'.bnd.mono fun g1 s1 r1 x1 p σ1 sl1 => ⟨g1, s1, ds, rfl, r1, sl1, Reps.ext r x1 ds rs, p⟩
theorem semTs_len {C : Cal} : ∀ {ts : List Tg} {ds : List D} {s s' : St} {h h' : AH}, semTs C ts ds s h = some (s', h') → ds.length = ts.length
  | [], [], _, _, _, _, _ => rfl
  | [], d :: ds, _, _, _, _, e => by simp [semTs, bad] at e
  | t :: ts, [], _, _, _, _, e => by simp [semTs, bad] at e
  | t :: ts, d :: ds, s, s', h, h', e => by
    simp only [semTs, bnd] at e
    split at e
    · simp [semTs_len e]
    · cases e
end
theorem Slots.setNone {i : Nat} {v : V} (h : Slots K g s σ) : Slots K g (s.set i none) (σ.set i (some v)) := by
  refine ⟨by simp [h.len], fun j e hj => ?_⟩
  by_cases z : i = j
  · subst z
    by_cases hl : i < s.length
    · rw [List.getElem?_set_self hl] at hj
      cases hj
    · rw [List.getElem?_eq_none (by simpa using hl)] at hj
      cases hj
  · rw [List.getElem?_set_ne z] at hj
    obtain ⟨u, e1, p⟩ := h.get j e hj
    exact ⟨u, by rw [List.getElem?_set_ne z]; exact e1, p⟩
theorem Slots.over {i : Nat} {d : D} {v u : V} (h : Slots K g (s.set i none) (σ.set i (some u))) (q : Rep K g d v) (e : u = v) : Slots K g (s.set i (some d)) (σ.set i (some u)) := by
  subst e
  have z := h.set (i := i) q
  rwa [List.set_set, List.set_set] at z
/-- x = dict(y); x[k] = v: the dict is read only from then on -/
theorem dext_ok (L : Lk X tx T k) (A : AtS X tx sc) {i : Nat} {a kk v : E} {cs : List S} {s1 s2 : Stmt} {ss : List Stmt}
    (h : (match asDext s1 s2 with
    | some (n, b, x, m, ky, vl) => decide (tx.N[i]? = some n) && locB sc n && okN n && isBlt tx sc b && decide (b = "dict") && decide (m = n) && visB sc n && ckE tx sc a x && plainE x && ckE tx sc kk ky && ckE tx sc v vl && !isSlice ky && plainSwap sc (.Name n default) vl && !isComp vl
    | none => false) = true) (hr : PSs X ss (tS X.K (semSs (run T k) cs))) : PSs X (s1 :: s2 :: ss) (tS X.K (semSs (run T k) (.dext i a kk v :: cs))) := by
  split at h
  · rename_i n b x m ky vl hx
    obtain ⟨p1, p2, p3, p4, p5, p6, p7, rfl, rfl⟩ := asDext_eq hx
    simp only [Bool.and_eq_true, decide_eq_true_eq, Bool.not_eq_true'] at h
    obtain ⟨⟨⟨⟨⟨⟨⟨⟨⟨⟨⟨⟨⟨h1, h2⟩, h3⟩, h4⟩, rfl⟩, rfl⟩, h5⟩, h6⟩, h7⟩, h8⟩, h9⟩, h10⟩, h11⟩, h12⟩ := h
    obtain ⟨hok, hgl, hm⟩ := isBlt_ok L A.toAt h4
    have hN : X.N[i]? = some m := by rw [A.toAt.hn]; exact h1
    have hlen : ∀ {σ : L2.St} {s : St} {g : G}, Slots X.K g s σ → i < s.length → i < σ.length := fun sl hi => by rw [← sl.len]; exact hi
    refine PSs_imp (pss_cons (ps_asg (pe_callTy call_dictD hgl hm (by decide +kernel) (pa_cons (ckE_ok L A.toAt a x h6).val pa_nil (star_cons h7)) (okN_n hok) (okN_d hok) (star_cons h7) rfl)
        (pg_name (i := i) A.toAt.nd hN (loc_at A h2) (fn_at A h2)) (swapsS_ok rfl) (noSwap_ok rfl) rfl)
      (pss_cons (ps_asg (ckE_ok L A.toAt v vl h9).val (pg_sub (pe_var (i := i) hN (vis_at A.toAt h5) (okN_d h3) (okN_c h3)) (ckE_ok L A.toAt kk ky h8).val (set_dct L.hw L.hp L.room.units) (assign_sub h10)) (swapsS_ok h12) (noSwap_ok rfl) rfl) hr)) fun D σ H q => ?_
    obtain ⟨g, s, rfl, r0, sl, q⟩ := q
    have q' : Ok X.K g (bnd (semS (run T k) (.dext i a kk v) s) fun f => match f with
      | .rt r => ret (.rt r)
      | .nx s' => semSs (run T k) cs s') (FlP X.K D) := q
    have q2 := q'.bnd
    refine tE_use r0 sl (show Ok X.K g (bnd (semE (run T k) a s) _) _ from q2).bnd fun g1 d1 vx r1 x1 p1 hv => ?_
    obtain ⟨⟨t, ks, vs⟩, e1, p1⟩ := p1.askb
    obtain ⟨f, hF, eF, finF⟩ := p1
    obtain ⟨a', kxs, ys, rfl, hdc, rk, rs⟩ := dct_rep e1 r1 hv
    have cond : i < s.length ∧ t = false := by
      by_cases hc : i < s.length ∧ t = false
      · exact hc
      · simp only [bnd, if_neg hc, bad] at eF
        cases eF
    obtain ⟨hi, rfl⟩ := cond
    simp only [bnd, hi, and_self, true_and, eq_self, if_true, ret] at eF
    split at eF
    · rename_i y h2' ey
      split at eF
      · rename_i z h3' ez
        by_cases hc : keyOk false z = true ∧ ks.length < sizeMax
        · rw [if_pos hc] at eF
          simp only [ret, Option.some.injEq, Prod.mk.injEq] at eF
          obtain ⟨rfl, rfl⟩ := eF
          obtain ⟨kvs, c1, c2, c3, c4⟩ := hdc
          refine ⟨a', kvs, rfl, c1, fun p hp => ?_⟩
          obtain ⟨x1m, r1m⟩ := Ext.layT (o := .dK kvs) r1 hp
          have slA := ((sl.ext r0 x1).ext r1 x1m)
          have nI1 : ¬ Img (G.mark ⟨g1.w, g1.h, upd g1.H p (.dK kvs)⟩ p) p := by
            rintro ⟨nn, o, z1, z2⟩
            obtain ⟨ho, z3, _⟩ := r1.imgHas (a := p) ⟨nn, o, z1, z2⟩
            rw [hp] at z3; cases z3
          refine ⟨G.mark ⟨g1.w, g1.h, upd g1.H p (.dK kvs)⟩ p, s.set i none, rfl, r1m, slA.setNone, y, h2', ey, fun w2 H2 r2 x2 vy hy => ?_⟩
          have hp2 := x2.keep p _ upd_same nI1
          have nI2 : ¬ Img ⟨w2, h2', H2⟩ p := fun zz => (x2.inew p zz).elim nI1 fun z3 => by
            rw [show (G.mark ⟨g1.w, g1.h, upd g1.H p (.dK kvs)⟩ p).H p = some (.dK kvs) from upd_same] at z3
            cases z3
          have slB := slA.setNone (i := i) (v := V.ref p)
          have slC := slB.ext r1m x2
          refine ⟨.ref p, List.getElem?_set_self (hlen sl hi), ?_⟩
          refine ⟨⟨w2, h2', H2⟩, s.set i none, rfl, r2, slC, z, h3', ez, fun w3 H3 r3 x3 vz hz => ?_⟩
          have hp3 := x3.keep p _ hp2 nI2
          have nI3 : ¬ Img ⟨w3, h3', H3⟩ p := fun zz => (x3.inew p zz).elim nI2 fun z3 => by
            rw [hp2] at z3
            cases z3
          have hT3 : w3.T p := x3.told p (x2.told p (.inr rfl))
          have xall : Ext g1 ⟨w3, h3', H3⟩ := (x1m.trans x2).trans x3
          refine ⟨⟨w3, h3', H3⟩, p, false, ks, vs, kxs, ys, z, y, rfl, rfl, ⟨kvs, hp3, c2, c3, c4⟩, Reps.ext r1 xall ks rk, Reps.ext r1 xall vs rs, hz, Rep.ext r2 x3 y hy, hc.1, hc.2, fun o' kxs' ys' hO hdc' rk' rs' => ?_⟩
          have r4 : Rel X.K ⟨w3, h3', upd H3 p o'⟩ := r3.updT hp3 hT3 rfl nI3
          have x4 : Ext g1 ⟨w3, h3', upd H3 p o'⟩ := Ext.updN xall hp
          have nI4 : ¬ Img ⟨w3, h3', upd H3 p o'⟩ p := nI3
          obtain ⟨w', r5, x5, hT5, em, r6⟩ := unmark r1 r4 nI4 hT3 x4 hp
          have hTw : ∀ b, w'.T b → w3.T b := fun b hb => by
            have e0 : (G.mark ⟨w', h3', upd H3 p o'⟩ p).w.T b := .inl hb
            have em' : G.mark ⟨w', h3', upd H3 p o'⟩ p = ⟨w3, h3', upd H3 p o'⟩ := em
            rw [em'] at e0
            exact e0
          have hι : w'.ι = w3.ι := by
            have em' : G.mark ⟨w', h3', upd H3 p o'⟩ p = ⟨w3, h3', upd H3 p o'⟩ := em
            exact congrArg (fun gg : G => gg.w.ι) em'
          have rep : Rep X.K ⟨w', h3', upd H3 p o'⟩ (.dct false (dputK false ks z) (dputV false ks vs z y)) (.ref p) :=
            rep_dct.mpr ⟨p, kxs', ys', rfl, hdc', hT5, Reps.weak hι hTw _ (Reps.updT hp3 hT3 rfl _ rk'), Reps.weak hι hTw _ (Reps.updT hp3 hT3 rfl _ rs')⟩
          refine ⟨⟨w', h3', upd H3 p o'⟩, _, rfl, r5, ((sl.ext r0 x1).ext r1 x5).set rep, ?_⟩
          exact finF w' _ r5 x5
        · rw [if_neg hc] at eF
          cases eF
      · cases eF
    · cases eF
  · cases h
theorem ckSs_cons {c : S} {cs : List S} {st : Stmt} {ss : List Stmt} (h : ckSs tx sc (c :: cs) (st :: ss) = true) : (ckS tx sc c st = true ∧ ckSs tx sc cs ss = true) ∨ ∃ i a k v s2 ss', c = .dext i a k v ∧ ss = s2 :: ss' ∧ (match asDext st s2 with
    | some (n, b, x, m, ky, vl) => decide (tx.N[i]? = some n) && locB sc n && okN n && isBlt tx sc b && decide (b = "dict") && decide (m = n) && visB sc n && ckE tx sc a x && plainE x && ckE tx sc k ky && ckE tx sc v vl && !isSlice ky && plainSwap sc (.Name n default) vl && !isComp vl
    | none => false) = true ∧ ckSs tx sc cs ss' = true := by
  cases c <;> first | (simp only [ckSs, Bool.and_eq_true] at h; exact .inl h) | skip
  rename_i i a k v
  cases ss with
  | nil => simp [ckSs, ckS] at h
  | cons s2 ss' =>
    unfold ckSs at h
    rw [Bool.and_eq_true] at h
    exact .inr ⟨i, a, k, v, s2, ss', rfl, rfl, h.1, h.2⟩
/-! statements -/
theorem forL_ok {D0 : Ends} {g0 : G} {p : List D × Option Nat} {J : L2.It} (hJ : ItOk K g0 p J) {tg : D → St → M St} {body : St → M Fl} {bS : TS} (hb : ∀ D σ H, tS K body D σ H → bS D σ H)
    {s0 : St} {σ0 : L2.St} {P : Ends → Prop} (r0 : Rel K g0) (sl0 : Slots K g0 s0 σ0) (st0 : Stands p g0.h)
    (h : Ok K g0 (forL p.1 p.2 (fun d s' => bnd (tg d s') fun s'' => body s'') p.1 s0) (FlP K D0)) :
    ∃ W : Nat → Nat → L2.St → Hp → Prop, (∃ m, W 0 m σ0 g0.H) ∧ ∀ i m σ H, W i m σ H →
      (J.stop i H ∧ D0.nx σ H) ∨ (J.go i H ∧ ∃ N : L2.St → Hp → Prop, (∀ σ' H', N σ' H' → ∃ m', m' < m ∧ W (i + 1) m' σ' H') ∧ ∀ x H', J.yld i H x H' → tG K tg x σ H' fun σ2 H2 => bS { D0 with nx := N, ct := N, bk := D0.nx } σ2 H2) := by
  refine ⟨fun i m σ H => m = p.1.length - i ∧ i ≤ p.1.length ∧ ∃ (g : G) (s : St), g.H = H ∧ Rel K g ∧ Ext g0 g ∧ Slots K g s σ ∧ Stands p g.h ∧ Ok K g (forL p.1 p.2 (fun d s' => bnd (tg d s') fun s'' => body s'') (p.1.drop i) s) (FlP K D0),
    ⟨p.1.length, by simp, Nat.zero_le _, g0, s0, rfl, r0, .refl g0, sl0, st0, h⟩, ?_⟩
  rintro i m σ H ⟨rfl, hi, g, s, rfl, r, x, sl, st, q⟩
  obtain ⟨j1, j2⟩ := hJ g r x st i
  by_cases hlt : i < p.1.length
  · have ed : p.1[i]? = some p.1[i] := List.getElem?_eq_getElem hlt
    obtain ⟨go, yl⟩ := j1 _ ed
    rw [List.drop_eq_getElem_cons hlt] at q
    have q' : Ok K g (bnd (bnd (tg p.1[i] s) fun s'' => body s'') fun f => match f with
      | .rt r => ret (.rt r)
      | .nx s' => bnd (stands p.1 p.2) fun _ => forL p.1 p.2 (fun d s' => bnd (tg d s') fun s'' => body s'') (p.1.drop (i + 1)) s') (FlP K D0) := q
    refine .inr ⟨go, fun σ' H' => ∃ (g2 : G) (s2 : St), g2.H = H' ∧ Rel K g2 ∧ Ext g0 g2 ∧ Slots K g2 s2 σ' ∧ Ok K g2 (bnd (stands p.1 p.2) fun _ => forL p.1 p.2 (fun d s' => bnd (tg d s') fun s'' => body s'') (p.1.drop (i + 1)) s2) (FlP K D0), ?_, ?_⟩
    · rintro σ' H' ⟨g2, s2, rfl, r2, x2, sl2, q2⟩
      refine ⟨p.1.length - (i + 1), by omega, rfl, hlt, g2, s2, rfl, r2, x2, sl2, ?_⟩
      obtain ⟨f, h2, e, fin⟩ := q2
      simp only [bnd] at e
      split at e
      · rename_i u h1 e1
        unfold stands at e1
        have hp' : p.2 = none ∨ ∃ n, p.2 = some n := by cases p.2 <;> simp
        rcases hp' with hp | ⟨n, hp⟩
        · rw [hp] at e1
          simp only [Option.some.injEq, Prod.mk.injEq] at e1
          obtain ⟨_, rfl⟩ := e1
          exact ⟨by unfold Stands; rw [hp]; trivial, f, h2, e, fin⟩
        · rw [hp] at e1
          dsimp only at e1
          split at e1
          · rename_i es hes
            split at e1
            · rename_i hbq
              simp only [Option.some.injEq, Prod.mk.injEq] at e1
              obtain ⟨_, rfl⟩ := e1
              exact ⟨by unfold Stands; rw [hp]; rw [← D.beqs_eq hbq]; exact hes, f, h2, e, fin⟩
            · cases e1
          · cases e1
      · cases e
    · intro y H' hy
      obtain ⟨w', r', x', hd⟩ := yl y H' hy
      refine ⟨⟨w', g.h, H'⟩, s, p.1[i], rfl, r', sl.ext r x', hd, ?_⟩
      have q2 : Ok K ⟨w', g.h, H'⟩ (bnd (bnd (tg p.1[i] s) fun s'' => body s'') fun f => match f with
        | .rt r => ret (.rt r)
        | .nx s' => bnd (stands p.1 p.2) fun _ => forL p.1 p.2 (fun d s' => bnd (tg d s') fun s'' => body s'') (p.1.drop (i + 1)) s') (FlP K D0) := by
        obtain ⟨f, h2, e, fin⟩ := q'
        exact ⟨f, h2, e, fun w2 H2 r2 x2 => fin w2 H2 r2 (x'.trans x2)⟩
      refine q2.bnd.bnd.mono fun g3 s3 r3 x3 q3 σ3 sl3 => hb _ _ _ ?_
      refine ⟨g3, s3, rfl, r3, sl3, q3.mono fun g4 f r4 x4 q4 => ?_⟩
      cases f with
      | rt d =>
        have z : FlP K D0 g4 (.rt d) := Ok.ret r4 q4
        exact z
      | nx s4 =>
        intro σ4 sl4
        exact ⟨g4, s4, rfl, r4, ((x.trans x').trans x3).trans x4, sl4, q4⟩
  · have hz : p.1.drop i = [] := List.drop_eq_nil_of_le (by omega)
    rw [hz] at q
    exact .inl ⟨j2 (by omega), Ok.ret r q σ sl⟩
theorem whileW_some {test : St → M Bool} {body : St → M Fl} {s : St} {h : AH} {r : Fl × AH} (e : whileW test body s h = some r) : ∃ n, whileN test body n s h = some r := by
  unfold whileW at e
  split at e
  · rename_i ex
    refine ⟨Classical.choose ex, ?_⟩
    rw [← e]
    exact Classical.choose_spec (Classical.choose_spec ex)
  · cases e
mutual
theorem ckS_ok (L : Lk X tx T k) (A : AtS X tx sc) : ∀ (c : S) (st : Stmt), ckS tx sc c st = true → PS X st (tS X.K (semS (run T k) c))
  | .asg t e, st, h => by
    simp only [ckS] at h
    split at h
    · rename_i y x hx
      obtain ⟨p, rfl⟩ := asAssign_eq hx
      simp only [Bool.and_eq_true, Bool.not_eq_true'] at h
      refine PS_imp (ps_asg (ckE_ok L A.toAt e x h.1.1.1.2).val (ckT_ok L A t y h.1.1.1.1) (plainSwap_ok A.toAt.hsc h.1.1.2) (noSwap_ok h.1.2) (by rw [assignEach_cons h.2]; rfl)) fun D σ H q => ?_
      obtain ⟨g, s, rfl, r0, sl, q⟩ := q
      refine tE_use r0 sl q.bnd fun g' d v r' x' p hv => ?_
      refine ⟨g', s, d, rfl, r', sl.ext r0 x', hv, p.bnd.mono fun g2 s2 r2 x2 p2 σ2 sl2 => ?_⟩
      exact Ok.ret r2 p2 σ2 sl2
    · cases h
  | .aug i op e, st, h => by
    simp only [ckS] at h
    split at h
    · rename_i n o x hx
      obtain ⟨q, p, rfl⟩ := asAug_eq hx
      simp only [Bool.and_eq_true, Bool.or_eq_true, decide_eq_true_eq] at h
      obtain ⟨⟨⟨⟨h1, h2⟩, h3⟩, h4⟩, h5⟩ := h
      have hr : ∃ f : Int → Int → Int, PIp X o (ipI f) ∧ ∀ a b d, augD op a b = some d → ∃ i j, a = .int i ∧ b = .int j ∧ d = .int (f i j) := by
        rcases h4 with ⟨rfl, rfl⟩ | ⟨rfl, rfl⟩
        · refine ⟨_, ip_add, fun a b d e => ?_⟩
          cases a <;> cases b <;> simp only [augD, Option.some.injEq] at e <;> first | (cases e; done) | exact ⟨_, _, rfl, rfl, e.symm⟩
        · refine ⟨_, ip_sub, fun a b d e => ?_⟩
          cases a <;> cases b <;> simp only [augD, Option.some.injEq] at e <;> first | (cases e; done) | exact ⟨_, _, rfl, rfl, e.symm⟩
      obtain ⟨f, hp, hf⟩ := hr
      refine PS_imp (ps_aug A.toAt.nd (by rw [A.toAt.hn]; exact h1) (loc_at A h2) (ckE_ok L A.toAt e x h5).val hp (fn_at A h2)) fun D σ H q => ?_
      obtain ⟨g, s, rfl, r0, sl, q⟩ := q
      obtain ⟨a, e1, q⟩ := Ok.optb q
      have e2 : s[i]? = some (some a) := by
        cases z : s[i]? with
        | none => rw [z] at e1; cases e1
        | some o => rw [z] at e1; exact congrArg some e1
      obtain ⟨v, e3, hv⟩ := sl.get i a e2
      refine ⟨v, e3, tE_use r0 sl q.bnd fun g' d w r' x' p hw => ?_⟩
      obtain ⟨z, e4, p⟩ := p.optb
      obtain ⟨ii, jj, rfl, rfl, rfl⟩ := hf a d z e4
      refine ⟨ii, jj, rep_int.mp (Rep.ext r0 x' _ hv), rep_int.mp hw, ?_⟩
      exact Ok.ret r' p _ ((sl.ext r0 x').set (rep_int.mpr rfl))
    · cases h
  | .expr e, st, h => by
    simp only [ckS] at h
    split at h
    · rename_i x hx
      obtain ⟨p, rfl⟩ := asExpr_eq hx
      simp only [Bool.and_eq_true, Bool.not_eq_true'] at h
      refine PS_imp (ps_expr (ckE_ok L A.toAt e x h.1).val (swaps_ok h.2)) fun D σ H q => ?_
      obtain ⟨g, s, rfl, r0, sl, q⟩ := q
      exact tE_use r0 sl q.bnd fun g' d v r' x' p hv => Ok.ret r' p _ (sl.ext r0 x')
    · cases h
  | .ret e, st, h => by
    simp only [ckS] at h
    split at h
    · rename_i x hx
      obtain ⟨p, rfl⟩ := asRet_eq hx
      refine PS_imp (ps_ret (ckE_ok L A.toAt e x h).val) fun D σ H q => ?_
      obtain ⟨g, s, rfl, r0, sl, q⟩ := q
      exact tE_use r0 sl q.bnd fun g' d v r' x' p hv => Ok.ret r' p v hv
    · cases h
  | .retN, st, h => by
    simp only [ckS] at h
    split at h
    · rename_i hx
      obtain ⟨p, rfl⟩ := asRet_eq hx
      refine PS_imp ps_retN fun D σ H q => ?_
      obtain ⟨g, s, rfl, r0, sl, q⟩ := q
      exact Ok.ret r0 q _ (rep_non.mpr rfl)
    · cases h
  | .ite t a b, st, h => by
    simp only [ckS] at h
    split at h
    · rename_i c y z hx
      obtain ⟨p, rfl⟩ := asIfS_eq hx
      simp only [Bool.and_eq_true] at h
      refine PS_imp (ps_if ((ckE_ok L A.toAt t c h.1.1.1).tst h.1.1.2) (ckSs_ok L A a y h.1.2) (ckSs_ok L A b z h.2)) fun D σ H q => ?_
      obtain ⟨g, s, rfl, r0, sl, q⟩ := q
      have e0 : semS (run T k) (.ite t a b) s = bnd (semB (run T k) t s) fun c => if c = true then semSs (run T k) a s else semSs (run T k) b s := by
        funext h0
        simp only [semB, semS, bnd, opt]
        cases semE (run T k) t s h0 with
        | none => rfl
        | some p =>
          obtain ⟨d, h1⟩ := p
          rfl
      rw [e0] at q
      refine tT_use r0 sl q.bnd fun g' c r' x' p => ?_
      split
      · rename_i hc
        rw [if_pos hc] at p
        exact ⟨g', s, rfl, r', sl.ext r0 x', p⟩
      · rename_i hc
        rw [if_neg hc] at p
        exact ⟨g', s, rfl, r', sl.ext r0 x', p⟩
    · cases h
  | .for t it body, st, h => by
    simp only [ckS] at h
    split at h
    · rename_i y i b hx
      obtain ⟨p, rfl⟩ := asFor_eq hx
      simp only [Bool.and_eq_true, Bool.not_eq_true'] at h
      have hfold : ∀ x, foldedSetIterable i X.env x = pure x := fun x => by
        have := h.2
        cases i <;> first | rfl | simp [isSet] at this
      refine PS_imp (ps_for (by rw [A.xe]; exact PassesOwn.never) L.calm (ckIt_ok L A.toAt y it i h.1.1.2.2 h.1.1.2.1) (ckT_ok L A t y h.1.1.1) (ckSs_ok L A body b h.1.2) hfold) fun D σ H q => ?_
      obtain ⟨g, s, rfl, r0, sl, q⟩ := q
      have q' : Ok X.K g (bnd (semIt (run T k) it s) fun p => forL p.1 p.2 (fun d s' => bnd (semT (run T k) t d s') fun s'' => semSs (run T k) body s'') p.1 s) (FlP X.K D) := q
      obtain ⟨pp, h1, e1, fin⟩ := q'.bnd
      refine ⟨g, s, rfl, r0, sl, pp, h1, e1, fun w' H' r' x' => ⟨?_, fun J hJ => ?_⟩⟩
      · -- the walked list stands where it was evaluated
        exact semIt_stands e1
      · exact forL_ok (P := fun _ => True) hJ (fun D σ H q => q) r' (sl.ext r0 x') (semIt_stands e1) (fin w' H' r' x')
    · cases h
  | .while t body, st, h => by
    simp only [ckS] at h
    split at h
    · rename_i c b hx
      obtain ⟨p, rfl⟩ := asWhile_eq hx
      simp only [Bool.and_eq_true] at h
      refine PS_imp (ps_while (by rw [A.xe]; exact PassesOwn.never) ((ckE_ok L A.toAt t c h.1.1).tst h.1.2) (ckSs_ok L A body b h.2)) fun D σ H q => ?_
      obtain ⟨g, s, rfl, r0, sl, q⟩ := q
      have q' : Ok X.K g (whileW (fun s' => semB (run T k) t s') (fun s' => semSs (run T k) body s') s) (FlP X.K D) := q
      obtain ⟨f, h1, e1, fin⟩ := q'
      obtain ⟨n, en⟩ := whileW_some e1
      refine ⟨fun m σ H => ∃ (g : G) (s : St), g.H = H ∧ Rel X.K g ∧ Slots X.K g s σ ∧ Ok X.K g (whileN (fun s' => semB (run T k) t s') (fun s' => semSs (run T k) body s') m s) (FlP X.K D),
        ⟨n, g, s, rfl, r0, sl, f, h1, en, fin⟩, ?_⟩
      rintro m σ1 H1 ⟨g1, s1, rfl, r1, sl1, q1⟩
      cases m with
      | zero => exact (Ok.bad q1).elim
      | succ m =>
        have q2 : Ok X.K g1 (bnd (semB (run T k) t s1) fun k0 => if k0 = true then bnd (semSs (run T k) body s1) fun f => match f with
          | .rt r => ret (.rt r)
          | .nx s' => whileN (fun s' => semB (run T k) t s') (fun s' => semSs (run T k) body s') m s'
          else ret (.nx s1)) (FlP X.K D) := q1
        refine tT_use r1 sl1 q2.bnd fun g2 c r2 x2 p2 => ?_
        split
        · rename_i hc
          rw [if_pos hc] at p2
          refine ⟨fun σ' H' => ∃ (g : G) (s : St), g.H = H' ∧ Rel X.K g ∧ Slots X.K g s σ' ∧ Ok X.K g (whileN (fun s' => semB (run T k) t s') (fun s' => semSs (run T k) body s') m s) (FlP X.K D), fun σ' H' z => ⟨m, Nat.lt_succ_self m, z⟩, ?_⟩
          refine ⟨g2, s1, rfl, r2, sl1.ext r1 x2, p2.bnd.mono fun g3 f r3 x3 p3 => ?_⟩
          cases f with
          | rt d =>
            have z : FlP X.K D g3 (.rt d) := Ok.ret r3 p3
            exact z
          | nx s3 => exact fun σ3 sl3 => ⟨g3, s3, rfl, r3, sl3, p3⟩
        · rename_i hc
          rw [if_neg hc] at p2
          exact Ok.ret r2 p2 _ (sl1.ext r1 x2)
    · cases h
  | .pass, st, h => by
    simp only [ckS] at h
    obtain ⟨p, rfl⟩ := asPass_eq h
    refine PS_imp ps_pass fun D σ H q => ?_
    obtain ⟨g, s, rfl, r0, sl, q⟩ := q
    exact Ok.ret r0 q _ sl
  | .app a e, st, h => by
    simp only [ckS] at h
    split at h
    · rename_i o x hx
      obtain ⟨q, p, p2, rfl, hl⟩ := asApp_eq hx
      simp only [Bool.and_eq_true] at h
      obtain ⟨⟨⟨h1, h2⟩, h3⟩, h4⟩ := h
      refine PS_imp (ps_expr (pe_bm PySem.F.plainAttrs_list PySem.F.slot_list_append PySem.F.type_list_append mt_append (ckE_ok L A.toAt a o h1).val (pa_cons (ckE_ok L A.toAt e x h2).val pa_nil (star_cons h4)) (base_ok h3) (by rw [star_cons h4]; rfl) hl (star_cons h4) rfl) rfl) fun D σ H q => ?_
      obtain ⟨g, s, rfl, r0, sl, q⟩ := q
      have q' : Ok X.K g (bnd (semE (run T k) a s) fun o => bnd (Iv.ask fun h => isLst h o) fun _ => bnd (semE (run T k) e s) fun v => bnd (appItem o v) fun _ => ret (.nx s)) (FlP X.K D) := q
      show tE X.K (semE (run T k) a) σ g.H (fun x H1 => tyV X.K "list" x H1 ∧ tCons (tE X.K (semE (run T k) e)) tNil σ H1 (fun xs H2 => rAppend x xs H2 fun _ H3 => D.nx σ H3))
      refine tE_use r0 sl q'.bnd fun g1 o1 vo r1 x1 p1 ho => ?_
      -- the list stands there already
      obtain ⟨_, e0, p1⟩ := p1.askb
      obtain ⟨d1, h1', e1, p2⟩ := p1.bnd
      obtain ⟨n, rfl⟩ : ∃ n, o1 = .ref n := by cases o1 <;> first | exact ⟨_, rfl⟩ | (simp [isLst] at e0)
      obtain ⟨hn, rfl⟩ := rep_ref.mp ho
      obtain ⟨es3, ho3⟩ : ∃ es3, g1.h[n]? = some (.lst es3) := by
        simp only [isLst] at e0
        split at e0
        · exact ⟨_, by assumption⟩
        · cases e0
      obtain ⟨_, ys3, hys3, _⟩ := r1.obj n _ ho3
      refine ⟨.inl ⟨rfl, _, .inl (.inl hys3)⟩, ?_⟩
      refine tE_use (P := fun g2 a => Ok X.K g2 (bnd (appItem (.ref n) a) fun _ => ret (Fl.nx s)) (FlP X.K D)) r1 (sl.ext r0 x1) ⟨d1, h1', e1, p2⟩ fun g2 v2 w r2 x2 p3 hw => ?_
      obtain ⟨f, h3', e3, fin⟩ := p3
      have e3' : bnd (appItem (.ref n) v2) (fun _ => ret (Fl.nx s)) g2.h = some (f, h3') := e3
      unfold bnd at e3'
      split at e3'
      · rename_i u hh e4
        simp only [ret, Option.some.injEq, Prod.mk.injEq] at e3'
        obtain ⟨rfl, rfl⟩ := e3'
        unfold appItem at e4
        simp only at e4
        split at e4
        · rename_i ds hds
          split at e4
          · rename_i hc
            simp only [Option.some.injEq, Prod.mk.injEq] at e4
            obtain ⟨_, rfl⟩ := e4
            obtain ⟨hrs, xs, hx1, rs⟩ := r2.obj n _ hds
            have hrs2 : Iv.D.rfs (ds ++ [v2]) = true := by
              rw [Iv.D.rfs_append, hrs]
              simp [Iv.D.rfs, hc.1]
            obtain ⟨x3, r3⟩ := Ext.store r2 hds hrs2 (Reps.append rs (Reps.cons hw Reps.nil))
            have ei := x2.ids n hn
            rw [ei] at hx1 x3 r3
            refine ⟨_, xs, w, rfl, rfl, hx1, by rw [sizeMax_eq, ← rs.length]; exact hc.2, ?_⟩
            exact fin _ _ r3 x3 σ (((sl.ext r0 x1).ext r1 x2).ext r2 x3)
          · cases e4
        · cases e4
      · cases e3'
    · cases h
  | .setF al i (.comp p own it ifs elt), st, h => by
    simp only [ckS] at h
    split at h
    · rename_i y py elt' tg iter cs scope pos sp hx
      have ex := asSetC_eq hx
      subst ex
      simp only [Bool.and_eq_true, Bool.not_eq_true', decide_eq_true_eq] at h
      obtain ⟨⟨⟨⟨⟨h1, h2⟩, h3⟩, h4⟩, h5⟩, h6⟩ := h
      have hy : X.N[i]? = some y := by rw [A.toAt.hn]; exact h1
      have hyl : X.env.scope.names.lookup y = some .local := by rw [A.toAt.hsc]; exact h2
      have hk : X.env.scope.kind = .function := by rw [A.toAt.hsc]; exact h3
      refine PS_imp (setC_ok L A.toAt hy hyl (sw_true hk hyl h4 h5) h6) fun D σ H q => ?_
      obtain ⟨g, s, rfl, r0, sl, q⟩ := q
      have q' : Ok X.K g (bnd (semF (run T k) (.comp p own it ifs elt) s) fun ds => bnd (if al = true then newLst ds else ret (.lst ds)) fun d => if i < s.length then ret (.nx (s.set i (some d))) else bad) (FlP X.K D) := q
      refine ⟨g, s, rfl, r0, sl, ?_⟩
      obtain ⟨ds, h1', e1, q2⟩ := q'.bnd
      refine ⟨ds, h1', e1, fun w1 H1 r1 x1 a xs h0 ht ha rm rs => ?_⟩
      obtain ⟨d, h2', e2, q3⟩ := (q2 w1 H1 r1 x1).bnd
      cases al with
      | true =>
        simp only [if_true, newLst] at e2
        split at e2
        · rename_i hr
          simp only [Option.some.injEq, Prod.mk.injEq] at e2
          obtain ⟨rfl, rfl⟩ := e2
          obtain ⟨w', x2, r2, e3⟩ := Ext.track x1 r1 h0 ht ha rm rs hr
          obtain ⟨f, h3', e4, fin⟩ := q2 w1 H1 r1 x1
          simp only [bnd, if_true, newLst, hr] at e4
          split at e4
          · simp only [ret, Option.some.injEq, Prod.mk.injEq] at e4
            obtain ⟨rfl, rfl⟩ := e4
            obtain ⟨f2, h4', e5, fin2⟩ := q'
            simp only [bnd, e1, if_true, newLst, hr] at e5
            rw [if_pos (by assumption)] at e5
            simp only [ret, Option.some.injEq, Prod.mk.injEq] at e5
            obtain ⟨rfl, rfl⟩ := e5
            exact fin2 w' H1 r2 x2 _ ((sl.ext r0 x2).set (rep_ref.mpr ⟨by simp, by rw [show w'.ι h1'.length = a from e3]⟩))
          · cases e4
        · cases e2
      | false =>
        simp only [Bool.false_eq_true, if_false, ret, Option.some.injEq, Prod.mk.injEq] at e2
        obtain ⟨rfl, rfl⟩ := e2
        have q4 := q2 w1 H1 r1 x1
        have q5 : Ok X.K ⟨w1, h1', H1⟩ (if i < s.length then ret (Fl.nx (s.set i (some (.lst ds)))) else bad) (FlP X.K D) := q4
        split at q5
        · refine Ok.ret r1 q5 _ ((sl.ext r0 x1).set (rep_lst.mpr ⟨a, xs, rfl, .inl ⟨.inl ha, ht⟩, ?_⟩))
          exact Reps.weak (w := (G.mark ⟨w1, h1', H1⟩ a).w) (w' := w1) rfl (fun b hb => .inl hb) ds rs
        · exact (Ok.bad q5).elim
    · cases h
  | .setF _ _ (.disp _), st, h => by simp [ckS] at h
  | .setF _ _ (.cat _ _), st, h => by simp [ckS] at h
  | .setF _ _ (.slc _ _ _ _ _), st, h => by simp [ckS] at h
  | .setF _ _ (.lst1 _), st, h => by simp [ckS] at h
  | .dext _ _ _ _, st, h => by simp [ckS] at h
  | .bad, st, h => ⟨fun pins s σ H D I q => by
      obtain ⟨g, st, rfl, r0, sl, q⟩ := q
      exact (Ok.bad q).elim⟩
theorem ckSs_ok (L : Lk X tx T k) (A : AtS X tx sc) : ∀ (cs : List S) (sts : List Stmt), ckSs tx sc cs sts = true → PSs X sts (tS X.K (semSs (run T k) cs))
  | [], [], _ => PSs_imp pss_nil fun D σ H q => by
    obtain ⟨g, s, rfl, r0, sl, q⟩ := q
    exact Ok.ret r0 q _ sl
  | [], s :: ss, h => by simp [ckSs] at h
  | c :: cs, [], h => by simp [ckSs] at h
  | c :: cs, st :: sts, h => by
    rcases ckSs_cons h with h | ⟨i, a, kk, v, s2, ss', rfl, rfl, h1, h2⟩
    case inr => exact dext_ok L A h1 (ckSs_ok L A cs ss' h2)
    refine PSs_imp (pss_cons (ckS_ok L A c st h.1) (ckSs_ok L A cs sts h.2)) fun D σ H q => ?_
    obtain ⟨g, s, rfl, r0, sl, q⟩ := q
    have q' : Ok X.K g (bnd (semS (run T k) c s) fun f => match f with
      | .rt r => ret (.rt r)
      | .nx s' => semSs (run T k) cs s') (FlP X.K D) := q
    refine ⟨g, s, rfl, r0, sl, q'.bnd.mono fun g' f r' x' p => ?_⟩
    cases f with
    | rt d =>
      have z : FlP X.K D g' (.rt d) := Ok.ret r' p
      exact z
    | nx s' => exact fun σ' sl' => ⟨g', s', rfl, r', sl', p⟩
end
end
end Iv

set_option maxHeartbeats 4000000
/-! Fn: defs, and the whole text. -/
namespace Iv
open PySem L2 PySem.Spec PyProof.Rows
section
variable {K : PySem.W.Frag} {g g1 : G} [Wd]
/-- what was made behind n is let go -/
def cutW (g1 : G) (n : Nat) : W := ⟨g1.w.ι, fun a => g1.w.T a ∧ ¬ ∃ k, n ≤ k ∧ k < g1.h.length ∧ g1.w.ι k = a⟩
theorem take_get {h : AH} {n m : Nat} {o : AO} (e : (h.take n)[m]? = some o) : m < n ∧ h[m]? = some o := by
  rw [List.getElem?_take] at e
  split at e
  · exact ⟨by assumption, e⟩
  · cases e
theorem gone (r : Rel K g) (x : Ext g g1) (r1 : Rel K g1) {k : Nat} (h0 : g.h.length ≤ k) (h1 : k < g1.h.length) : ¬ Img g (g1.w.ι k) ∧ g.H (g1.w.ι k) = none := by
  have ni : ¬ Img g (g1.w.ι k) := by
    rintro ⟨m, o, hm, e⟩
    have lm : m < g.h.length := (List.getElem?_eq_some_iff.mp hm).1
    rw [← x.ids m lm] at e
    have := r1.inj m k (Nat.lt_of_lt_of_le lm x.len) h1 e
    omega
  refine ⟨ni, ?_⟩
  rcases x.inew _ ⟨k, _, List.getElem?_eq_getElem h1, rfl⟩ with z | z
  · exact absurd z ni
  · exact z
theorem cut_ok (r : Rel K g) (x : Ext g g1) (r1 : Rel K g1) (hk : keepIns g.h g1.h) : Rel K ⟨cutW g1 g.h.length, g1.h.take g.h.length, g1.H⟩ ∧ Ext g ⟨cutW g1 g.h.length, g1.h.take g.h.length, g1.H⟩ := by
  have hl : (g1.h.take g.h.length).length = g.h.length := by rw [List.length_take]; exact Nat.min_eq_left x.len
  have noDrop : ∀ {m : Nat}, m < g.h.length → ¬ ∃ k, g.h.length ≤ k ∧ k < g1.h.length ∧ g1.w.ι k = g1.w.ι m := by
    rintro m hm ⟨k, h1, h2, h3⟩
    have := r1.inj k m h2 (Nat.lt_of_lt_of_le hm x.len) h3
    omega
  refine ⟨⟨?_, ?_, ?_, ?_⟩, ⟨?_, ?_, x.keep, x.there, ?_, ?_, ?_⟩⟩
  · rintro a ⟨m, o, hm, e⟩
    obtain ⟨lm, hm'⟩ := take_get hm
    have e' : g1.w.ι m = a := e
    subst e'
    exact ⟨r1.img _ ⟨m, o, hm', rfl⟩, noDrop lm⟩
  · intro m n hm hn e
    have hm' : m < (g1.h.take g.h.length).length := hm
    have hn' : n < (g1.h.take g.h.length).length := hn
    rw [hl] at hm' hn'
    exact r1.inj m n (Nat.lt_of_lt_of_le hm' x.len) (Nat.lt_of_lt_of_le hn' x.len) e
  · intro m o hm
    obtain ⟨lm, hm'⟩ := take_get hm
    refine (r1.obj m o hm').carry rfl (fun ho e _ => e) (fun b a e => e) fun ds xs hd rs => ?_
    rcases hd with hd | ⟨c, ns, rfl⟩
    · exact Reps.plain (w := g1.w) (w' := cutW g1 g.h.length) (h := g1.h) (H := g1.H) (fun b hb => hb.1) ds hd rs
    · obtain ⟨C, dx, ys, _, _, _, _, rs0⟩ := r.obj m _ (hk m c ns ds lm hm')
      exact Reps.cutp (n := g.h.length) (w := g1.w) (w' := cutW g1 g.h.length) (h := g1.h) (H := g1.H) (fun b hb => hb.1) (by rw [hl]; exact Nat.le_refl _) (fun k _ => rfl) ds (Reps.belows ds rs0) rs
  · rintro a ⟨ht, _⟩
    exact r1.dom a ht
  · show g.h.length ≤ (g1.h.take g.h.length).length
    rw [hl]
    exact Nat.le_refl _
  · exact x.ids
  · rintro a ⟨ht, _⟩
    exact x.tnew a ht
  · intro a ht
    refine ⟨x.told a ht, ?_⟩
    rintro ⟨k, h1, h2, rfl⟩
    obtain ⟨o, e⟩ := r.dom _ ht
    rw [(gone r x r1 h1 h2).2] at e
    cases e
  · rintro a ⟨m, o, hm, e⟩
    obtain ⟨lm, hm'⟩ := take_get hm
    exact x.inew a ⟨m, o, hm', e⟩
mutual
theorem snap_ok {n : Nat} (r1 : Rel K g1) (hn : n ≤ g1.h.length) : ∀ (d : D) {b : D} {v : V}, snap n g1.h d = some b → Rep K g1 d v → Rep K ⟨cutW g1 n, g1.h.take n, g1.H⟩ b v
  | .non, b, v, e, q => by simp only [snap, Option.some.injEq] at e; subst e; exact rep_non.mpr (rep_non.mp q)
  | .bl _, b, v, e, q => by simp only [snap, Option.some.injEq] at e; subst e; exact rep_bl.mpr (rep_bl.mp q)
  | .int _, b, v, e, q => by simp only [snap, Option.some.injEq] at e; subst e; exact rep_int.mpr (rep_int.mp q)
  | .str _, b, v, e, q => by simp only [snap, Option.some.injEq] at e; subst e; exact rep_str.mpr (rep_str.mp q)
  | .ref k, b, v, e, q => by
    obtain ⟨hk, rfl⟩ := rep_ref.mp q
    simp only [snap] at e
    split at e
    · rename_i hlt
      cases e
      refine rep_ref.mpr ⟨?_, rfl⟩
      show k < (g1.h.take n).length
      rw [List.length_take]
      omega
    · rename_i hlt
      split at e
      · rename_i ds hds
        cases e
        obtain ⟨q1, xs, e1, q2⟩ := r1.obj k _ hds
        refine rep_lst.mpr ⟨_, xs, rfl, .inl ⟨.inl e1, fun z => z.2 ⟨k, by omega, hk, rfl⟩⟩, ?_⟩
        exact Reps.plain (w := g1.w) (w' := cutW g1 n) (h := g1.h) (H := g1.H) (fun b hb => hb.1) ds q1 q2
      · rename_i t ks vs hds
        cases e
        obtain ⟨q1, kxs, ys, e1, q2, q3⟩ := r1.obj k _ hds
        refine rep_dct.mpr ⟨_, kxs, ys, rfl, e1, fun z => z.2 ⟨k, by omega, hk, rfl⟩, ?_, ?_⟩
        · exact Reps.plain (w := g1.w) (w' := cutW g1 n) (h := g1.h) (H := g1.H) (fun b hb => hb.1) ks q1.1 q2
        · exact Reps.plain (w := g1.w) (w' := cutW g1 n) (h := g1.h) (H := g1.H) (fun b hb => hb.1) vs q1.2 q3
      · cases e
  | .tup ds, b, v, e, q => by
    simp only [snap, Option.map_eq_some_iff] at e
    obtain ⟨es, e1, rfl⟩ := e
    obtain ⟨a, xs, rfl, hq, rs⟩ := rep_tup.mp q
    exact rep_tup.mpr ⟨a, xs, rfl, hq, snaps_ok r1 hn ds e1 rs⟩
  | .lst ds, b, v, e, q => by
    simp only [snap] at e
    split at e
    · rename_i hr
      cases e
      exact Rep.plain (w := g1.w) (w' := cutW g1 n) (h := g1.h) (H := g1.H) (fun b hb => hb.1) (.lst ds) (by simpa only [D.rf] using hr) q
    · cases e
  | .dct t ks vs, b, v, e, q => by
    simp only [snap] at e
    split at e
    · rename_i hr
      cases e
      exact Rep.plain (w := g1.w) (w' := cutW g1 n) (h := g1.h) (H := g1.H) (fun b hb => hb.1) (.dct t ks vs) (by simp only [D.rf, hr.1, hr.2, Bool.and_self]) q
    · cases e
theorem snaps_ok {n : Nat} (r1 : Rel K g1) (hn : n ≤ g1.h.length) : ∀ (ds : List D) {bs : List D} {vs : List V}, snaps n g1.h ds = some bs → Reps K g1 ds vs → Reps K ⟨cutW g1 n, g1.h.take n, g1.H⟩ bs vs
  | [], bs, vs, e, q => by
    simp only [snaps, Option.some.injEq] at e
    subst e
    simp only [Reps] at q
    subst q
    exact Reps.nil
  | d :: ds, bs, vs, e, q => by
    simp only [snaps] at e
    split at e
    · rename_i p ps e1 e2
      cases e
      simp only [Reps] at q
      obtain ⟨y, ys, rfl, h1, h2⟩ := q
      exact Reps.cons (snap_ok r1 hn d e1 h1) (snaps_ok r1 hn ds e2 h2)
    · cases e
end
theorem fin_ok (r : Rel K g) (x : Ext g g1) (r1 : Rel K g1) {own : Md} {d b : D} {v : V} {h2 : AH} (q : Rep K g1 d v) (e : fin own g.h d g1.h = some (b, h2)) :
    ∃ w2, Rel K ⟨w2, h2, g1.H⟩ ∧ Ext g ⟨w2, h2, g1.H⟩ ∧ Rep K ⟨w2, h2, g1.H⟩ b v := by
  cases own with
  | keep =>
    simp only [fin, Option.some.injEq, Prod.mk.injEq] at e
    obtain ⟨rfl, rfl⟩ := e
    exact ⟨g1.w, r1, x, q⟩
  | cut =>
    simp only [fin] at e
    split at e
    · rename_i hk
      obtain ⟨rc, xc⟩ := cut_ok r x r1 hk
      split at e
      · rename_i b' hb
        simp only [Option.some.injEq, Prod.mk.injEq] at e
        obtain ⟨rfl, rfl⟩ := e
        exact ⟨_, rc, xc, snap_ok r1 x.len d hb q⟩
      · cases e
    · cases e
  | own =>
    simp only [fin] at e
    split at e
    · rename_i hkeep
      obtain ⟨rc, xc⟩ := cut_ok r x r1 hkeep
      unfold owned at e
      split at e
      · rename_i k
        split at e
        · cases e
        · rename_i hlt
          obtain ⟨hk, rfl⟩ := rep_ref.mp q
          have hge : g.h.length ≤ k := by omega
          have fresh := (gone r x r1 hge hk).2
          let gc : G := ⟨cutW g1 g.h.length, g1.h.take g.h.length, g1.H⟩
          have hl : (g1.h.take g.h.length).length = g.h.length := by rw [List.length_take]; exact Nat.min_eq_left x.len
          have hT : ∀ o, g1.h[k]? = some o → ∀ b, (gc.mark (g1.w.ι k)).w.T b → g1.w.T b := fun o ho b hb => hb.elim (fun z => z.1) fun z => by rw [z]; exact r1.img _ ⟨k, _, ho, rfl⟩
          have rm : ∀ o, g1.h[k]? = some o → Rel K (gc.mark (g1.w.ι k)) := fun o ho => by
            refine ⟨fun a i => .inl (rc.img a i), rc.inj, fun m o hm => ?_, fun a ha => r1.dom a (hT _ ho a ha)⟩
            obtain ⟨lm, hm'⟩ := take_get hm
            refine (r1.obj m o hm').carry rfl (fun ho e _ => e) (fun b a e => e) fun ds xs hd rs => ?_
            rcases hd with hd | ⟨c, ns, rfl⟩
            · exact Reps.plain (w := g1.w) (w' := (gc.mark (g1.w.ι k)).w) (h := g1.h) (H := g1.H) (hT _ ho) ds hd rs
            · obtain ⟨C, dx, ys, _, _, _, _, rs0⟩ := r.obj m _ (hkeep m c ns ds lm hm')
              exact Reps.cutp (n := g.h.length) (w := g1.w) (w' := (gc.mark (g1.w.ι k)).w) (h := g1.h) (H := g1.H) (hT _ ho) (by rw [hl]; exact Nat.le_refl _) (fun k _ => rfl) ds (Reps.belows ds rs0) rs
          have ht : ¬ gc.w.T (g1.w.ι k) := fun z => z.2 ⟨k, hge, hk, rfl⟩
          have last : ∀ {o : AO} {w' : W}, w'.ι (g1.h.take g.h.length).length = g1.w.ι k → Rep K ⟨w', g1.h.take g.h.length ++ [o], g1.H⟩ (.ref g.h.length) (.ref (g1.w.ι k)) := by
            intro o w' e'
            refine rep_ref.mpr ⟨?_, ?_⟩
            · show g.h.length < (g1.h.take g.h.length ++ [o]).length
              rw [List.length_append, hl]
              exact Nat.lt_succ_self _
            · rw [hl] at e'
              show V.ref _ = V.ref (w'.ι g.h.length)
              rw [e']
          split at e
          · rename_i ds ho
            simp only [Option.some.injEq, Prod.mk.injEq] at e
            obtain ⟨rfl, rfl⟩ := e
            obtain ⟨q1, xs, e1, q2⟩ := r1.obj k _ ho
            obtain ⟨w', x', r', e'⟩ := Ext.track (g := gc) xc rc fresh ht e1 (rm _ ho) (Reps.plain (w := g1.w) (w' := (gc.mark (g1.w.ι k)).w) (h := g1.h) (H := g1.H) (hT _ ho) ds q1 q2) q1
            exact ⟨w', r', x', last e'⟩
          · rename_i t ks vs ho
            simp only [Option.some.injEq, Prod.mk.injEq] at e
            obtain ⟨rfl, rfl⟩ := e
            obtain ⟨q1, kxs, ys, e1, q2, q3⟩ := r1.obj k _ ho
            obtain ⟨w', x', r', e'⟩ := Ext.trackD (g := gc) xc rc fresh ht e1 (rm _ ho) (Reps.plain (w := g1.w) (w' := (gc.mark (g1.w.ι k)).w) (h := g1.h) (H := g1.H) (hT _ ho) ks q1.1 q2) (Reps.plain (w := g1.w) (w' := (gc.mark (g1.w.ι k)).w) (h := g1.h) (H := g1.H) (hT _ ho) vs q1.2 q3) q1.1 q1.2
            exact ⟨w', r', x', last e'⟩
          · cases e
      · cases e
    · cases e
end

/-! ### the text's defs -/
structure FnT where
  name : Str
  st : Stmt
  N : List Str
  ps : List Str
  fn : Fn
def scB (N ps : List Str) (sc : Scope) : Bool := decide (sc.kind = .function) && decide (sc.isCoroutine = false) && decide (sc.isGenerator = false) && decide N.Nodup && decide (N.take ps.length = ps) &&
  ps.all (fun x => locB sc x) && sc.names.all fun y => decide (y.2 ≠ .free)
theorem scB_ok {N ps : List Str} {sc : Scope} (h : scB N ps sc = true) : FnScope N ps sc := by
  simp only [scB, Bool.and_eq_true, decide_eq_true_eq, List.all_eq_true] at h
  obtain ⟨⟨⟨⟨⟨⟨h1, h2⟩, h3⟩, h4⟩, h5⟩, h6⟩, h7⟩ := h
  exact ⟨h1, h2, h3, h4, h5, fun x hx => locB_ok (h6 x hx), fun y hy => h7 y hy⟩
def ckFn (tx : Tx) (t : FnT) : Bool := scB t.N t.ps (defScope t.st) && decide (t.fn.np = t.ps.length) && decide (t.fn.ns = t.N.length) && ckSs { tx with N := t.N } (defScope t.st) t.fn.body (defBody t.st)
/-- a def of the text as it stands behind the top (defaults allowed) -/
structure FunG (K : PySem.W.Frag) (x qual : Str) (st : Stmt) (f : Addr) (fd : FuncData) : Prop where
  ex : ∃ (oc : Value) (od : Option Addr) (dV kV doc pm : Value) (an : Option Addr) (cdv ct : Value) (osl : Array (Option Value)),
    fd = PySem.W.fnOf x qual (defArgs st) (defBody st) (defScope st) dV kV doc pm an cdv ct ∧ K.lookup f = some ⟨oc, od, .func fd, osl⟩ ∧ PySem.W.codeIn K cdv qual = true
  kp : PySem.W.keepIn K (.ref f) = true
structure Hd (K : PySem.W.Frag) [Wd] (mg : Str → Option Value) (tx : Tx) (tbl : List FnT) : Prop where
  fn : ∀ t ∈ tbl, ∃ a fd, mg t.name = some (.ref a) ∧ FunG K t.name t.name t.st a fd
  sh : ∀ sh ∈ tx.shapes, ∃ t a fd, tbl[sh.f]? = some t ∧ mg t.name = some (.ref a) ∧ FunG K t.name t.name t.st a fd ∧ ShOk K fd t.ps sh
  fns : tx.fns = tbl.map fun t => (t.name, t.ps)
  gl : ∀ p ∈ tx.gl, ∃ u v, mg p.1 = some u ∧ RelV v u ∧ ∀ g, Rep K g p.2 v
  blt : ∀ x ∈ tx.blt, mg x = none
  kd : ∀ p ∈ tx.kds, ∃ a, mg p.1 = some (.ref a) ∧ (a == sysModules) = false ∧ (∃ es n, K.lookup a = some ⟨.type "dict", none, .dict es n, #[]⟩ ∧ PySem.W.KeysLit Wd.w.params es.toList) ∧ ∀ q ∈ p.2, ∃ v, KDct K Wd.w a q.1 v ∧ ∀ g, Rep K g q.2 v
  ck : tbl.all (ckFn tx) = true
theorem start_slots {K : PySem.W.Frag} [Wd] {g : G} {N : List Str} {fn : Fn} {ds : List D} {vs : List V} (rs : Reps K g ds vs) (hn : fn.ns = N.length) : Slots K g (start fn ds) (L2.start N vs) := by
  have hl := rs.length
  refine ⟨by simp [start, L2.start, hl, hn], fun i d e => ?_⟩
  unfold start at e
  by_cases hi : i < ds.length
  · rw [List.getElem?_append_left (by simpa using hi), List.getElem?_map, Option.map_eq_some_iff] at e
    obtain ⟨d', e1, e2⟩ := e
    cases e2
    obtain ⟨v, e3, q⟩ := rs.get e1
    refine ⟨v, ?_, q⟩
    unfold L2.start
    rw [List.getElem?_append_left (by simpa [← hl] using hi), List.getElem?_map, e3]
    rfl
  · rw [List.getElem?_append_right (by simpa using Nat.le_of_not_lt hi), List.getElem?_replicate] at e
    split at e
    · cases e
    · cases e
section
variable {P : Program} {w : World} {K : PySem.W.Frag} {mg : Str → Option Value} {base : Heap} {tx : Tx} {tbl : List FnT} [Wd]
theorem T_get {f : Nat} {t : FnT} (e : tbl[f]? = some t) : (tbl.map (·.fn))[f]? = some t.fn := by rw [List.getElem?_map, e]; rfl
theorem T_getD {f : Nat} {t : FnT} (e : tbl[f]? = some t) : (tbl.map (·.fn)).getD f default = t.fn := by rw [List.getD_eq_getElem?_getD, T_get e]; rfl
/-- every def does what its table says, at any depth for which there is room -/
theorem all_ok (hw : w = Wd.w) (hp : P = Wd.P) (h : Hd K mg tx tbl) : ∀ (k f : Nat) (t : FnT) (a : Addr) (fd : FuncData), tbl[f]? = some t → mg t.name = some (.ref a) → FunG K t.name t.name t.st a fd → FnOk P w K mg base CX0 k a fd t.ps (spOf K (tbl.map (·.fn)) k f) := by
  intro k
  have ckf : ∀ {f : Nat} {t : FnT}, tbl[f]? = some t → ckFn tx t = true := fun {f t} e => List.all_eq_true.mp h.ck t (List.mem_of_getElem? e)
  have lens : ∀ {k f : Nat} {t : FnT}, tbl[f]? = some t → ∀ vs H Q E, spOf K (tbl.map (·.fn)) k f vs H Q E → vs.length = t.ps.length := by
    intro k f t e vs H Q E q
    obtain ⟨g, ds, _, _, _, hl, _⟩ := q
    have c := ckf e
    simp only [ckFn, Bool.and_eq_true, decide_eq_true_eq] at c
    rw [hl, T_getD e, c.1.1.2]
  induction k with
  | zero =>
    intro f t a fd e hm F
    refine ⟨lens e, fun A outer s H args us vs Q E hr he hb hv q => ?_⟩
    obtain ⟨g, ds, _, _, _, _, q⟩ := q
    exact (Ok.bad (show Ok K g Iv.bad _ from q)).elim
  | succ k ih =>
    intro f t a fd e hm F
    have c := ckf e
    simp only [ckFn, Bool.and_eq_true, decide_eq_true_eq] at c
    obtain ⟨⟨⟨c1, c2⟩, c3⟩, c4⟩ := c
    obtain ⟨oc, od, dV, kV, doc, pm, an, cdv, ct, osl, rfl, lk, hcd⟩ := F.ex
    have S := scB_ok c1
    refine fn_of lk hcd S (lens e) fun A outer s H vs Q E hr q => ?_
    obtain ⟨g, ds, rfl, r, rs, hl, q⟩ := q
    refine ⟨_, (ckSs_ok (X := (cxOf CX0 P w K mg base t.N t.name (defScope t.st) a cdv A outer s g.H E).nox) (tx := { tx with N := t.N }) (sc := defScope t.st) (T := tbl.map (·.fn)) (k := k) ?_ ?_ t.fn.body (defBody t.st) c4).nox, ?_⟩
    · refine ⟨hw, hp, hr, rfl, fun f' x' ps' e' => ?_, h.gl, h.blt, fun p hp' => by subst hw; exact h.kd p hp'⟩
      have e1 : tx.fns[f']? = some (x', ps') := e'
      rw [h.fns, List.getElem?_map, Option.map_eq_some_iff] at e1
      obtain ⟨t', e2, e3⟩ := e1
      simp only [Prod.mk.injEq] at e3
      obtain ⟨rfl, rfl⟩ := e3
      obtain ⟨a', fd', m', F'⟩ := h.fn t' (List.mem_of_getElem? e2)
      have sh' : ∀ sh ∈ tx.shapes, sh.f = f' → ShOk K fd' t'.ps sh := fun sh hsh hf => by
        obtain ⟨t2, a2, fd2, q1, q2, q3, q4⟩ := h.sh sh hsh
        rw [hf, e2] at q1
        cases q1
        rw [m'] at q2
        cases q2
        obtain ⟨_, _, _, _, _, _, _, _, _, _, _, l1, _⟩ := F'.ex
        obtain ⟨_, _, _, _, _, _, _, _, _, _, _, l2, _⟩ := q3.ex
        rw [l1] at l2
        cases l2
        exact q4
      have c' := ckf e2
      simp only [ckFn, Bool.and_eq_true, decide_eq_true_eq] at c'
      exact ⟨a', fd', m', F'.kp, ih f' t' a' fd' e2 m' F', by rw [T_getD e2, c'.1.1.2], sh'⟩
    · exact ⟨⟨rfl, S.nd, rfl⟩, rfl, fun _ _ => rfl⟩
    · obtain ⟨b, h2, e1, fq⟩ := q
      have e2 : (if ds.length = t.fn.np then (bnd (semSs (run (tbl.map (·.fn)) k) t.fn.body (start t.fn ds)) fun fl => match fl with
          | .rt d => fin t.fn.own g.h d
          | .nx _ => fin t.fn.own g.h .non) g.h else none) = some (b, h2) := by
        have z : run (tbl.map (·.fn)) (k + 1) f ds g.h = some (b, h2) := e1
        simp only [run, T_get e] at z
        exact z
      split at e2
      · unfold bnd at e2
        split at e2
        · rename_i fl h1 e3
          refine ⟨g, start t.fn ds, rfl, r, start_slots rs c3, fl, h1, e3, fun w1 H1 r1 x1 => ?_⟩
          have last : ∀ (d : D) (v : V), Rep K ⟨w1, h1, H1⟩ d v → fin t.fn.own g.h d h1 = some (b, h2) → Q v H1 := by
            intro d v hv e4
            obtain ⟨w2, r2, x2, q2⟩ := fin_ok r x1 r1 hv e4
            exact fq w2 H1 r2 x2 v q2
          cases fl with
          | rt d => exact fun v hv => last d v hv e2
          | nx s' => exact fun σ' _ => last .non .non (rep_non.mpr rfl) e2
        · cases e2
      · cases e2
end

/-! ### how arguments come to parameters -/
theorem shOk_mk {K : PySem.W.Frag} [Wd] {fd : FuncData} {ps : List Str} {sh : Shape} (hd : sh.dfs = [])
    (h : ∀ us ws : List Value, us.length = sh.np → ws.length = sh.ks.length → bindArgs fd ⟨us, sh.ks.zip ws⟩ = pure (ps.zip (sh.perm.map fun i => (us ++ ws ++ []).getD i .none)))
    (len : sh.perm.length = ps.length) (lt : ∀ i ∈ sh.perm, i < sh.np + sh.ks.length + sh.dfs.length) : ShOk K fd ps sh :=
  ⟨⟨[], [], fun g => by rw [hd]; exact Reps.nil, .nil, fun s us ws _ h1 h2 => .of_eq (h us ws h1 h2)⟩, len, lt⟩
theorem funG_mk {K : PySem.W.Frag} [Wd] {x qual : Str} {st : Stmt} {f : Addr} {oc : Value} {od an : Option Addr} {osl : Array (Option Value)} {dV kV doc pm cdv ct : Value} (l : K.lookup f = some ⟨oc, od, .func (PySem.W.fnOf x qual (defArgs st) (defBody st) (defScope st) dV kV doc pm an cdv ct), osl⟩)
    (c : PySem.W.codeIn K cdv qual = true) (k : PySem.W.keepIn K (.ref f) = true) : FunG K x qual st f (PySem.W.fnOf x qual (defArgs st) (defBody st) (defScope st) dV kV doc pm an cdv ct) := ⟨⟨oc, od, dV, kV, doc, pm, an, cdv, ct, osl, rfl, l, c⟩, k⟩
theorem all_nil {α : Type} {P : α → Prop} : ∀ x ∈ ([] : List α), P x := fun _ h => nomatch h
theorem all_cons {α : Type} {P : α → Prop} {x : α} {xs : List α} (h : P x) (t : ∀ y ∈ xs, P y) : ∀ y ∈ x :: xs, P y := fun y hy => (List.mem_cons.mp hy).elim (fun e => e ▸ h) (t y)
theorem gl_int {K : PySem.W.Frag} [Wd] {mg : Str → Option Value} {p : Str × D} {i : Int} {t : Tok} (hp : p.2 = .int i) (h : mg p.1 = some (.int i t)) : ∃ u v, mg p.1 = some u ∧ RelV v u ∧ ∀ g, Rep K g p.2 v :=
  ⟨_, .int i, h, ⟨t, rfl⟩, fun g => by rw [hp]; exact rep_int.mpr rfl⟩
theorem gl_str {K : PySem.W.Frag} [Wd] {mg : Str → Option Value} {p : Str × D} {i : Str} {t : Tok} (hp : p.2 = .str i) (h : mg p.1 = some (.str i t)) : ∃ u v, mg p.1 = some u ∧ RelV v u ∧ ∀ g, Rep K g p.2 v :=
  ⟨_, .str i, h, ⟨t, rfl⟩, fun g => by rw [hp]; exact rep_str.mpr rfl⟩
theorem reps_ints {K : PySem.W.Frag} [Wd] {g : G} : ∀ ns : List Int, Reps K g (ns.map .int) (ns.map V.int)
  | [] => Reps.nil
  | n :: ns => Reps.cons (rep_int.mpr rfl) (reps_ints ns)
/-- the law's promise from the plain law -/
theorem sp_law {K : PySem.W.Frag} [Wd] {T : List Fn} {k f : Nat} {H : Hp} {a : Addr} {ns : List Int} {E : XK} (hS : SqL K H a (ns.map V.int)) (hn : (T.getD f default).np = 1)
    (h : ∃ h', run T k f [.lst (ns.map .int)] [] = some (.bl true, h')) : spOf K T k f [.ref a] H (fun v _ => v = .bl true) E := by
  obtain ⟨h', e⟩ := h
  refine ⟨⟨⟨fun _ => 0, fun _ => False⟩, [], H⟩, [.lst (ns.map .int)], rfl, ⟨?_, ?_, ?_, ?_⟩, Reps.cons (rep_lst.mpr ⟨a, ns.map V.int, rfl, ?_, ?_⟩) Reps.nil, by rw [hn]; rfl, .bl true, h', e, fun w' H' r x v hv => rep_bl.mp hv⟩
  · rintro b ⟨n, o, hn, _⟩
    simp at hn
  · intro m n hm
    simp at hm
  · intro n o hn
    simp at hn
  · intro b hb
    exact hb.elim
  · rcases hS with q | q
    · exact .inl ⟨q, fun z => z⟩
    · exact .inr q
  · exact reps_ints ns
end Iv

/-! Ev: how the language is run by rewriting, always at the head. -/
namespace Iv
open PySem L2
section
variable {α β γ : Type}
def slotK : St → Nat → (D → M β) → M β
  | some d :: _, 0, κ => κ d
  | _ :: s, i + 1, κ => slotK s i κ
  | _, _, _ => bad
def setK : St → Nat → D → (St → M β) → M β
  | _ :: s, 0, d, κ => κ (some d :: s)
  | x :: s, i + 1, d, κ => setK s i d fun s' => κ (x :: s')
  | [], _, _, _ => bad
def binK (op : Bop) (x y : D) (κ : D → M β) : M β := bnd (opt (binD op x y)) κ
def cmpK (op : Cop) (x y : D) (κ : Bool → M β) : M β := bnd (ask fun h => cmpD h op x y) κ
def augK (op : Bop) (x y : D) (κ : D → M β) : M β := bnd (opt (augD op x y)) κ
def partK (x : D) (κ : Option Int → M β) : M β := bnd (opt (partD x)) κ
def sliK (x : D) (lo hi : Option Int) (κ : D → M β) : M β := bnd (opt (sliD x lo hi)) κ
def optK {α : Type} (o : Option α) (κ : α → M β) : M β := bnd (opt o) κ
def slcK (x : D) (lo hi : Option Int) (κ : List D → M β) : M β := bnd (ask fun h => (lstOf h x).map fun ds => cutD ds lo hi) κ
def catK (x y : D) (κ : List D → M β) : M β := bnd (ask fun h => match lstOf h x, lstOf h y with
    | some ds, some es => if ds.length + es.length ≤ sizeMax then some (ds ++ es) else none
    | _, _ => none) κ
def seqK1 (x : D) (κ : List D → M β) : M β := bnd (ask fun h => seqOf h x) κ
def appK (o v : D) (κ : M β) : M β := bnd (appItem o v) fun _ => κ
def isLK (o : D) (κ : M β) : M β := bnd (ask fun h => isLst h o) fun _ => κ
def idxK (x y : D) (κ : D → M β) : M β := bnd (ask fun h => idxD h x y) κ
def biK (b : Bi) (ds : List D) (κ : D → M β) : M β := bnd (ask fun h => biD h b ds) κ
def blK (x : D) (κ : Bool → M β) : M β := bnd (opt (tBl x)) κ
def nthK : List D → Nat → (D → M β) → M β
  | d :: _, 0, κ => κ d
  | _ :: ds, i + 1, κ => nthK ds i κ
  | [], _, κ => κ .non
def permK : List Nat → List D → (List D → M β) → M β
  | [], _, κ => κ []
  | p :: ps, ds, κ => nthK ds p fun d => permK ps ds fun as => κ (d :: as)
def sizeK (ds : List D) (κ : M β) : M β := fun h => if ds.length ≤ sizeMax then κ h else none
def storeK (o i v : D) (κ : M β) : M β := bnd (setItem o i v) fun _ => κ
def negK (x : D) (κ : D → M β) : M β := match x with
  | .int i => κ (.int (-i))
  | _ => bad
def iteB (b : Bool) (x y : M β) : M β := fun h => if b = true then x h else y h
noncomputable def seqK (C : Cal) (cs : List S) (κ : Fl → M β) : Fl → M β
  | .rt r => κ (.rt r)
  | .nx s => bnd (semSs C cs s) κ
def itK (x : D) (κ : List D × Option Nat → M β) : M β := bnd (ask fun h => seqOf h x) fun ds => κ (ds, match x with
    | .ref n => some n
    | _ => none)
variable {C : Cal} {s : St} {h h' : AH} {κ : D → M β} {κl : List D → M β} {κs : St → M β} {κf : Fl → M β} {κb : Bool → M β}
theorem bnd_assoc {m : M α} {f : α → M γ} {g : γ → M β} : bnd (bnd m f) g = bnd m fun x => bnd (f x) g := by
  funext h
  simp only [bnd]
  cases m h with
  | none => rfl
  | some p => rfl
theorem bnd_congr {m : M α} {f g : α → M β} (e : ∀ a, f a = g a) : bnd m f = bnd m g := by rw [show f = g from funext e]
theorem bnd_ret {a : α} {f : α → M β} : bnd (ret a) f = f a := rfl
theorem bnd_bad {f : α → M β} : bnd bad f = bad := rfl
theorem bnd_of {m : M α} {f : α → M β} {a : α} (e : m h = some (a, h')) : bnd m f h = f a h' := by simp only [bnd, e]
theorem bnd_ite {b : Bool} {x y : M α} {f : α → M β} : bnd (if b = true then x else y) f = iteB b (bnd x f) (bnd y f) := by
  funext h
  cases b <;> rfl
theorem iteB_T {x y : M β} : iteB true x y h = x h := rfl
theorem iteB_F {x y : M β} : iteB false x y h = y h := rfl
theorem iteB_is {b : Bool} {x y : M β} : iteB b x y h = if b = true then x h else y h := rfl
theorem iteB_t {b : Bool} {x y : M β} (e : b = true) : iteB b x y h = x h := by rw [e]; rfl
theorem iteB_f {b : Bool} {x y : M β} (e : b = false) : iteB b x y h = y h := by rw [e]; rfl

/-! the head's steps -/
theorem slotK_0 {d : D} : slotK (some d :: s) 0 κ h = κ d h := rfl
theorem slotK_s {x : Option D} {i : Nat} : slotK (x :: s) (i + 1) κ h = slotK s i κ h := by cases x <;> rfl
theorem setK_0 {x : Option D} {d : D} : setK (x :: s) 0 d κs h = κs (some d :: s) h := by cases x <;> rfl
theorem setK_s {x : Option D} {i : Nat} {d : D} : setK (x :: s) (i + 1) d κs h = setK s i d (fun s' => κs (x :: s')) h := by cases x <;> rfl
theorem slotK_is : ∀ (s : St) (i : Nat) (κ : D → M β), bnd (opt (s[i]?.join)) κ = slotK s i κ
  | [], i, κ => by cases i <;> rfl
  | none :: s, 0, κ => rfl
  | some d :: s, 0, κ => rfl
  | x :: s, i + 1, κ => by
    have := slotK_is s i κ
    cases x <;> (simp only [List.getElem?_cons_succ, this]; rfl)
theorem setK_is : ∀ (s : St) (i : Nat) (d : D) (κs : St → M β), bnd (if i < s.length then ret (s.set i (some d)) else bad) κs = setK s i d κs
  | [], i, d, κs => by cases i <;> rfl
  | x :: s, 0, d, κs => by cases x <;> rfl
  | x :: s, i + 1, d, κs => by
    have q := setK_is s i d fun s' => κs (x :: s')
    have e : setK (x :: s) (i + 1) d κs = setK s i d fun s' => κs (x :: s') := by cases x <;> rfl
    rw [e, ← q]
    simp only [List.length_cons, Nat.add_lt_add_iff_right, List.set_cons_succ]
    split <;> rfl
theorem nthK_0 {d : D} {ds : List D} : nthK (d :: ds) 0 κ h = κ d h := rfl
theorem nthK_s {d : D} {ds : List D} {i : Nat} : nthK (d :: ds) (i + 1) κ h = nthK ds i κ h := rfl
theorem nthK_is : ∀ (ds : List D) (i : Nat), κ (ds.getD i .non) = nthK ds i κ
  | [], i => by simp [nthK]
  | d :: ds, 0 => rfl
  | d :: ds, i + 1 => by
    rw [List.getD_cons_succ, nthK_is ds i]
    rfl
theorem permK_0 {ds : List D} : permK [] ds κl h = κl [] h := rfl
theorem permK_s {p : Nat} {ps : List Nat} {ds : List D} : permK (p :: ps) ds κl h = nthK ds p (fun d => permK ps ds fun as => κl (d :: as)) h := rfl
theorem permK_is : ∀ (ps : List Nat) (ds : List D) (κl : List D → M β), κl (ps.map fun k => ds.getD k .non) = permK ps ds κl
  | [], ds, κl => rfl
  | p :: ps, ds, κl => by
    rw [List.map_cons, permK_is ps ds fun as => κl (ds.getD p .non :: as)]
    show _ = nthK ds p fun d => permK ps ds fun as => κl (d :: as)
    rw [← nthK_is]
theorem bnd_size {ds : List D} {d : α} {f : α → M β} : bnd (if ds.length ≤ sizeMax then ret d else bad) f = sizeK ds (f d) := by
  funext h
  unfold sizeK
  split <;> rfl
theorem sizeK_is {ds : List D} {m : M β} (e : ds.length ≤ sizeMax) : sizeK ds m h = m h := if_pos e
theorem sz_0 {m : M β} : sizeK [] m h = m h := if_pos (by simp only [List.length_cons, List.length_nil]; decide +kernel)
theorem sz_1 {d0 : D} {m : M β} : sizeK [d0] m h = m h := if_pos (by simp only [List.length_cons, List.length_nil]; decide +kernel)
theorem sz_2 {d0 d1 : D} {m : M β} : sizeK [d0, d1] m h = m h := if_pos (by simp only [List.length_cons, List.length_nil]; decide +kernel)
theorem sz_3 {d0 d1 d2 : D} {m : M β} : sizeK [d0, d1, d2] m h = m h := if_pos (by simp only [List.length_cons, List.length_nil]; decide +kernel)
theorem sz_4 {d0 d1 d2 d3 : D} {m : M β} : sizeK [d0, d1, d2, d3] m h = m h := if_pos (by simp only [List.length_cons, List.length_nil]; decide +kernel)
theorem sz_5 {d0 d1 d2 d3 d4 : D} {m : M β} : sizeK [d0, d1, d2, d3, d4] m h = m h := if_pos (by simp only [List.length_cons, List.length_nil]; decide +kernel)
theorem sz_6 {d0 d1 d2 d3 d4 d5 : D} {m : M β} : sizeK [d0, d1, d2, d3, d4, d5] m h = m h := if_pos (by simp only [List.length_cons, List.length_nil]; decide +kernel)
theorem sz_7 {d0 d1 d2 d3 d4 d5 d6 : D} {m : M β} : sizeK [d0, d1, d2, d3, d4, d5, d6] m h = m h := if_pos (by simp only [List.length_cons, List.length_nil]; decide +kernel)
theorem sz_8 {d0 d1 d2 d3 d4 d5 d6 d7 : D} {m : M β} : sizeK [d0, d1, d2, d3, d4, d5, d6, d7] m h = m h := if_pos (by simp only [List.length_cons, List.length_nil]; decide +kernel)
theorem sz_9 {d0 d1 d2 d3 d4 d5 d6 d7 d8 : D} {m : M β} : sizeK [d0, d1, d2, d3, d4, d5, d6, d7, d8] m h = m h := if_pos (by simp only [List.length_cons, List.length_nil]; decide +kernel)
theorem sz_10 {d0 d1 d2 d3 d4 d5 d6 d7 d8 d9 : D} {m : M β} : sizeK [d0, d1, d2, d3, d4, d5, d6, d7, d8, d9] m h = m h := if_pos (by simp only [List.length_cons, List.length_nil]; decide +kernel)
theorem sz_11 {d0 d1 d2 d3 d4 d5 d6 d7 d8 d9 d10 : D} {m : M β} : sizeK [d0, d1, d2, d3, d4, d5, d6, d7, d8, d9, d10] m h = m h := if_pos (by simp only [List.length_cons, List.length_nil]; decide +kernel)
theorem sz_12 {d0 d1 d2 d3 d4 d5 d6 d7 d8 d9 d10 d11 : D} {m : M β} : sizeK [d0, d1, d2, d3, d4, d5, d6, d7, d8, d9, d10, d11] m h = m h := if_pos (by simp only [List.length_cons, List.length_nil]; decide +kernel)
theorem sz_13 {d0 d1 d2 d3 d4 d5 d6 d7 d8 d9 d10 d11 d12 : D} {m : M β} : sizeK [d0, d1, d2, d3, d4, d5, d6, d7, d8, d9, d10, d11, d12] m h = m h := if_pos (by simp only [List.length_cons, List.length_nil]; decide +kernel)
theorem sz_14 {d0 d1 d2 d3 d4 d5 d6 d7 d8 d9 d10 d11 d12 d13 : D} {m : M β} : sizeK [d0, d1, d2, d3, d4, d5, d6, d7, d8, d9, d10, d11, d12, d13] m h = m h := if_pos (by simp only [List.length_cons, List.length_nil]; decide +kernel)
theorem e_v {i : Nat} : bnd (semE C (.v i) s) κ h = slotK s i κ h := by
  show bnd (opt (s[i]?.join)) κ h = _
  rw [slotK_is]
theorem e_c {d : D} : bnd (semE C (.c d) s) κ h = κ d h := rfl
theorem e_tup {es : List E} : bnd (semE C (.tup es) s) κ h = bnd (semEs C es s) (fun ds => sizeK ds (κ (.tup ds))) h := by
  show bnd (bnd (semEs C es s) fun ds => if ds.length ≤ sizeMax then ret (.tup ds) else bad) κ h = _
  rw [bnd_assoc, bnd_congr fun ds => bnd_size]
theorem e_lstv {f : F} : bnd (semE C (.lstv f) s) κ h = bnd (semF C f s) (fun ds => κ (.lst ds)) h := by
  show bnd (bnd (semF C f s) fun ds => ret (.lst ds)) κ h = _
  rw [bnd_assoc]; rfl
theorem e_alloc {f : F} : bnd (semE C (.alloc f) s) κ h = bnd (semF C f s) (fun ds => bnd (newLst ds) κ) h := by
  show bnd (bnd (semF C f s) newLst) κ h = _
  rw [bnd_assoc]
theorem e_bin {op : Bop} {a b : E} : bnd (semE C (.bin op a b) s) κ h = bnd (semE C a s) (fun x => bnd (semE C b s) fun y => binK op x y κ) h := by
  show bnd (bnd (semE C a s) fun x => bnd (semE C b s) fun y => opt (binD op x y)) κ h = _
  rw [bnd_assoc, bnd_congr fun x => bnd_assoc]; rfl
theorem e_neg {a : E} : bnd (semE C (.neg a) s) κ h = bnd (semE C a s) (fun x => negK x κ) h := by
  show bnd (bnd (semE C a s) fun x => match x with
    | .int i => ret (.int (-i))
    | _ => bad) κ h = _
  rw [bnd_assoc]
  congr 1
  funext x
  cases x <;> rfl
theorem e_cmp {op : Cop} {a b : E} : bnd (semE C (.cmp op a b) s) κ h = bnd (semE C a s) (fun x => bnd (semE C b s) fun y => cmpK op x y fun k => κ (.bl k)) h := by
  show bnd (bnd (semE C a s) fun x => bnd (semE C b s) fun y => bnd (ask fun h => cmpD h op x y) fun k => ret (.bl k)) κ h = _
  rw [bnd_assoc, bnd_congr fun x => bnd_assoc]
  rw [bnd_congr fun x => bnd_congr fun y => bnd_assoc]; rfl
theorem e_chain {op op' : Cop} {a b c : E} : bnd (semE C (.chain op op' a b c) s) κ h = bnd (semE C a s) (fun x => bnd (semE C b s) fun y => cmpK op x y fun k =>
    iteB k (bnd (semE C c s) fun z => cmpK op' y z fun k' => κ (.bl k')) (κ (.bl false))) h := by
  show bnd (bnd (semE C a s) fun x => bnd (semE C b s) fun y => bnd (ask fun h => cmpD h op x y) fun k =>
      if k = true then bnd (semE C c s) fun z => bnd (ask fun h => cmpD h op' y z) fun k' => ret (.bl k') else ret (.bl false)) κ h = _
  rw [bnd_assoc, bnd_congr fun x => bnd_assoc]
  rw [bnd_congr fun x => bnd_congr fun y => bnd_assoc]
  rw [bnd_congr fun x => bnd_congr fun y => bnd_congr fun k => bnd_ite]
  rw [bnd_congr fun x => bnd_congr fun y => bnd_congr fun k => congrArg (fun z => iteB k z _) bnd_assoc]
  rw [bnd_congr fun x => bnd_congr fun y => bnd_congr fun k => congrArg (fun z => iteB k z _) (bnd_congr fun z => bnd_assoc)]
  rfl
theorem e_and {a b : E} : bnd (semE C (.and a b) s) κ h = bnd (semE C a s) (fun x => blK x fun k => iteB k (bnd (semE C b s) κ) (κ (.bl false))) h := by
  show bnd (bnd (semE C a s) fun x => bnd (opt (tBl x)) fun k => if k = true then semE C b s else ret (.bl false)) κ h = _
  rw [bnd_assoc, bnd_congr fun x => bnd_assoc]
  rw [bnd_congr fun x => bnd_congr fun y => bnd_ite]; rfl
theorem e_or {a b : E} : bnd (semE C (.or a b) s) κ h = bnd (semE C a s) (fun x => blK x fun k => iteB k (κ (.bl true)) (bnd (semE C b s) κ)) h := by
  show bnd (bnd (semE C a s) fun x => bnd (opt (tBl x)) fun k => if k = true then ret (.bl true) else semE C b s) κ h = _
  rw [bnd_assoc, bnd_congr fun x => bnd_assoc]
  rw [bnd_congr fun x => bnd_congr fun y => bnd_ite]; rfl
theorem e_not {a : E} : bnd (semE C (.not a) s) κ h = bnd (semE C a s) (fun x => blK x fun k => κ (.bl (!k))) h := by
  show bnd (bnd (semE C a s) fun x => bnd (opt (tBl x)) fun k => ret (.bl (!k))) κ h = _
  rw [bnd_assoc, bnd_congr fun x => bnd_assoc]; rfl
theorem e_ite {t a b : E} : bnd (semE C (.ite t a b) s) κ h = bnd (semE C t s) (fun x => blK x fun k => iteB k (bnd (semE C a s) κ) (bnd (semE C b s) κ)) h := by
  show bnd (bnd (semE C t s) fun x => bnd (opt (tBl x)) fun k => if k = true then semE C a s else semE C b s) κ h = _
  rw [bnd_assoc, bnd_congr fun x => bnd_assoc]
  rw [bnd_congr fun x => bnd_congr fun y => bnd_ite]; rfl
theorem e_idx {a i : E} : bnd (semE C (.idx a i) s) κ h = bnd (semE C a s) (fun x => bnd (semE C i s) fun y => idxK x y κ) h := by
  show bnd (bnd (semE C a s) fun x => bnd (semE C i s) fun y => ask fun h => idxD h x y) κ h = _
  rw [bnd_assoc, bnd_congr fun x => bnd_assoc]; rfl
def kidxK (tab : List (Str × D)) (x : D) (κ : D → M β) : M β := bnd (opt (kidxD tab x)) κ
theorem e_kidx {n : Str} {tab : List (Str × D)} {a : E} : bnd (semE C (.kidx n tab a) s) κ h = bnd (semE C a s) (fun x => kidxK tab x κ) h := by
  show bnd (bnd (semE C a s) fun x => opt (kidxD tab x)) κ h = _
  rw [bnd_assoc]; rfl
theorem e_call {f : Nat} {perm : List Nat} {es : List E} : bnd (semE C (.call f perm es) s) κ h = bnd (semEs C es s) (fun ds => permK perm ds fun as => bnd (C f as) κ) h := by
  show bnd (bnd (semEs C es s) fun ds => C f (perm.map fun k => ds.getD k .non)) κ h = _
  rw [bnd_assoc]
  congr 1
  funext ds
  exact permK_is perm ds fun as => bnd (C f as) κ
theorem e_bi {b : Bi} {es : List E} : bnd (semE C (.bi b es) s) κ h = bnd (semEs C es s) (fun ds => biK b ds κ) h := by
  show bnd (bnd (semEs C es s) fun ds => ask fun h => biD h b ds) κ h = _
  rw [bnd_assoc]; rfl
theorem es_nil : bnd (semEs C [] s) κl h = κl [] h := rfl
theorem es_cons {e : E} {es : List E} : bnd (semEs C (e :: es) s) κl h = bnd (semE C e s) (fun d => bnd (semEs C es s) fun ds => κl (d :: ds)) h := by
  show bnd (bnd (semE C e s) fun d => bnd (semEs C es s) fun ds => ret (d :: ds)) κl h = _
  rw [bnd_assoc, bnd_congr fun x => bnd_assoc]; rfl
theorem f_disp {es : List E} : bnd (semF C (.disp es) s) κl h = bnd (semEs C es s) (fun ds => sizeK ds (κl ds)) h := by
  show bnd (bnd (semEs C es s) fun ds => if ds.length ≤ sizeMax then ret ds else bad) κl h = _
  rw [bnd_assoc, bnd_congr fun ds => bnd_size]
theorem new_lst {ds : List D} (e : D.rfs ds = true) : bnd (newLst ds) κ h = κ (.ref h.length) (h ++ [.lst ds]) := bnd_of (by unfold newLst; rw [if_pos e])
theorem new_3 {a b c : Int} : bnd (newLst [.int a, .int b, .int c]) κ h = κ (.ref h.length) (h ++ [.lst [.int a, .int b, .int c]]) := new_lst rfl
theorem new_0 : bnd (newLst []) κ h = κ (.ref h.length) (h ++ [.lst []]) := new_lst rfl
theorem t_nm {i : Nat} {d : D} : bnd (semT C (.nm i) d s) κs h = setK s i d κs h := by
  show bnd (if i < s.length then ret (s.set i (some d)) else bad) κs h = _
  rw [setK_is]
theorem t_tup {ts : List Tg} {ds : List D} : bnd (semT C (.tup ts) (.tup ds) s) κs h = bnd (semTs C ts ds s) κs h := rfl
theorem t_lst {ts : List Tg} {ds : List D} : bnd (semT C (.tup ts) (.lst ds) s) κs h = bnd (semTs C ts ds s) κs h := rfl
theorem t_sub {a i : E} {d : D} : bnd (semT C (.sub a i) d s) κs h = bnd (semE C a s) (fun o => bnd (semE C i s) fun k => storeK o k d (κs s)) h := by
  show bnd (bnd (semE C a s) fun o => bnd (semE C i s) fun k => bnd (setItem o k d) fun _ => ret s) κs h = _
  rw [bnd_assoc, bnd_congr fun x => bnd_assoc]
  rw [bnd_congr fun x => bnd_congr fun y => bnd_assoc]; rfl
theorem ts_nil : bnd (semTs C [] [] s) κs h = κs s h := rfl
theorem ts_cons {t : Tg} {ts : List Tg} {d : D} {ds : List D} : bnd (semTs C (t :: ts) (d :: ds) s) κs h = bnd (semT C t d s) (fun s' => bnd (semTs C ts ds s') κs) h := by
  show bnd (bnd (semT C t d s) fun s' => semTs C ts ds s') κs h = _
  rw [bnd_assoc]
/-! statements -/
theorem ss_nil : bnd (semSs C [] s) κf h = κf (.nx s) h := rfl
theorem ss_cons {c : S} {cs : List S} : bnd (semSs C (c :: cs) s) κf h = bnd (semS C c s) (seqK C cs κf) h := by
  show bnd (bnd (semS C c s) fun f => match f with
    | .rt r => ret (.rt r)
    | .nx s' => semSs C cs s') κf h = _
  rw [bnd_assoc]
  congr 1
  funext f
  cases f <;> rfl
theorem seqK_rt {cs : List S} {r : D} : seqK C cs κf (.rt r) h = κf (.rt r) h := rfl
theorem seqK_nx {cs : List S} : seqK C cs κf (.nx s) h = bnd (semSs C cs s) κf h := rfl
theorem s_asg {t : Tg} {e : E} : bnd (semS C (.asg t e) s) κf h = bnd (semE C e s) (fun d => bnd (semT C t d s) fun s' => κf (.nx s')) h := by
  show bnd (bnd (semE C e s) fun d => bnd (semT C t d s) fun s' => ret (.nx s')) κf h = _
  rw [bnd_assoc, bnd_congr fun x => bnd_assoc]; rfl
theorem s_aug {i : Nat} {op : Bop} {e : E} : bnd (semS C (.aug i op e) s) κf h = slotK s i (fun x => bnd (semE C e s) fun y => augK op x y fun z => κf (.nx (s.set i (some z)))) h := by
  show bnd (bnd (opt (s[i]?.join)) fun x => bnd (semE C e s) fun y => bnd (opt (augD op x y)) fun z => ret (.nx (s.set i (some z)))) κf h = _
  rw [bnd_assoc, bnd_congr fun x => bnd_assoc]
  rw [bnd_congr fun x => bnd_congr fun y => bnd_assoc, slotK_is]; rfl
theorem s_expr {e : E} : bnd (semS C (.expr e) s) κf h = bnd (semE C e s) (fun _ => κf (.nx s)) h := by
  show bnd (bnd (semE C e s) fun _ => ret (.nx s)) κf h = _
  rw [bnd_assoc]; rfl
theorem s_ret {e : E} : bnd (semS C (.ret e) s) κf h = bnd (semE C e s) (fun d => κf (.rt d)) h := by
  show bnd (bnd (semE C e s) fun d => ret (.rt d)) κf h = _
  rw [bnd_assoc]; rfl
theorem s_retN : bnd (semS C .retN s) κf h = κf (.rt .non) h := rfl
theorem s_pass : bnd (semS C .pass s) κf h = κf (.nx s) h := rfl
theorem s_ite {t : E} {a b : List S} : bnd (semS C (.ite t a b) s) κf h = bnd (semE C t s) (fun x => blK x fun k => iteB k (bnd (semSs C a s) κf) (bnd (semSs C b s) κf)) h := by
  show bnd (bnd (semE C t s) fun x => bnd (opt (tBl x)) fun k => if k = true then semSs C a s else semSs C b s) κf h = _
  rw [bnd_assoc, bnd_congr fun x => bnd_assoc]
  rw [bnd_congr fun x => bnd_congr fun y => bnd_ite]; rfl
/-- one turn of a for -/
noncomputable def bodyF (C : Cal) (t : Tg) (body : List S) (d : D) (s : St) : M Fl := bnd (semT C t d s) fun s' => semSs C body s'
theorem s_for {t : Tg} {it : It} {body : List S} : bnd (semS C (.for t it body) s) κf h = bnd (semIt C it s) (fun p => bnd (forL p.1 p.2 (bodyF C t body) p.1 s) κf) h := by
  show bnd (bnd (semIt C it s) fun p => forL p.1 p.2 (fun d s' => bnd (semT C t d s') fun s'' => semSs C body s'') p.1 s) κf h = _
  rw [bnd_assoc]; rfl
theorem bodyF_is {t : Tg} {body : List S} {d : D} {s : St} {κ : Fl → M β} : bnd (bodyF C t body d s) κ h = bnd (semT C t d s) (fun s' => bnd (semSs C body s') κ) h := by
  show bnd (bnd (semT C t d s) fun s' => semSs C body s') κ h = _
  rw [bnd_assoc]
def rgK (x : D) (κ : List D × Option Nat → M β) : M β := match x with
  | .int i => fun h => if rgOk i = true then κ (rangeL 0 i.toNat, none) h else none
  | _ => bad
def rgK2 (x y : D) (κ : List D × Option Nat → M β) : M β := match x, y with
  | .int i, .int j => fun h => if rgOk i = true ∧ rgOk j = true then κ (rangeL i (j - i).toNat, none) h else none
  | _, _ => bad
variable {κi : List D × Option Nat → M β}
theorem i_range1 {a : E} : bnd (semIt C (.range1 a) s) κi h = bnd (semE C a s) (fun x => rgK x κi) h := by
  show bnd (bnd (semE C a s) fun x => match x with
    | .int i => if rgOk i = true then ret (rangeL 0 i.toNat, none) else bad
    | _ => bad) κi h = _
  rw [bnd_assoc]
  congr 1
  funext x h
  cases x <;> first | rfl | skip
  simp only [rgK]
  split <;> rfl
theorem i_range2 {a b : E} : bnd (semIt C (.range2 a b) s) κi h = bnd (semE C a s) (fun x => bnd (semE C b s) fun y => rgK2 x y κi) h := by
  show bnd (bnd (semE C a s) fun x => bnd (semE C b s) fun y => match x, y with
    | .int i, .int j => if rgOk i = true ∧ rgOk j = true then ret (rangeL i (j - i).toNat, none) else bad
    | _, _ => bad) κi h = _
  rw [bnd_assoc, bnd_congr fun x => bnd_assoc]
  congr 1
  funext x
  congr 1
  funext y h
  cases x <;> cases y <;> first | rfl | skip
  simp only [rgK2]
  split <;> rfl
theorem i_seq {e : E} : bnd (semIt C (.seq e) s) κi h = bnd (semE C e s) (fun x => itK x κi) h := by
  show bnd (bnd (semE C e s) fun x => bnd (ask fun h => seqOf h x) fun ds => ret (ds, match x with
    | .ref n => some n
    | _ => none)) κi h = _
  rw [bnd_assoc, bnd_congr fun x => bnd_assoc]; rfl
theorem i_zipS {a b : E} : bnd (semIt C (.zipS a b) s) κi h = bnd (semE C a s) (fun x => bnd (semE C b s) fun y => optK (zipD x y) fun ds => κi (ds, none)) h := by
  show bnd (bnd (semE C a s) fun x => bnd (semE C b s) fun y => bnd (opt (zipD x y)) fun ds => ret (ds, none)) κi h = _
  rw [bnd_assoc, bnd_congr fun x => bnd_assoc]
  rw [bnd_congr fun x => bnd_congr fun y => bnd_assoc]; rfl
theorem i_enumS {k : Nat} {a : E} : bnd (semIt C (.enumS k a) s) κi h = bnd (semE C a s) (fun x => optK (enumD k x) fun ds => κi (ds, none)) h := by
  show bnd (bnd (semE C a s) fun x => bnd (opt (enumD k x)) fun ds => ret (ds, none)) κi h = _
  rw [bnd_assoc, bnd_congr fun x => bnd_assoc]; rfl
theorem rgOk_is {i : Int} (h1 : -(2 ^ 62) ≤ i) (h2 : i < 2 ^ 62) : rgOk i = true := by simp only [rgOk, h1, h2, decide_true, Bool.and_self]
theorem rgK_is {i : Int} (h1 : -(2 ^ 62) ≤ i) (h2 : i < 2 ^ 62) : rgK (.int i) κi h = κi (rangeL 0 i.toNat, none) h := if_pos (rgOk_is h1 h2)
theorem rgK2_is {i j : Int} (h1 : -(2 ^ 62) ≤ i) (h2 : i < 2 ^ 62) (h3 : -(2 ^ 62) ≤ j) (h4 : j < 2 ^ 62) : rgK2 (.int i) (.int j) κi h = κi (rangeL i (j - i).toNat, none) h := if_pos ⟨rgOk_is h1 h2, rgOk_is h3 h4⟩
theorem itK_lst {ds : List D} : itK (.lst ds) κi h = κi (ds, none) h := rfl
theorem itK_tup {ds : List D} : itK (.tup ds) κi h = κi (ds, none) h := rfl
theorem e_slice {bl bh : Bool} {a lo hi : E} : bnd (semE C (.slice bl bh a lo hi) s) κ h = bnd (semE C a s) (fun x => iteB bl (bnd (semE C lo s) fun l => partK l fun l => iteB bh (bnd (semE C hi s) fun u => partK u fun u => sliK x l u κ) (sliK x l none κ)) (iteB bh (bnd (semE C hi s) fun u => partK u fun u => sliK x none u κ) (sliK x none none κ))) h := by
  show bnd (bnd (semE C a s) fun x => bnd (if bl = true then bnd (semE C lo s) fun l => opt (partD l) else ret none) fun l => bnd (if bh = true then bnd (semE C hi s) fun u => opt (partD u) else ret none) fun u => opt (sliD x l u)) κ h = _
  rw [bnd_assoc]
  congr 1
  funext x
  cases bl <;> cases bh <;> funext h' <;> simp only [Bool.false_eq_true, if_false, if_true, bnd_assoc, iteB, partK, sliK, bnd_ret] <;> rfl
theorem f_slc {bl bh : Bool} {a lo hi : E} : bnd (semF C (.slc bl bh a lo hi) s) κl h = bnd (semE C a s) (fun x => iteB bl (bnd (semE C lo s) fun l => partK l fun l => iteB bh (bnd (semE C hi s) fun u => partK u fun u => slcK x l u κl) (slcK x l none κl)) (iteB bh (bnd (semE C hi s) fun u => partK u fun u => slcK x none u κl) (slcK x none none κl))) h := by
  show bnd (bnd (semE C a s) fun x => bnd (if bl = true then bnd (semE C lo s) fun l => opt (partD l) else ret none) fun l => bnd (if bh = true then bnd (semE C hi s) fun u => opt (partD u) else ret none) fun u => ask fun h => (lstOf h x).map fun ds => cutD ds l u) κl h = _
  rw [bnd_assoc]
  congr 1
  funext x
  cases bl <;> cases bh <;> funext h' <;> simp only [Bool.false_eq_true, if_false, if_true, bnd_assoc, iteB, partK, slcK, bnd_ret] <;> rfl
theorem f_cat {a b : E} : bnd (semF C (.cat a b) s) κl h = bnd (semE C a s) (fun x => bnd (semE C b s) fun y => catK x y κl) h := by
  show bnd (bnd (semE C a s) fun x => bnd (semE C b s) fun y => _) κl h = _
  rw [bnd_assoc, bnd_congr fun x => bnd_assoc]; rfl
theorem f_lst1 {a : E} : bnd (semF C (.lst1 a) s) κl h = bnd (semE C a s) (fun x => seqK1 x κl) h := by
  show bnd (bnd (semE C a s) fun x => ask fun h => seqOf h x) κl h = _
  rw [bnd_assoc]; rfl
/-- one turn of a comprehension -/
def turnC (C : Cal) (p : Pt) (own : List Nat) (ifs : List E) (elt : E) (s : St) (d : D) : M (Option D) := bnd (opt (semP p d (wipeS s own))) fun s2 => bnd (semIfs C ifs s2) fun k => if k = true then bnd (semE C elt s2) fun y => ret (some y) else ret none
theorem f_comp {p : Pt} {own : List Nat} {it : It} {ifs : List E} {elt : E} : bnd (semF C (.comp p own it ifs elt) s) κl h = bnd (semIt C it s) (fun w => bnd (compL w.1 w.2 (turnC C p own ifs elt s) w.1) fun r => sizeK r (κl r)) h := by
  show bnd (bnd (semIt C it s) fun w => bnd (compL w.1 w.2 (turnC C p own ifs elt s) w.1) fun r => if r.length ≤ sizeMax then ret r else bad) κl h = _
  rw [bnd_assoc, bnd_congr fun w => bnd_assoc]
  rw [bnd_congr fun w => bnd_congr fun r => bnd_size]
theorem turnC_is {p : Pt} {own : List Nat} {ifs : List E} {elt : E} {d : D} {κo : Option D → M β} : bnd (turnC C p own ifs elt s d) κo h = optK (semP p d (wipeS s own)) (fun s2 => bnd (semIfs C ifs s2) fun k => iteB k (bnd (semE C elt s2) fun y => κo (some y)) (κo none)) h := by
  show bnd (bnd (opt (semP p d (wipeS s own))) fun s2 => bnd (semIfs C ifs s2) fun k => if k = true then bnd (semE C elt s2) fun y => ret (some y) else ret none) κo h = _
  rw [bnd_assoc, bnd_congr fun w => bnd_assoc]
  rw [bnd_congr fun w => bnd_congr fun r => bnd_ite]
  rw [bnd_congr fun w => bnd_congr fun r => congrArg (fun z => iteB r z _) bnd_assoc]; rfl
theorem ifs_nil : bnd (semIfs C [] s) κb h = κb true h := rfl
theorem ifs_one {e : E} : bnd (semIfs C [e] s) κb h = bnd (semE C e s) (fun x => blK x κb) h := by
  show bnd (bnd (semE C e s) fun x => opt (tBl x)) κb h = _
  rw [bnd_assoc]; rfl
theorem optK_some {α : Type} {a : α} {κa : α → M β} : optK (some a) κa h = κa a h := rfl
theorem partK_i {i : Int} {κo : Option Int → M β} : partK (.int i) κo h = κo (some i) h := rfl
theorem s_app {a e : E} : bnd (semS C (.app a e) s) κf h = bnd (semE C a s) (fun o => isLK o (bnd (semE C e s) fun v => appK o v (κf (.nx s)))) h := by
  show bnd (bnd (semE C a s) fun o => bnd (ask fun h => isLst h o) fun _ => bnd (semE C e s) fun v => bnd (appItem o v) fun _ => ret (.nx s)) κf h = _
  rw [bnd_assoc, bnd_congr fun x => bnd_assoc]
  rw [bnd_congr fun x => bnd_congr fun y => bnd_assoc]
  rw [bnd_congr fun x => bnd_congr fun y => bnd_congr fun z => bnd_assoc]; rfl
theorem e_kget {n : Str} {tab : List (Str × D)} {a : E} : bnd (semE C (.kget n tab a) s) κ h = bnd (semE C a s) (fun x => kidxK tab x κ) h := by
  show bnd (bnd (semE C a s) fun x => opt (kidxD tab x)) κ h = _
  rw [bnd_assoc]; rfl
theorem e_dnew {t : Bool} : bnd (semE C (.dnew t) s) κ h = κ (.ref h.length) (h ++ [.dct t [] []]) := rfl
theorem e_dfin {t : Bool} : bnd (semE C (.dfin t) s) κ h = κ (.dct t [] []) h := rfl
/-- x = dict(y); x[k] = v -/
def dextK (s : St) (i : Nat) (t : Bool) (ks vs : List D) (z y : D) (κ : St → M β) : M β := fun h => if keyOk t z = true ∧ ks.length < sizeMax then κ (s.set i (some (.dct t (dputK t ks z) (dputV t ks vs z y)))) h else none
def dctK (x : D) (κ : Bool → List D → List D → M β) : M β := bnd (ask fun h => dctOf h x) fun p => κ p.1 p.2.1 p.2.2
def chkK (b : Bool) (κ : M β) : M β := fun h => if b = true then κ h else none
theorem s_dext {i : Nat} {a k v : E} : bnd (semS C (.dext i a k v) s) κf h = bnd (semE C a s) (fun x => dctK x fun t ks vs => chkK (decide (i < s.length) && !t) (bnd (semE C v (s.set i none)) fun y => bnd (semE C k (s.set i none)) fun z => dextK s i t ks vs z y fun s' => κf (.nx s'))) h := by
  show bnd (bnd (semE C a s) fun x => bnd (ask fun h => dctOf h x) fun p => bnd (if i < s.length ∧ p.1 = false then ret () else bad) fun _ => bnd (semE C v (s.set i none)) fun y => bnd (semE C k (s.set i none)) fun z =>
      if keyOk p.1 z = true ∧ p.2.1.length < sizeMax then ret (.nx (s.set i (some (.dct p.1 (dputK p.1 p.2.1 z) (dputV p.1 p.2.1 p.2.2 z y))))) else bad) κf h = _
  rw [bnd_assoc, bnd_congr fun x => bnd_assoc]
  congr 1
  funext x
  unfold dctK
  congr 1
  funext ⟨t, ks, vs⟩ h'
  simp only [chkK]
  by_cases hc : i < s.length ∧ t = false
  · obtain ⟨h1, rfl⟩ := hc
    simp only [h1, and_self, true_and, if_true, decide_true, Bool.not_false, Bool.and_self]
    rw [bnd_ret, bnd_assoc, bnd_congr fun y => bnd_assoc]
    congr 1
    funext y
    congr 1
    funext z h2
    simp only [dextK]
    by_cases h3 : keyOk false z = true ∧ ks.length < sizeMax
    · rw [if_pos h3, if_pos h3]; rfl
    · rw [if_neg h3, if_neg h3]; rfl
  · rw [if_neg hc]
    have : (decide (i < s.length) && !t) = false := by
      cases t
      · simp only [Bool.not_false, Bool.and_true, decide_eq_false_iff_not]
        exact fun z => hc ⟨z, rfl⟩
      · simp
    rw [this]
    rfl
theorem dctK_fin {t : Bool} {ks vs : List D} {κd : Bool → List D → List D → M β} : dctK (.dct t ks vs) κd h = κd t ks vs h := rfl
theorem chkK_T {κm : M β} : chkK true κm h = κm h := rfl
theorem dextK_is {i : Nat} {t : Bool} {ks vs : List D} {z y : D} (e : keyOk t z = true) (e' : ks.length < sizeMax) : dextK s i t ks vs z y κs h = κs (s.set i (some (.dct t (dputK t ks z) (dputV t ks vs z y)))) h := if_pos ⟨e, e'⟩
theorem x_dfin {t : Bool} {ks vs : List D} {i d : D} (hk : keyOk t i = true) (e : dgetD t ks vs i = some d) : idxK (.dct t ks vs) i κ h = κ d h := bnd_of (by simp only [ask, idxD, seqOf, dctOf, hk, if_true, e])
theorem x_dref {n : Nat} {t : Bool} {ks vs : List D} {i d : D} (hn : h[n]? = some (.dct t ks vs)) (hk : keyOk t i = true) (e : dgetD t ks vs i = some d) : idxK (.ref n) i κ h = κ d h := bnd_of (by simp only [ask, idxD, seqOf, dctOf, hn, hk, if_true, e])
theorem in_dref {n : Nat} {t : Bool} {ks vs : List D} {i : D} (hn : h[n]? = some (.dct t ks vs)) (hk : keyOk t i = true) : cmpK .isin i (.ref n) κb h = κb (dgetD t ks vs i).isSome h := bnd_of (by cases i <;> simp only [ask, cmpD, inD, seqOf, dctOf, hn, hk, if_true])
theorem notin_dref {n : Nat} {t : Bool} {ks vs : List D} {i : D} (hn : h[n]? = some (.dct t ks vs)) (hk : keyOk t i = true) : cmpK .notin i (.ref n) κb h = κb (!(dgetD t ks vs i).isSome) h := bnd_of (by cases i <;> simp only [ask, cmpD, inD, seqOf, dctOf, hn, hk, if_true, Option.map_some])
theorem in_dfin {t : Bool} {ks vs : List D} {i : D} (hk : keyOk t i = true) : cmpK .isin i (.dct t ks vs) κb h = κb (dgetD t ks vs i).isSome h := bnd_of (by cases i <;> simp only [ask, cmpD, inD, seqOf, dctOf, hk, if_true])
theorem notin_dfin {t : Bool} {ks vs : List D} {i : D} (hk : keyOk t i = true) : cmpK .notin i (.dct t ks vs) κb h = κb (!(dgetD t ks vs i).isSome) h := bnd_of (by cases i <;> simp only [ask, cmpD, inD, seqOf, dctOf, hk, if_true, Option.map_some])
theorem put_dref {n : Nat} {t : Bool} {ks vs : List D} {i v : D} {κm : M β} (hn : h[n]? = some (.dct t ks vs)) (hk : keyOk t i = true) (hl : ks.length < sizeMax) (hv : D.rf v = true) (hi : D.rf i = true) : storeK (.ref n) i v κm h = κm (h.set n (.dct t (dputK t ks i) (dputV t ks vs i v))) :=
  bnd_of (a := ()) (by simp only [setItem, hn, hk, hl, hv, hi, and_self, if_true])
theorem isL_is {n : Nat} {ds : List D} {κm : M β} (hn : h[n]? = some (.lst ds)) : isLK (.ref n) κm h = κm h := bnd_of (a := ()) (by simp only [ask, isLst, hn])
theorem app_ref {n : Nat} {ds : List D} {v : D} {κm : M β} (hn : h[n]? = some (.lst ds)) (hv : D.rf v = true) (hl : ds.length < sizeMax) : appK (.ref n) v κm h = κm (h.set n (.lst (ds ++ [v]))) := bnd_of (a := ()) (by simp only [appItem, hn, hv, hl, and_self, if_true])
theorem x_ref {n i : Nat} {ds : List D} {d : D} (hn : h[n]? = some (.lst ds)) (e : ds[i]? = some d) : idxK (.ref n) (.int i) κ h = κ d h := bnd_of (by simp only [ask, idxD, seqOf, hn, L2.atI_nat e])
theorem b_lenR {n : Nat} {ds : List D} (hn : h[n]? = some (.lst ds)) : biK .len [.ref n] κ h = κ (.int ds.length) h := bnd_of (by simp only [ask, biD, seqOf, hn, Option.map_some])
theorem b_lenS {z : Str} (e : z.length ≤ sizeMax) : biK .len [.str z] κ h = κ (.int z.length) h := bnd_of (by simp only [ask, biD, e, if_true])
theorem itK_ref {n : Nat} {ds : List D} (hn : h[n]? = some (.lst ds)) : itK (.ref n) κi h = κi (ds, some n) h := bnd_of (a := ds) (by simp only [ask, seqOf, hn])
theorem kidx_nil {x : D} : kidxK [] x κ h = none := by cases x <;> rfl
theorem kidx_hit {z : Str} {d : D} {tab : List (Str × D)} : kidxK ((z, d) :: tab) (.str z) κ h = κ d h := bnd_of (by simp only [opt, kidxD, List.lookup, beq_self_eq_true])
theorem kidx_miss {z y : Str} {d : D} {tab : List (Str × D)} (e : (y == z) = false) : kidxK ((z, d) :: tab) (.str y) κ h = kidxK tab (.str y) κ h := by simp only [kidxK, kidxD, List.lookup, e]
theorem c_strT {z : Str} : cmpK .eq (.str z) (.str z) κb h = κb true h := bnd_of (by simp only [ask, cmpD, eqD, decide_true])
theorem c_strF {z y : Str} (e : (z == y) = false) : cmpK .eq (.str z) (.str y) κb h = κb false h := bnd_of (by simp only [ask, cmpD, eqD, beq_eq_false_iff_ne.mp e, decide_false])
theorem c_nstrT {z : Str} : cmpK .ne (.str z) (.str z) κb h = κb false h := bnd_of (by simp only [ask, cmpD, eqD, decide_true, Option.map_some, Bool.not_true])
theorem c_nstrF {z y : Str} (e : (z == y) = false) : cmpK .ne (.str z) (.str y) κb h = κb true h := bnd_of (by simp only [ask, cmpD, eqD, beq_eq_false_iff_ne.mp e, decide_false, Option.map_some, Bool.not_false])
theorem c_isNs {z : Str} : cmpK .isN (.str z) .non κb h = κb false h := rfl
theorem c_isNi {z : Int} : cmpK .isN (.int z) .non κb h = κb false h := rfl
theorem c_eqP {a b : D} {p q : PyData} (e1 : D.py (derefD h a) = some p) (e2 : D.py (derefD h b) = some q) (h1 : SeqAt.shaped p = true) (h2 : SeqAt.shaped q = true) (hf : flatD a = false) : cmpK .eq a b κb h = κb (PyData.eqv p q) h := bnd_of (by
  simp only [ask, cmpD]
  have : eqD h a b = some (PyData.eqv p q) := by cases a <;> simp only [flatD] at hf <;> first | (cases hf; done) | simp only [eqD, e1, e2, h1, h2, and_self, if_true]
  rw [this])
theorem b_isaT {ds : List D} {t : Ty} : biK (.isa t) [.tup ds] κ h = κ (.bl (isaB .tuple t)) h := rfl
theorem b_isaS {z : Str} {t : Ty} : biK (.isa t) [.str z] κ h = κ (.bl (isaB .str t)) h := rfl
theorem s_setF {i : Nat} {f : F} : bnd (semS C (.setF false i f) s) κf h = bnd (semF C f s) (fun ds => setK s i (.lst ds) fun s' => κf (.nx s')) h := by
  show bnd (bnd (semF C f s) fun ds => bnd (ret (.lst ds)) fun d => if i < s.length then ret (Fl.nx (s.set i (some d))) else bad) κf h = _
  rw [bnd_assoc]
  congr 1
  funext ds h'
  rw [← setK_is]
  show bnd (if i < s.length then ret (Fl.nx (s.set i (some (.lst ds)))) else bad) κf h' = _
  split <;> rfl
theorem s_setA {i : Nat} {f : F} : bnd (semS C (.setF true i f) s) κf h = bnd (semF C f s) (fun ds => bnd (newLst ds) fun d => setK s i d fun s' => κf (.nx s')) h := by
  show bnd (bnd (semF C f s) fun ds => bnd (newLst ds) fun d => if i < s.length then ret (Fl.nx (s.set i (some d))) else bad) κf h = _
  rw [bnd_assoc, bnd_congr fun x => bnd_assoc]
  congr 1
  funext ds
  congr 1
  funext d h'
  rw [← setK_is]
  split <;> rfl
/-! operators -/
theorem o_aug_add {i j : Int} : augK .add (.int i) (.int j) κ h = κ (.int (i + j)) h := rfl
theorem o_aug_sub {i j : Int} : augK .sub (.int i) (.int j) κ h = κ (.int (i - j)) h := rfl
theorem b_int1 {i : Int} : biK .int1 [.int i] κ h = κ (.int i) h := rfl
theorem b_int1b {i : Bool} : biK .int1 [.bl i] κ h = κ (.int (if i = true then 1 else 0)) h := rfl
theorem b_tup1 {ds : List D} : biK .tup1 [.lst ds] κ h = κ (.tup ds) h := rfl
theorem b_tup1t {ds : List D} : biK .tup1 [.tup ds] κ h = κ (.tup ds) h := rfl
theorem c_isNt {ds : List D} : cmpK .isN (.tup ds) .non κb h = κb false h := rfl
theorem c_isNn : cmpK .isN .non .non κb h = κb true h := rfl
theorem x_tup {ds : List D} {i : Nat} {d : D} (e : ds[i]? = some d) : idxK (.tup ds) (.int i) κ h = κ d h := bnd_of (by simp only [ask, idxD, seqOf, L2.atI_nat e])
theorem comp_nil {all : List D} {g : Option Nat} {body : D → M (Option D)} : bnd (compL all g body []) κl h = κl [] h := rfl
theorem comp_cons {all : List D} {body : D → M (Option D)} {d : D} {ds : List D} : bnd (compL all none body (d :: ds)) κl h = bnd (body d) (fun o => bnd (compL all none body ds) fun r => κl (o.toList ++ r)) h := by
  show bnd (bnd (body d) fun o => bnd (stands all none) fun _ => bnd (compL all none body ds) fun r => ret (o.toList ++ r)) κl h = _
  rw [bnd_assoc]
  congr 1
  funext o
  show bnd (bnd (compL all none body ds) fun r => ret (o.toList ++ r)) κl = _
  rw [bnd_assoc]; rfl
theorem mulOk_l {i j : Int} (h : i.natAbs < 2 ^ 64) : mulOk i j = true := by simp [mulOk, h]
theorem mulOk_r {i j : Int} (h : j.natAbs < 2 ^ 64) : mulOk i j = true := by simp [mulOk, h]
theorem mulOk_w {i j : Int} (h : i.natAbs < 2 ^ 250) (h' : j.natAbs < 2 ^ 250) : mulOk i j = true := by simp [mulOk, h, h']
theorem o_add {i j : Int} : binK .add (.int i) (.int j) κ h = κ (.int (i + j)) h := rfl
theorem o_sub {i j : Int} : binK .sub (.int i) (.int j) κ h = κ (.int (i - j)) h := rfl
theorem o_mul {i j : Int} (e : mulOk i j = true) : binK .mul (.int i) (.int j) κ h = κ (.int (i * j)) h := bnd_of (by simp only [opt, binD, e, if_true])
theorem o_mul_l {i j : Int} (e : i.natAbs < 2 ^ 64) : binK .mul (.int i) (.int j) κ h = κ (.int (i * j)) h := o_mul (mulOk_l e)
theorem o_mul_r {i j : Int} (e : j.natAbs < 2 ^ 64) : binK .mul (.int i) (.int j) κ h = κ (.int (i * j)) h := o_mul (mulOk_r e)
theorem o_mod {i j : Int} (e : 0 < j) : binK .mod (.int i) (.int j) κ h = κ (.int (i % j)) h := bnd_of (by simp only [opt, binD, e, decide_true, if_true])
theorem o_fdiv {i j : Int} (e : 0 < j) (e' : j.natAbs < 2 ^ 250) : binK .fdiv (.int i) (.int j) κ h = κ (.int (i / j)) h := bnd_of (by simp only [opt, binD, divOk, e, e', decide_true, Bool.and_self, if_true])
theorem o_fdiv_s {i j : Int} (e : 0 < j) (e' : j.natAbs < 2 ^ 64) : binK .fdiv (.int i) (.int j) κ h = κ (.int (i / j)) h := o_fdiv e (Nat.lt_trans e' (by decide))
theorem o_pow {i j : Int} (e : 0 ≤ j) (e' : j ≤ 100000) (e2 : i.natAbs < 2 ^ 250) : binK .pow (.int i) (.int j) κ h = κ (.int (i ^ j.toNat)) h := bnd_of (by simp only [opt, binD, powOk, e, e', e2, decide_true, Bool.and_self, if_true])
theorem o_shl {i j : Int} (e : 0 ≤ j) (e' : j ≤ 100000) (e2 : i.natAbs < 2 ^ 64) : binK .shl (.int i) (.int j) κ h = κ (.int (i * 2 ^ j.toNat)) h := bnd_of (by simp only [opt, binD, shlOk, e, e', e2, decide_true, Bool.and_self, if_true])
theorem o_neg {i : Int} : negK (.int i) κ h = κ (.int (-i)) h := rfl
theorem c_lt {i j : Int} : cmpK .lt (.int i) (.int j) κb h = κb (decide (i < j)) h := rfl
theorem c_le {i j : Int} : cmpK .le (.int i) (.int j) κb h = κb (decide (i ≤ j)) h := rfl
theorem c_gt {i j : Int} : cmpK .gt (.int i) (.int j) κb h = κb (decide (j < i)) h := rfl
theorem c_ge {i j : Int} : cmpK .ge (.int i) (.int j) κb h = κb (decide (j ≤ i)) h := rfl
theorem c_eqI {i j : Int} : cmpK .eq (.int i) (.int j) κb h = κb (decide (i = j)) h := rfl
theorem c_neI {i j : Int} : cmpK .ne (.int i) (.int j) κb h = κb (!decide (i = j)) h := rfl
theorem bl_K {b : Bool} : blK (.bl b) κb h = κb b h := rfl
theorem b_len {x : D} {ds : List D} (e : seqOf h x = some ds) : biK .len [x] κ h = κ (.int ds.length) h := bnd_of (by cases x <;> first | (simp [seqOf] at e; done) | simp only [ask, biD, e, Option.map_some])
theorem b_lenL {ds : List D} : biK .len [.lst ds] κ h = κ (.int ds.length) h := rfl
theorem b_lenT {ds : List D} : biK .len [.tup ds] κ h = κ (.int ds.length) h := rfl
theorem b_abs {i : Int} : biK .abs [.int i] κ h = κ (.int (if i < 0 then -i else i)) h := rfl
theorem b_min2 {i j : Int} : biK .min2 [.int i, .int j] κ h = κ (.int (if j < i then j else i)) h := rfl
theorem b_max2 {i j : Int} : biK .max2 [.int i, .int j] κ h = κ (.int (if j > i then j else i)) h := rfl
theorem b_bits {i : Int} : biK .bitlen [.int i] κ h = κ (.int (Builtin.Int.intBits i : Nat)) h := rfl
theorem b_isaI {i : Int} {t : Ty} : biK (.isa t) [.int i] κ h = κ (.bl (isaB .int t)) h := rfl
theorem b_isaB {i : Bool} {t : Ty} : biK (.isa t) [.bl i] κ h = κ (.bl (isaB .bool t)) h := rfl
theorem b_isaI_i {i : Int} : biK (.isa .int) [.int i] κ h = κ (.bl true) h := rfl
theorem b_isaI_b {i : Int} : biK (.isa .bool) [.int i] κ h = κ (.bl false) h := rfl
theorem b_isaB_i {i : Bool} : biK (.isa .int) [.bl i] κ h = κ (.bl true) h := rfl
theorem b_isaB_b {i : Bool} : biK (.isa .bool) [.bl i] κ h = κ (.bl true) h := rfl
/-! lists -/
theorem x_lst {ds : List D} {i : Nat} {d : D} (e : ds[i]? = some d) : idxK (.lst ds) (.int i) κ h = κ d h := bnd_of (by simp only [ask, idxD, seqOf, L2.atI_nat e])
theorem x_set {n i : Nat} {ds : List D} {d : D} {h : AH} (hn : n < h.length) (e : ds[i]? = some d) : idxK (.ref n) (.int i) κ (h.set n (.lst ds)) = κ d (h.set n (.lst ds)) :=
  bnd_of (by simp only [ask, idxD, seqOf, List.getElem?_set_self hn, L2.atI_nat e])
theorem ixN_nat {n j : Nat} (h : j < n) : L2.ixN n (j : Int) = some j := by
  unfold L2.ixN
  rw [if_pos (by omega), if_pos (by omega)]; simp
theorem st_set {n i : Nat} {ds : List D} {v : D} {h : AH} {κm : M β} (hn : n < h.length) (e : i < ds.length) (hv : D.rf v = true) : storeK (.ref n) (.int i) v κm (h.set n (.lst ds)) = κm (h.set n (.lst (ds.set i v))) :=
  bnd_of (a := ()) (by simp only [setItem, List.getElem?_set_self hn, ixN_nat e, hv, if_true, List.set_set])
/-- an item of a written list of ints at a reckoned place -/
def pick (l : List Int) (i : Int) : Int := l.getD i.toNat 0
theorem x_pick {l : List Int} {i : Int} (h0 : 0 ≤ i) (h1 : i < l.length) : idxK (.lst (l.map .int)) (.int i) κ h = κ (.int (pick l i)) h := by
  have e : ((i.toNat : Nat) : Int) = i := by omega
  have hl : i.toNat < l.length := by omega
  rw [← e]
  refine (x_lst (d := .int (pick l i)) ?_).trans ?_
  · rw [List.getElem?_map, List.getElem?_eq_getElem hl]
    simp [pick, List.getD_eq_getElem?_getD, hl]
  · rw [e]
theorem x_pick2 {a b i : Int} (h0 : 0 ≤ i) (h1 : i < 2) : idxK (.lst [.int a, .int b]) (.int i) κ h = κ (.int (pick [a, b] i)) h := x_pick (l := [a, b]) h0 h1
theorem x_pick3 {a b c i : Int} (h0 : 0 ≤ i) (h1 : i < 3) : idxK (.lst [.int a, .int b, .int c]) (.int i) κ h = κ (.int (pick [a, b, c] i)) h := x_pick (l := [a, b, c]) h0 h1
theorem x_pick4 {a b c d i : Int} (h0 : 0 ≤ i) (h1 : i < 4) : idxK (.lst [.int a, .int b, .int c, .int d]) (.int i) κ h = κ (.int (pick [a, b, c, d] i)) h := x_pick (l := [a, b, c, d]) h0 h1
theorem x_pick5 {a b c d e i : Int} (h0 : 0 ≤ i) (h1 : i < 5) : idxK (.lst [.int a, .int b, .int c, .int d, .int e]) (.int i) κ h = κ (.int (pick [a, b, c, d, e] i)) h := x_pick (l := [a, b, c, d, e]) h0 h1
theorem pick_le {l : List Int} {i m : Int} (h : ∀ x ∈ l, x ≤ m) (h0 : 0 ≤ m) : pick l i ≤ m := by
  unfold pick
  rw [List.getD_eq_getElem?_getD]
  cases e : l[i.toNat]? with
  | none => exact h0
  | some x => exact h x (List.mem_of_getElem? e)
theorem pick_ge {l : List Int} {i m : Int} (h : ∀ x ∈ l, m ≤ x) (h0 : m ≤ 0) : m ≤ pick l i := by
  unfold pick
  rw [List.getD_eq_getElem?_getD]
  cases e : l[i.toNat]? with
  | none => exact h0
  | some x => exact h x (List.mem_of_getElem? e)
/-! defs -/
noncomputable def endK (own : Md) (h0 : AH) : Fl → M D
  | .rt d => fin own h0 d
  | .nx _ => fin own h0 .non
theorem keepIns_refl {h : AH} : keepIns h h := fun _ _ _ _ _ e => e
theorem keepIns_app {h0 h1 g : AH} (hl : h1.length = h0.length) (e : keepIns h0 h1) : keepIns h0 (h1 ++ g) := fun m c ns ds hm he => e m c ns ds hm (by rw [List.getElem?_append_left (by omega)] at he; exact he)
theorem keepIns_set {h : AH} {n : Nat} {o o' : AO} (ho : ∀ c ns ds, o' ≠ .ins c ns ds) : keepIns (h.set n o) (h.set n o') := fun m c ns ds hm he => by
  by_cases z : n = m
  · subst z
    rw [List.getElem?_set_self (by simpa using hm)] at he
    cases he
    exact absurd rfl (ho _ _ _)
  · rw [List.getElem?_set_ne z] at he ⊢
    exact he
theorem keepIns_set1 {h : AH} {n : Nat} {o' : AO} (ho : ∀ c ns ds, o' ≠ .ins c ns ds) : keepIns h (h.set n o') := fun m c ns ds hm he => by
  by_cases z : n = m
  · subst z
    rw [List.getElem?_set_self (by simpa using hm)] at he
    cases he
    exact absurd rfl (ho _ _ _)
  · rw [List.getElem?_set_ne z] at he
    exact he
mutual
theorem snap_rf {n : Nat} {h : AH} : ∀ (d : D), D.rf d = true → snap n h d = some d
  | .non, _ => rfl
  | .bl _, _ => rfl
  | .int _, _ => rfl
  | .str _, _ => rfl
  | .tup ds, e => by simp only [snap, snaps_rf ds (by simpa only [D.rf] using e), Option.map_some]
  | .lst ds, e => by simp only [snap]; exact if_pos (by simpa only [D.rf] using e)
  | .dct t ks vs, e => by
    simp only [D.rf, Bool.and_eq_true] at e
    simp only [snap, e, and_self, if_true]
  | .ref _, e => by simp [D.rf] at e
theorem snaps_rf {n : Nat} {h : AH} : ∀ (ds : List D), D.rfs ds = true → snaps n h ds = some ds
  | [], _ => rfl
  | d :: ds, e => by
    simp only [D.rfs, Bool.and_eq_true] at e
    simp only [snaps, snap_rf d e.1, snaps_rf ds e.2]
end
theorem end_rf {h0 h1 : AH} {d : D} (hd : D.rf d = true) (hl : h1.length = h0.length) (hk : keepIns h0 h1) : endK .cut h0 (.rt d) h1 = some (d, h1) := by
  simp only [endK, fin, if_pos hk, snap_rf d hd, ← hl, List.take_length]
theorem end_rfg {h0 h1 g : AH} {d : D} (hd : D.rf d = true) (hl : h1.length = h0.length) (hk : keepIns h0 h1) : endK .cut h0 (.rt d) (h1 ++ g) = some (d, h1) := by
  simp only [endK, fin, if_pos (keepIns_app hl hk), snap_rf d hd, ← hl, List.take_left']
theorem end_nx {h0 h1 : AH} {s : St} (hl : h1.length = h0.length) (hk : keepIns h0 h1) : endK .cut h0 (.nx s) h1 = some (.non, h1) := end_rf rfl hl hk
theorem end_nxg {h0 h1 g : AH} {s : St} (hl : h1.length = h0.length) (hk : keepIns h0 h1) : endK .cut h0 (.nx s) (h1 ++ g) = some (.non, h1) := end_rfg rfl hl hk
/-- a new list handed back -/
theorem end_lst {h : AH} {ds : List D} {g : AH} : endK .cut h (.rt (.ref h.length)) (h ++ .lst ds :: g) = some (.lst ds, h) := by
  simp only [endK, fin, if_pos (keepIns_app rfl keepIns_refl), snap, Nat.lt_irrefl, if_false, List.getElem?_append_right (Nat.le_refl _), Nat.sub_self, List.getElem?_cons_zero, List.take_left']
theorem end_keep {h0 : AH} {d : D} : endK .keep h0 (.rt d) h = some (d, h) := rfl
theorem end_r {d : D} (hd : D.rf d = true) : endK .cut h (.rt d) h = some (d, h) := end_rf hd rfl keepIns_refl
theorem end_n {s : St} : endK .cut h (.nx s) h = some (.non, h) := end_nx rfl keepIns_refl
theorem run_eq {T : List Fn} {k f : Nat} {fn : Fn} {ds : List D} (e : T[f]? = some fn) (hl : ds.length = fn.np) :
    run T (k + 1) f ds h = bnd (semSs (run T k) fn.body (start fn ds)) (endK fn.own h) h := by
  simp only [run, e, hl, if_true]
  rfl
/-- nothing was made: the heap is as it was -/
theorem end_i {i : Int} : endK .cut h (.rt (.int i)) h = some (.int i, h) := end_r rfl
theorem end_b {i : Bool} : endK .cut h (.rt (.bl i)) h = some (.bl i, h) := end_r rfl
theorem end_s {i : Str} : endK .cut h (.rt (.str i)) h = some (.str i, h) := end_r rfl
theorem end_iL {i : Int} {n : Nat} {ds : List D} : endK .cut h (.rt (.int i)) (h.set n (.lst ds)) = some (.int i, h.set n (.lst ds)) := end_rf rfl (by simp) (keepIns_set1 (by intros; simp))
theorem end_iS {i : Int} {n : Nat} {o : AO} {ds : List D} : endK .cut (h.set n o) (.rt (.int i)) (h.set n (.lst ds)) = some (.int i, h.set n (.lst ds)) := end_rf rfl (by simp) (keepIns_set (by intros; simp))
/-! loops -/
theorem for_nil {all : List D} {g : Option Nat} {body : D → St → M Fl} {κ : Fl → M β} : bnd (forL all g body [] s) κ h = κ (.nx s) h := rfl
theorem for_cons {all : List D} {body : D → St → M Fl} {d : D} {ds : List D} {κ : Fl → M β} : bnd (forL all none body (d :: ds) s) κ h = bnd (body d s) (fun f => match f with
    | .rt r => κ (.rt r)
    | .nx s' => bnd (forL all none body ds s') κ) h := by
  show bnd (bnd (body d s) fun f => match f with
    | .rt r => ret (.rt r)
    | .nx s' => bnd (stands all none) fun _ => forL all none body ds s') κ h = _
  rw [bnd_assoc]
  congr 1
  funext f
  cases f <;> rfl
theorem for_inv {all : List D} {body : D → St → M Fl} (I : List D → St → AH → Prop) (step : ∀ d ds s h, I (d :: ds) s h → ∃ s' h', body d s h = some (.nx s', h') ∧ I ds s' h') :
    ∀ ds s h, I ds s h → ∃ s' h', I [] s' h' ∧ forL all none body ds s h = some (.nx s', h')
  | [], s, h, hI => ⟨s, h, hI, rfl⟩
  | d :: ds, s, h, hI => by
    obtain ⟨s1, h1, e, hI1⟩ := step d ds s h hI
    obtain ⟨s2, h2, hI2, e2⟩ := for_inv I step ds s1 h1 hI1
    refine ⟨s2, h2, hI2, ?_⟩
    show bnd (body d s) _ h = _
    rw [bnd_of e]
    exact e2
theorem bnd_end {m : M α} : m h = bnd m ret h := by
  simp only [bnd]
  cases m h with
  | none => rfl
  | some p => rfl
theorem for_use {all : List D} {body : D → St → M Fl} {Q : Option (β × AH) → Prop} {ds : List D} {κ : Fl → M β} (I : List D → St → AH → Prop) (h0 : I ds s h)
    (step : ∀ d ds s h, I (d :: ds) s h → ∃ s' h', bnd (body d s) ret h = some (.nx s', h') ∧ I ds s' h') (rest : ∀ s' h', I [] s' h' → Q (κ (.nx s') h')) : Q (bnd (forL all none body ds s) κ h) := by
  obtain ⟨s', h', hI, e⟩ := for_inv (all := all) I (fun d ds s h hI => by
    obtain ⟨s', h', e, hI'⟩ := step d ds s h hI
    exact ⟨s', h', bnd_end.trans e, hI'⟩) ds s h h0
  rw [bnd_of e]
  exact rest s' h' hI
theorem for_step {all : List D} {body : D → St → M Fl} {J : St → AH → Prop} {ds : List D} {κ : Fl → M Fl} (I : List D → St → AH → Prop) (h0 : I ds s h)
    (step : ∀ d ds s h, I (d :: ds) s h → ∃ s' h', bnd (body d s) ret h = some (.nx s', h') ∧ I ds s' h') (rest : ∀ s' h', I [] s' h' → ∃ s2 h2, κ (.nx s') h' = some (.nx s2, h2) ∧ J s2 h2) :
    ∃ s2 h2, bnd (forL all none body ds s) κ h = some (.nx s2, h2) ∧ J s2 h2 := for_use (Q := fun x => ∃ s2 h2, x = some (Fl.nx s2, h2) ∧ J s2 h2) I h0 step rest
theorem for_law {all : List D} {body : D → St → M Fl} {d : D} {ds : List D} {κ : Fl → M D} (I : List D → St → AH → Prop) (h0 : I ds s h)
    (step : ∀ d ds s h, I (d :: ds) s h → ∃ s' h', bnd (body d s) ret h = some (.nx s', h') ∧ I ds s' h') (rest : ∀ s' h', I [] s' h' → ∃ h2, κ (.nx s') h' = some (d, h2)) :
    ∃ h2, bnd (forL all none body ds s) κ h = some (d, h2) := for_use (Q := fun x => ∃ h2, x = some (d, h2)) I h0 step rest
theorem pick_mem {l : List Int} {i : Int} (h0 : 0 ≤ i) (h1 : i < l.length) : pick l i ∈ l := by
  have hl : i.toNat < l.length := by omega
  unfold pick
  rw [List.getD_eq_getElem?_getD, List.getElem?_eq_getElem hl]
  exact List.getElem_mem hl
theorem rangeL_nat {n : Nat} {d : D} (h : d ∈ rangeL 0 n) : ∃ k : Nat, k < n ∧ d = .int k := by
  obtain ⟨k, hk, rfl⟩ := List.mem_map.1 h
  exact ⟨k, List.mem_range.1 hk, by rw [Int.zero_add]⟩
theorem rangeL_len {a : Int} {n : Nat} : (rangeL a n).length = n := by simp [rangeL]
end
end Iv

/-! Purse: what the laws drawP from. -/
namespace Iv
open PySem L2
structure P where
  a : Int
  b : Int
  c : Int
def purseO (p : P) : AO := .lst [.int p.a, .int p.b, .int p.c]
section
variable {β : Type} {κ : D → M β} {κm : M β} {n : Nat} {h : AH} {p : P}
theorem x_p0 (hn : n < h.length) : idxK (.ref n) (.int 0) κ (h.set n (purseO p)) = κ (.int p.a) (h.set n (purseO p)) := x_set (i := 0) hn rfl
theorem x_p1 (hn : n < h.length) : idxK (.ref n) (.int 1) κ (h.set n (purseO p)) = κ (.int p.b) (h.set n (purseO p)) := x_set (i := 1) hn rfl
theorem x_p2 (hn : n < h.length) : idxK (.ref n) (.int 2) κ (h.set n (purseO p)) = κ (.int p.c) (h.set n (purseO p)) := x_set (i := 2) hn rfl
theorem st_p0 {v : Int} (hn : n < h.length) : storeK (.ref n) (.int 0) (.int v) κm (h.set n (purseO p)) = κm (h.set n (purseO ⟨v, p.b, p.c⟩)) := st_set (i := 0) hn (by simp) rfl
theorem st_p2 {v : Int} (hn : n < h.length) : storeK (.ref n) (.int 2) (.int v) κm (h.set n (purseO p)) = κm (h.set n (purseO ⟨p.a, p.b, v⟩)) := st_set (i := 2) hn (by simp) rfl
theorem end_own {ds : List D} : endK .own h (.rt (.ref h.length)) (h ++ [.lst ds]) = some (.ref h.length, h ++ [.lst ds]) := by
  simp only [endK, fin, if_pos (keepIns_app rfl keepIns_refl), owned, Nat.lt_irrefl, if_false, List.getElem?_append_right (Nat.le_refl _), Nat.sub_self, List.getElem?_cons_zero, List.take_left']
/-- only the purse was changed -/
theorem end_pu {n : Nat} {d : D} {p q : P} (hd : D.rf d = true) : endK .cut (h.set n (purseO p)) (.rt d) (h.set n (purseO q)) = some (d, h.set n (purseO q)) := end_rf hd (by simp) (keepIns_set (by intros; simp [purseO]))
theorem end_pug {n : Nat} {d : D} {p q : P} {g : AH} (hd : D.rf d = true) : endK .cut (h.set n (purseO p)) (.rt d) (h.set n (purseO q) ++ g) = some (d, h.set n (purseO q)) := end_rfg hd (by simp) (keepIns_set (by intros; simp [purseO]))
theorem app_set {o : AO} : h ++ [o] = (h ++ [AO.lst []]).set h.length o := by
  simp
theorem pw {β : Type} {κ : D → M β} {h : AH} {i j r : Int} (e : powOk i j = true) (e2 : i ^ j.toNat = r) : binK .pow (.int i) (.int j) κ h = κ (.int r) h := bnd_of (by simp only [opt, binD, e, e2, if_true])
theorem pw6 {β : Type} {κ : D → M β} {h : AH} : binK .pow (.int 10) (.int 6) κ h = κ (.int 1000000) h := pw (by decide +kernel) (by decide +kernel)
theorem pw9 {β : Type} {κ : D → M β} {h : AH} : binK .pow (.int 10) (.int 9) κ h = κ (.int 1000000000) h := pw (by decide +kernel) (by decide +kernel)
theorem pw12 {β : Type} {κ : D → M β} {h : AH} : binK .pow (.int 10) (.int 12) κ h = κ (.int 1000000000000) h := pw (by decide +kernel) (by decide +kernel)
theorem pw18 {β : Type} {κ : D → M β} {h : AH} : binK .pow (.int 10) (.int 18) κ h = κ (.int 1000000000000000000) h := pw (by decide +kernel) (by decide +kernel)
theorem pw24 {β : Type} {κ : D → M β} {h : AH} : binK .pow (.int 10) (.int 24) κ h = κ (.int 1000000000000000000000000) h := pw (by decide +kernel) (by decide +kernel)
theorem pw30 {β : Type} {κ : D → M β} {h : AH} : binK .pow (.int 10) (.int 30) κ h = κ (.int 1000000000000000000000000000000) h := pw (by decide +kernel) (by decide +kernel)
theorem pw60 {β : Type} {κ : D → M β} {h : AH} : binK .pow (.int 10) (.int 60) κ h = κ (.int 1000000000000000000000000000000000000000000000000000000000000) h := pw (by decide +kernel) (by decide +kernel)
/-- 10 ** 600 -/
def M600 : Int := 1000000000000000000000000000000000000000000000000000000000000 ^ 10
theorem M600_pos : 0 < M600 := by decide +kernel
theorem pw600 {β : Type} {κ : D → M β} {h : AH} : binK .pow (.int 1000000000000000000000000000000000000000000000000000000000000) (.int 10) κ h = κ (.int M600) h := pw (by decide +kernel) rfl
theorem md600 {β : Type} {κ : D → M β} {h : AH} {i : Int} : binK .mod (.int i) (.int M600) κ h = κ (.int (i % M600)) h := o_mod M600_pos
end
def mixed (cell k : Int) : Int :=
  ((((cell * 1103515245 + 7919 * k * k + k + 1) % 2147483647) * ((cell * 1103515245 + 7919 * k * k + k + 1) % 2147483647) + 69621) % 2147483629) * 48271 % 2147483587
/-- a turn of the loop that mixes -/
def turn (p : P) (z : Int) : P × Int := (⟨p.a, p.b, p.c + 1⟩, z * 2147483587 + mixed p.b (p.c + 1))
def turns : Nat → P → Int → P × Int
  | 0, p, z => (p, z)
  | t + 1, p, z => turns t (turn p z).1 (turn p z).2
def many (m : Int) : Nat := 1 + Builtin.Int.intBits m / 30
/-- a drawn number, and the purse behind it -/
def drawP (p : P) (m : Int) : Int × P := if 0 < p.a then (p.a % m, ⟨p.a / m, p.b, p.c⟩) else ((turns (many m) p 0).2 % m, (turns (many m) p 0).1)
theorem draw_lo (p : P) {m : Int} (h : 0 < m) : 0 ≤ (drawP p m).1 := by
  unfold drawP
  split <;> exact Int.emod_nonneg _ (by omega)
theorem draw_hi (p : P) {m : Int} (h : 0 < m) : (drawP p m).1 < m := by
  unfold drawP
  split <;> exact Int.emod_lt_of_pos _ h
theorem turns_c : ∀ (t : Nat) (p : P) (z : Int), (turns t p z).1.c = p.c + t
  | 0, p, z => by simp [turns]
  | t + 1, p, z => by
    rw [turns, turns_c t]
    simp only [turn]
    omega
theorem many_le {m : Int} (h : m.natAbs < 2 ^ 62) : many m ≤ 9 := by
  have := intBits_lt h (by decide)
  unfold many
  omega
theorem rng_draw {m : Int} {α : Type} {κ : List D × Option Nat → M α} {h : AH} (hm : m.natAbs < 2 ^ 62) : rgK (.int (1 + (Builtin.Int.intBits m : Nat) / 30)) κ h = κ (rangeL 0 (many m), none) h := by
  have hb := intBits_lt hm (by decide)
  rw [rgK_is (by omega) (by omega), show (1 + ((Builtin.Int.intBits m : Nat) : Int) / 30).toNat = many m by unfold many; omega]
/-- how often one may drawP yet -/
def P.ok (p : P) (k : Nat) : Prop := 0 ≤ p.c ∧ p.c + 9 * k < 2 ^ 60
theorem P.ok.weak {p : P} {k l : Nat} (h : p.ok l) (hk : k ≤ l) : p.ok k := ⟨h.1, by have := h.2; omega⟩
theorem draw_ok {p : P} {m : Int} {k : Nat} (h : p.ok (k + 1)) (hm : m.natAbs < 2 ^ 62) : (drawP p m).2.ok k := by
  obtain ⟨h0, h1⟩ := h
  unfold drawP
  split
  · exact ⟨h0, by show p.c + _ < _; omega⟩
  · have := many_le hm
    refine ⟨?_, ?_⟩
    · show 0 ≤ (turns (many m) p 0).1.c
      rw [turns_c]; omega
    · show (turns (many m) p 0).1.c + _ < _
      rw [turns_c]; omega
/-- the purse of the n-th number -/
def purse0 (ns : List Int) (n : Nat) : P := ⟨(if 0 > ns.getD n 0 - 1000000000000000000 then 0 else ns.getD n 0 - 1000000000000000000) % M600, ns.getD n 0 % 2147483647, 1000 * n⟩
theorem purse0_ok {ns : List Int} {n k : Nat} (h : n ≤ 100) (hk : k ≤ 10 ^ 12) : (purse0 ns n).ok k := ⟨by simp only [purse0]; omega, by simp only [purse0]; omega⟩
end Iv

/-! Head: what the top has left, for constants that are tuples and dicts. -/
namespace Iv
open PySem L2
def intsAre : List Value → List Int → Bool
  | [], [] => true
  | .int i _ :: vs, j :: js => decide (i = j) && intsAre vs js
  | _, _ => false
theorem intsAre_vals : ∀ {vs : List Value} {js : List Int}, intsAre vs js = true → Vals (js.map V.int) vs
  | [], [], _ => .nil
  | [], _ :: _, h => by simp [intsAre] at h
  | .int i t :: vs, j :: js, h => by
    simp only [intsAre, Bool.and_eq_true, decide_eq_true_eq] at h
    obtain ⟨rfl, h⟩ := h
    exact .cons ⟨t, rfl⟩ (intsAre_vals h)
  | .int i t :: vs, [], h => by simp [intsAre] at h
  | .none :: _, _, h => by simp [intsAre] at h
  | .bool _ :: _, _, h => by simp [intsAre] at h
  | .str _ _ :: _, _, h => by simp [intsAre] at h
  | .ref _ :: _, _, h => by simp [intsAre] at h
  | .float _ _ :: _, _, h => by simp [intsAre] at h
  | .bytes _ _ :: _, _, h => by simp [intsAre] at h
  | .type _ :: _, _, h => by simp [intsAre] at h
  | .builtin _ :: _, _, h => by simp [intsAre] at h
  | .ellipsis :: _, _, h => by simp [intsAre] at h
  | .notImplemented :: _, _, h => by simp [intsAre] at h
section
variable {K : PySem.W.Frag} [Wd] {mg : Str → Option Value}
theorem kTup_rep {a : Addr} {dd : Option Addr} {its : Array Value} {n : Nat} {sl : Array (Option Value)} {js : List Int} (l : K.lookup a = some ⟨.type "tuple", dd, .seq its n, sl⟩) (hv : intsAre its.toList js = true) (hz : js.length ≤ sizeLine) (g : G) : Rep K g (.tup (js.map .int)) (.ref a) := by
  have r := intsAre_vals hv
  refine rep_tup.mpr ⟨a, js.map V.int, rfl, .inr ⟨_, its, n, l, rfl, rfl, ?_, r⟩, reps_ints js⟩
  have q := r.length
  simp only [List.length_map, Array.length_toList] at q
  omega
theorem gl_tup {p : Str × D} {a : Addr} {dd : Option Addr} {its : Array Value} {n : Nat} {sl : Array (Option Value)} {js : List Int} (hp : p.2 = .tup (js.map .int)) (h : mg p.1 = some (.ref a)) (l : K.lookup a = some ⟨.type "tuple", dd, .seq its n, sl⟩) (hv : intsAre its.toList js = true) (hz : js.length ≤ sizeLine) :
    ∃ u v, mg p.1 = some u ∧ RelV v u ∧ ∀ g, Rep K g p.2 v := ⟨_, .ref a, h, rfl, fun g => by rw [hp]; exact kTup_rep l hv hz g⟩
theorem kd_str {a : Addr} {x z : Str} {es : Array DictEntry} {n : Nat} {t : Tok} (l : K.lookup a = some ⟨.type "dict", none, .dict es n, #[]⟩) (k : PySem.W.KeysLit Wd.w.params es.toList) (e : PySem.W.nsIn K a x = some (some (.str z t))) : ∃ v, KDct K Wd.w a x v ∧ ∀ g, Rep K g (.str z) v :=
  ⟨.str z, ⟨es, n, _, l, k, e, t, rfl⟩, fun g => rep_str.mpr rfl⟩
theorem kd_tup {a b : Addr} {x : Str} {es : Array DictEntry} {n m : Nat} {dd : Option Addr} {its : Array Value} {sl : Array (Option Value)} {js : List Int} (l : K.lookup a = some ⟨.type "dict", none, .dict es n, #[]⟩) (k : PySem.W.KeysLit Wd.w.params es.toList) (e : PySem.W.nsIn K a x = some (some (.ref b)))
    (lb : K.lookup b = some ⟨.type "tuple", dd, .seq its m, sl⟩) (hv : intsAre its.toList js = true) (hz : js.length ≤ sizeLine) : ∃ v, KDct K Wd.w a x v ∧ ∀ g, Rep K g (.tup (js.map .int)) v :=
  ⟨.ref b, ⟨es, n, _, l, k, e, rfl⟩, fun g => kTup_rep lb hv hz g⟩
theorem kd_int {a : Addr} {x : Str} {z : Int} {es : Array DictEntry} {n : Nat} {t : Tok} (l : K.lookup a = some ⟨.type "dict", none, .dict es n, #[]⟩) (k : PySem.W.KeysLit Wd.w.params es.toList) (e : PySem.W.nsIn K a x = some (some (.int z t))) : ∃ v, KDct K Wd.w a x v ∧ ∀ g, Rep K g (.int z) v :=
  ⟨.int z, ⟨es, n, _, l, k, e, t, rfl⟩, fun g => rep_int.mpr rfl⟩
end
end Iv

/-! Ev2: more of how the language is run by rewriting. -/
namespace Iv
open PySem L2
section
variable {β : Type} {κ : D → M β} {κb : Bool → M β} {κl : List D → M β} {κm : M β} {h : AH}
def notK (x : D) (κ : D → M β) : M β := blK x fun k => κ (.bl (!k))
theorem e_notK {C : Cal} {s : St} {a : E} : bnd (semE C (.not a) s) κ h = bnd (semE C a s) (fun x => notK x κ) h := e_not
theorem notK_T : notK (.bl true) κ h = κ (.bl false) h := rfl
theorem notK_F : notK (.bl false) κ h = κ (.bl true) h := rfl
theorem notK_g {b : Bool} : notK (.bl b) κ h = κ (.bl (!b)) h := rfl
def optBeqs (o : Option (List D)) (ds : List D) : Bool := match o with
  | some es => D.beqs es ds
  | none => false
theorem optBeqs_eq {o : Option (List D)} {ds : List D} (e : optBeqs o ds = true) : o = some ds := by
  unfold optBeqs at e
  split at e
  · rw [D.beqs_eq e]
  · cases e
theorem cut_1 {d : D} {ds : List D} : cutD (d :: ds) (some 1) none = ds := by
  unfold cutD HT.sIx
  simp
theorem sl_t1 {d : D} {ds : List D} : sliK (.tup (d :: ds)) (some 1) none κ h = κ (.tup ds) h := bnd_of (by simp only [opt, sliD, cut_1])
def unsetK {β : Type} : St → Nat → (St → M β) → M β
  | _ :: s, 0, κ => κ (none :: s)
  | x :: s, i + 1, κ => unsetK s i fun s' => κ (x :: s')
  | [], _, κ => κ []
theorem unsetK_0 {s : St} {x : Option D} {κs : St → M β} : unsetK (x :: s) 0 κs h = κs (none :: s) h := by cases x <;> rfl
theorem unsetK_s {s : St} {x : Option D} {i : Nat} {κs : St → M β} : unsetK (x :: s) (i + 1) κs h = unsetK s i (fun s' => κs (x :: s')) h := by cases x <;> rfl
theorem unsetK_is : ∀ (s : St) (i : Nat) (κs : St → M β), κs (s.set i none) = unsetK s i κs
  | [], i, κs => by cases i <;> rfl
  | x :: s, 0, κs => by cases x <;> rfl
  | x :: s, i + 1, κs => by
    have e : unsetK (x :: s) (i + 1) κs = unsetK s i fun s' => κs (x :: s') := by cases x <;> rfl
    rw [e, ← unsetK_is s i fun s' => κs (x :: s')]
    rfl
def wipeK (s : St) : List Nat → (St → M β) → M β
  | [], κ => κ s
  | v :: vs, κ => wipeK s vs fun s' => unsetK s' v κ
theorem wipeK_0 {s : St} {κs : St → M β} : wipeK s [] κs h = κs s h := rfl
theorem wipeK_s {s : St} {v : Nat} {vs : List Nat} {κs : St → M β} : wipeK s (v :: vs) κs h = wipeK s vs (fun s' => unsetK s' v κs) h := rfl
theorem wipeK_is : ∀ (s : St) (vs : List Nat) (κs : St → M β), κs (wipeS s vs) = wipeK s vs κs
  | s, [], κs => rfl
  | s, v :: vs, κs => by
    show κs ((wipeS s vs).set v none) = wipeK s vs fun s' => unsetK s' v κs
    rw [unsetK_is (wipeS s vs) v κs, ← wipeK_is s vs fun s' => unsetK s' v κs]
theorem p_nm {s : St} {i : Nat} {d : D} {κs : St → M β} : optK (semP (.nm i) d s) κs h = setK s i d κs h := by
  show bnd (opt (if i < s.length then some (s.set i (some d)) else none)) κs h = _
  rw [← setK_is]
  split <;> rfl
theorem p_tup {s : St} {ts : List Pt} {ds : List D} {κs : St → M β} : optK (semP (.tup ts) (.tup ds) s) κs h = optK (semPs ts ds s) κs h := rfl
theorem ps_0 {s : St} {κs : St → M β} : optK (semPs [] [] s) κs h = κs s h := rfl
theorem ps_s {s : St} {t : Pt} {ts : List Pt} {d : D} {ds : List D} {κs : St → M β} : optK (semPs (t :: ts) (d :: ds) s) κs h = optK (semP t d s) (fun s' => optK (semPs ts ds s') κs) h := by
  show bnd (opt ((semP t d s).bind fun s' => semPs ts ds s')) κs h = _
  cases e : semP t d s <;> rfl
theorem turnC_k {C : Cal} {s : St} {p : Pt} {own : List Nat} {ifs : List E} {elt : E} {d : D} {κo : Option D → M β} : bnd (turnC C p own ifs elt s d) κo h = wipeK s own (fun s1 => optK (semP p d s1) fun s2 => bnd (semIfs C ifs s2) fun k => iteB k (bnd (semE C elt s2) fun y => κo (some y)) (κo none)) h := by
  rw [turnC_is]
  exact congrFun (wipeK_is s own fun s1 => optK (semP p d s1) fun s2 => bnd (semIfs C ifs s2) fun k => iteB k (bnd (semE C elt s2) fun y => κo (some y)) (κo none)) h
def addK (o : Option D) (r : List D) (κ : List D → M β) : M β := κ (o.toList ++ r)
theorem addK_n {r : List D} : addK none r κl h = κl r h := rfl
theorem addK_s {d : D} {r : List D} : addK (some d) r κl h = κl (d :: r) h := rfl
theorem comp_k {all : List D} {body : D → M (Option D)} {d : D} {ds : List D} : bnd (compL all none body (d :: ds)) κl h = bnd (body d) (fun o => bnd (compL all none body ds) fun r => addK o r κl) h := comp_cons
theorem b_sum0 : biK .sum [.lst []] κ h = κ (.int 0) h := rfl
theorem b_sum1 {i : Int} : biK .sum [.lst [.int i]] κ h = κ (.int (i + 0)) h := rfl
theorem b_sum2 {i j : Int} : biK .sum [.lst [.int i, .int j]] κ h = κ (.int (i + (j + 0))) h := rfl
theorem b_sum4 {a b c d : Int} : biK .sum [.lst [.int a, .int b, .int c, .int d]] κ h = κ (.int (a + (b + (c + (d + 0))))) h := rfl
theorem x_m1 {n : Nat} {ds : List D} {d : D} (hn : h[n]? = some (.lst (ds ++ [d]))) : idxK (.ref n) (.int (-1)) κ h = κ d h := bnd_of (by
  have e : L2.atI (ds ++ [d]) (-1) = some d := L2.atI_last ds d
  simp only [Iv.ask, idxD, seqOf, hn, e])
theorem end_puI {n : Nat} {i : Int} {p q : P} : endK .cut (h.set n (purseO p)) (.rt (.int i)) (h.set n (purseO q)) = some (.int i, h.set n (purseO q)) := end_pu rfl
theorem end_puB {n : Nat} {i : Bool} {p q : P} : endK .cut (h.set n (purseO p)) (.rt (.bl i)) (h.set n (purseO q)) = some (.bl i, h.set n (purseO q)) := end_pu rfl
theorem end_puT {n : Nat} {i j : Int} {p q : P} : endK .cut (h.set n (purseO p)) (.rt (.tup [.int i, .int j])) (h.set n (purseO q)) = some (.tup [.int i, .int j], h.set n (purseO q)) := end_pu rfl
/-! one list of our own behind the caller's heap -/
theorem set_app {h g : AH} {n : Nat} {o : AO} (hn : n < h.length) : h.set n o ++ g = (h ++ g).set n o := by
  rw [List.set_append, if_pos hn]
theorem end_get {h : AH} {n : Nat} {o : AO} {a : AO} (hn : n < h.length) : ((h ++ [a]).set n o)[h.length]? = some a := by
  rw [List.getElem?_set_ne (by omega)]
  simp
theorem end_set {h : AH} {n : Nat} {o : AO} {a b : AO} (hn : n < h.length) : ((h ++ [a]).set n o).set h.length b = (h ++ [b]).set n o := by
  rw [List.set_comm _ _ (by omega)]
  congr 1
  simp [List.set_append]
theorem isL_end {h : AH} {n : Nat} {o : AO} {ds : List D} (hn : n < h.length) : isLK (.ref h.length) κm ((h ++ [AO.lst ds]).set n o) = κm ((h ++ [AO.lst ds]).set n o) := isL_is (end_get hn)
theorem app_end {h : AH} {n : Nat} {o : AO} {ds : List D} {v : D} (hn : n < h.length) (hv : D.rf v = true) (hl : ds.length < sizeMax) : appK (.ref h.length) v κm ((h ++ [AO.lst ds]).set n o) = κm ((h ++ [AO.lst (ds ++ [v])]).set n o) := by
  rw [app_ref (end_get hn) hv hl, end_set hn]
theorem x_end {h : AH} {n i : Nat} {o : AO} {ds : List D} {d : D} (hn : n < h.length) (e : ds[i]? = some d) : idxK (.ref h.length) (.int i) κ ((h ++ [AO.lst ds]).set n o) = κ d ((h ++ [AO.lst ds]).set n o) := x_ref (end_get hn) e
theorem end_keep1 {h g : AH} {n : Nat} {o : AO} {ds : List D} {d : D} (hn : n < h.length) (hd : D.rf d = true) : endK .cut (h.set n o) (.rt d) ((h ++ g).set n (AO.lst ds)) = some (d, h.set n (AO.lst ds)) := by
  rw [← set_app hn]
  exact end_rfg hd (by simp) (keepIns_set (by intros; simp))
theorem for_range {α : Type} {all : List D} {body : D → St → M Fl} {Q : Option (α × AH) → Prop} {m : Nat} {s : St} {κ : Fl → M α} (I : Nat → St → AH → Prop) (h0 : I 0 s h)
    (step : ∀ i s h, i < m → I i s h → ∃ s' h', bnd (body (.int (i : Int)) s) ret h = some (.nx s', h') ∧ I (i + 1) s' h') (rest : ∀ s' h', I m s' h' → Q (κ (.nx s') h')) : Q (bnd (forL all none body (rangeL 0 m) s) κ h) := by
  refine for_use (Q := Q) (fun ds s h => ∃ i, i ≤ m ∧ ds = (rangeL 0 m).drop i ∧ I i s h) ⟨0, Nat.zero_le _, by simp, h0⟩ ?_ ?_
  · rintro d ds s h ⟨i, hi, e, hI⟩
    have hlt : i < m := by
      have := congrArg List.length e
      simp [rangeL] at this
      omega
    have hl : i < (rangeL 0 m).length := by simp [rangeL]; exact hlt
    rw [List.drop_eq_getElem_cons hl] at e
    simp only [List.cons.injEq] at e
    obtain ⟨rfl, rfl⟩ := e
    have eg : (rangeL 0 m)[i] = .int (i : Int) := by simp [rangeL]
    rw [eg]
    obtain ⟨s', h', e', hI'⟩ := step i s h hlt hI
    exact ⟨s', h', e', i + 1, hlt, rfl, hI'⟩
  · rintro s' h' ⟨i, hi, e, hI⟩
    have : i = m := by
      have := congrArg List.length e
      simp [rangeL] at this
      omega
    subst this
    exact rest s' h' hI
theorem catL {a b : List D} (e : a.length + b.length ≤ sizeMax) : catK (.lst a) (.lst b) κl h = κl (a ++ b) h := bnd_of (by simp only [Iv.ask, lstOf, e, if_true])
theorem iteB_dT {p : Prop} [Decidable p] {x y : M β} (e : p) : iteB (decide p) x y h = x h := by rw [decide_eq_true e]; rfl
theorem iteB_dF {p : Prop} [Decidable p] {x y : M β} (e : ¬ p) : iteB (decide p) x y h = y h := by rw [decide_eq_false e]; rfl
theorem iteB_nT {p : Prop} [Decidable p] {x y : M β} (e : p) : iteB (!decide p) x y h = y h := by rw [decide_eq_true e]; rfl
theorem iteB_nF {p : Prop} [Decidable p] {x y : M β} (e : ¬ p) : iteB (!decide p) x y h = x h := by rw [decide_eq_false e]; rfl
theorem xt_0 {d : D} {ds : List D} : idxK (.tup (d :: ds)) (.int 0) κ h = κ d h := x_tup (i := 0) rfl
theorem xt_1 {a d : D} {ds : List D} : idxK (.tup (a :: d :: ds)) (.int 1) κ h = κ d h := x_tup (i := 1) rfl
theorem xt_2 {a b d : D} {ds : List D} : idxK (.tup (a :: b :: d :: ds)) (.int 2) κ h = κ d h := x_tup (i := 2) rfl
theorem xt_3 {a b c d : D} {ds : List D} : idxK (.tup (a :: b :: c :: d :: ds)) (.int 3) κ h = κ d h := x_tup (i := 3) rfl
theorem xt_4 {a b c e d : D} {ds : List D} : idxK (.tup (a :: b :: c :: e :: d :: ds)) (.int 4) κ h = κ d h := x_tup (i := 4) rfl
theorem xt_5 {a b c e f d : D} {ds : List D} : idxK (.tup (a :: b :: c :: e :: f :: d :: ds)) (.int 5) κ h = κ d h := x_tup (i := 5) rfl
theorem xl_0 {d : D} {ds : List D} : idxK (.lst (d :: ds)) (.int 0) κ h = κ d h := x_lst (i := 0) rfl
theorem xl_1 {a d : D} {ds : List D} : idxK (.lst (a :: d :: ds)) (.int 1) κ h = κ d h := x_lst (i := 1) rfl
theorem xl_2 {a b d : D} {ds : List D} : idxK (.lst (a :: b :: d :: ds)) (.int 2) κ h = κ d h := x_lst (i := 2) rfl
theorem xl_3 {a b c d : D} {ds : List D} : idxK (.lst (a :: b :: c :: d :: ds)) (.int 3) κ h = κ d h := x_lst (i := 3) rfl
theorem xl_4 {a b c e d : D} {ds : List D} : idxK (.lst (a :: b :: c :: e :: d :: ds)) (.int 4) κ h = κ d h := x_lst (i := 4) rfl
theorem o_addT {a b : List D} (e : a.length + b.length ≤ sizeMax) : binK .add (.tup a) (.tup b) κ h = κ (.tup (a ++ b)) h := bnd_of (by simp only [opt, binD, e, if_true])
theorem o_addS {a b : Str} (e : a.length + b.length ≤ sizeMax) : binK .add (.str a) (.str b) κ h = κ (.str (a ++ b)) h := bnd_of (by simp only [opt, binD, e, if_true])
theorem b_divmod {i j : Int} (e : 0 < j) (e' : j.natAbs < 2 ^ 64) : biK .divmod [.int i, .int j] κ h = κ (.tup [.int (i / j), .int (i % j)]) h := bnd_of (by
  have : divOk j = true := by
    have : j.natAbs < 2 ^ 250 := Nat.lt_trans e' (by decide)
    simp only [divOk, e, this, decide_true, Bool.and_self]
  simp only [ask, biD, this, if_true])
theorem b_isaT_t {ds : List D} : biK (.isa .tuple) [.tup ds] κ h = κ (.bl true) h := rfl
theorem b_isaS_s {z : Str} : biK (.isa .str) [.str z] κ h = κ (.bl true) h := rfl
theorem b_isaS_t {z : Str} : biK (.isa .tuple) [.str z] κ h = κ (.bl false) h := rfl
theorem b_isaI_t {z : Int} : biK (.isa .tuple) [.int z] κ h = κ (.bl false) h := rfl
theorem b_isaT_s {ds : List D} : biK (.isa .str) [.tup ds] κ h = κ (.bl false) h := rfl
theorem b_isaT_i {ds : List D} : biK (.isa .int) [.tup ds] κ h = κ (.bl false) h := rfl
theorem b_isaS_i {z : Str} : biK (.isa .int) [.str z] κ h = κ (.bl false) h := rfl
/-- a tuple that isn't () -/
theorem c_eqT0 {d : D} {ds : List D} {p : PyData} (e : D.py (.tup (d :: ds)) = some p) (hs : SeqAt.shaped p = true) : cmpK .eq (.tup (d :: ds)) (.tup []) κb h = κb false h := by
  simp only [D.py, D.pys, Option.map_eq_some_iff] at e
  split at e
  · obtain ⟨a, ea, rfl⟩ := e
    cases ea
    rename_i q qs e1 e2
    refine (c_eqP (p := .tuple (q :: qs)) (q := .tuple []) ?_ rfl hs rfl rfl).trans ?_
    · simp only [derefD, D.py, D.pys, e1, e2, Option.map_some]
    · rfl
  · obtain ⟨a, ea, _⟩ := e
    cases ea
theorem for_0 {α : Type} {all : List D} {g : Option Nat} {body : D → St → M Fl} {s : St} {κ : Fl → M α} : bnd (forL all g body [] s) κ h = κ (.nx s) h := rfl
noncomputable def loopK {α : Type} (all : List D) (body : D → St → M Fl) (ds : List D) (κ : Fl → M α) : Fl → M α
  | .rt r => κ (.rt r)
  | .nx s' => bnd (forL all none body ds s') κ
theorem for_1 {α : Type} {all : List D} {body : D → St → M Fl} {d : D} {ds : List D} {s : St} {κ : Fl → M α} : bnd (forL all none body (d :: ds) s) κ h = bnd (body d s) (loopK all body ds κ) h := by
  refine for_cons.trans ?_
  exact congrFun (bnd_congr fun f => by cases f <;> rfl) h
theorem loopK_rt {α : Type} {all : List D} {body : D → St → M Fl} {ds : List D} {r : D} {κ : Fl → M α} : loopK all body ds κ (.rt r) h = κ (.rt r) h := rfl
theorem loopK_nx {α : Type} {all : List D} {body : D → St → M Fl} {ds : List D} {s : St} {κ : Fl → M α} : loopK all body ds κ (.nx s) h = bnd (forL all none body ds s) κ h := rfl
/-- a list made here is handed back -/
theorem end_lstG {h h' : AH} {n : Nat} {ds : List D} (hn : n = h.length) (ht : h'.take h.length = h) (hl : h'[h.length]? = some (.lst ds)) : endK .cut h (.rt (.ref n)) h' = some (.lst ds, h) := by
  subst hn
  have e : h' = h ++ h'.drop h.length := by
    conv => lhs; rw [← List.take_append_drop h.length h', ht]
  have k : keepIns h h' := by rw [e]; exact keepIns_app rfl keepIns_refl
  simp only [endK, fin, if_pos k, snap, Nat.lt_irrefl, if_false, hl, ht]
theorem end_G {h h' : AH} {d : D} (hd : D.rf d = true) (ht : h'.take h.length = h) : endK .cut h (.rt d) h' = some (d, h) := by
  have e : h' = h ++ h'.drop h.length := by
    conv => lhs; rw [← List.take_append_drop h.length h', ht]
  have k : keepIns h h' := by rw [e]; exact keepIns_app rfl keepIns_refl
  simp only [endK, fin, if_pos k, snap_rf d hd, ht]
end
end Iv

namespace Law
open PySem L2 Iv
/-! ### the text -/
def topS (i : Nat) : Stmt := PySem.Challenge.pw_landweave_k11_noise_by_itself.main.body.getD i (.Pass ⟨0, 0, 0, 0⟩)
abbrev f_knot : Nat := 0
abbrev f_is_whole : Nat := 1
abbrev f_is_name : Nat := 2
abbrev f_must_point : Nat := 3
abbrev f_must_kind : Nat := 4
abbrev f_must_things : Nat := 5
abbrev f_must_field : Nat := 6
abbrev f_parts_of : Nat := 7
abbrev f_size_of : Nat := 8
abbrev f_put : Nat := 9
abbrev f_steps_into : Nat := 10
abbrev f_steps_in : Nat := 11
abbrev f_must_rules : Nat := 12
abbrev f_steps_of : Nat := 13
abbrev f_noise_at : Nat := 14
abbrev f_reckoned : Nat := 15
abbrev f_run_steps : Nat := 16
abbrev f_value_at : Nat := 17
abbrev f_cuts : Nat := 18
abbrev f_noise_range : Nat := 19
abbrev f_range_of : Nat := 20
abbrev f_ranges_of : Nat := 21
abbrev fL_at : Nat := 22
abbrev fL_mixed : Nat := 23
abbrev fL_purse : Nat := 24
abbrev fL_draw : Nat := 25
abbrev fL_whole : Nat := 26
abbrev fL_knot : Nat := 27
abbrev fL_noise : Nat := 28
abbrev fL_grain : Nat := 29
abbrev fL_place : Nat := 30
abbrev fL_spots : Nat := 31
abbrev fL_line_right : Nat := 32
abbrev fL_middles_right : Nat := 33
abbrev f_law : Nat := 34
def k_FORMS : List (Str × D) := [("whole", (.str "N")), ("x", (.str "")), ("z", (.str "")), ("noise", (.str "SL")), ("plus", (.str "FF")), ("less", (.str "FF")), ("times", (.str "FF")), ("least", (.str "FF")), ("most", (.str "FF")), ("over", (.str "FD")), ("below", (.str "FFFF")), ("shift", (.str "MMF")), ("let", (.str "WFF")), ("name", (.str "W"))]
def k_REACHES : List (Str × D) := [("N", (.tup [(.int (-999999999)), (.int 999999999)])), ("S", (.tup [(.int 0), (.int 1000000000)])), ("L", (.tup [(.int 0), (.int 8)])), ("D", (.tup [(.int 1), (.int 1000000000)])), ("M", (.tup [(.int (-1000)), (.int 1000)]))]
def b_knot : List S := [(.asg (.nm 4) (.bin .mod (.bin .add (.bin .add (.v 0) (.bin .mul (.c (.int 48271)) (.v 1))) (.c (.int 7))) (.c (.int 2147483647)))), (.asg (.nm 5) (.bin .mod (.bin .add (.bin .add (.bin .mul (.v 4) (.v 4)) (.bin .mul (.c (.int 69621)) (.v 2))) (.c (.int 1))) (.c (.int 2147483629)))), (.asg (.nm 6) (.bin .mod (.bin .add (.bin .add (.bin .mul (.v 5) (.v 5)) (.bin .mul (.c (.int 16807)) (.v 3))) (.c (.int 1))) (.c (.int 2147483587)))), (.ret (.bin .mod (.bin .mod (.bin .add (.bin .mul (.v 6) (.v 6)) (.v 6)) (.c (.int 2147483579))) (.c (.int 65536))))]
def t_knot : FnT := { name := "knot", st := topS 10, N := ["seed", "salt", "i", "j", "one", "two", "three"], ps := ["seed", "salt", "i", "j"], fn := { np := 4, ns := 7, own := .cut, body := b_knot } }
def b_is_whole : List S := [(.ret (.and (.bi (.isa .int) [(.v 0)]) (.and (.not (.bi (.isa .bool) [(.v 0)])) (.chain .le .le (.v 1) (.v 0) (.v 2)))))]
def t_is_whole : FnT := { name := "is_whole", st := topS 24, N := ["thing", "low", "high"], ps := ["thing", "low", "high"], fn := { np := 3, ns := 3, own := .cut, body := b_is_whole } }
def b_is_name : List S := [(.ret (.and (.bi (.isa .str) [(.v 0)]) (.and (.chain .le .le (.c (.int 1)) (.bi .len [(.v 0)]) (.c (.int 8))) (.bi .all [(.lstv (.comp (.nm 1) [1] (.seq (.v 0)) [] (.cmp .isin (.v 1) (.c (.str "abcdefghijklmnopqrstuvwxyz")))))]))))]
def t_is_name : FnT := { name := "is_name", st := topS 25, N := ["thing", "sign"], ps := ["thing"], fn := { np := 1, ns := 2, own := .cut, body := b_is_name } }
def b_must_point : List S := [(.ite (.or (.cmp .gt (.bi .abs [(.v 0)]) (.c (.int 1000000))) (.cmp .gt (.bi .abs [(.v 1)]) (.c (.int 1000000)))) [.bad] [])]
def t_must_point : FnT := { name := "must_point", st := topS 26, N := ["x", "z"], ps := ["x", "z"], fn := { np := 2, ns := 2, own := .cut, body := b_must_point } }
def b_must_kind : List S := [(.ite (.or (.not (.bi (.isa .tuple) [(.v 0)])) (.or (.cmp .eq (.v 0) (.tup [])) (.not (.bi (.isa .str) [(.idx (.v 0) (.c (.int 0)))])))) [.bad] []), (.asg (.nm 2) (.kget "FORMS" k_FORMS (.idx (.v 0) (.c (.int 0))))), (.ite (.or (.cmp .isN (.v 2) (.c .non)) (.cmp .ne (.bi .len [(.v 0)]) (.bin .add (.bi .len [(.v 2)]) (.c (.int 1))))) [.bad] [])]
def t_must_kind : FnT := { name := "must_kind", st := topS 27, N := ["field", "path", "form"], ps := ["field", "path"], fn := { np := 2, ns := 3, own := .cut, body := b_must_kind } }
def b_must_things : List S := [(.for (.tup [(.nm 3), (.nm 4)]) (.enumS 1 (.kidx "FORMS" k_FORMS (.idx (.v 0) (.c (.int 0))))) [(.asg (.nm 5) (.idx (.v 0) (.v 3))), (.ite (.and (.cmp .eq (.v 4) (.c (.str "W"))) (.not (.call 2 [0] [(.v 5)]))) [.bad] []), (.ite (.cmp .eq (.v 4) (.c (.str "F"))) [(.asg (.nm 6) (.v 2)), (.ite (.and (.cmp .eq (.idx (.v 0) (.c (.int 0))) (.c (.str "let"))) (.cmp .eq (.v 3) (.c (.int 3)))) [(.dext 6 (.v 2) (.idx (.v 0) (.c (.int 1))) (.c (.bl true)))] []), (.expr (.call 6 [0, 1, 2] [(.v 5), (.bin .add (.v 1) (.tup [(.v 3)])), (.v 6)]))] [(.ite (.cmp .ne (.v 4) (.c (.str "W"))) [(.asg (.tup [(.nm 7), (.nm 8)]) (.kidx "REACHES" k_REACHES (.v 4))), (.ite (.not (.call 1 [0, 1, 2] [(.v 5), (.v 7), (.v 8)])) [.bad] [])] [])])])]
def t_must_things : FnT := { name := "must_things", st := topS 28, N := ["field", "path", "names", "place", "sort", "thing", "within", "low", "high"], ps := ["field", "path", "names"], fn := { np := 3, ns := 9, own := .cut, body := b_must_things } }
def b_must_field : List S := [(.expr (.call 4 [0, 1] [(.v 0), (.v 1)])), (.expr (.call 5 [0, 1, 2] [(.v 0), (.v 1), (.v 2)])), (.ite (.and (.cmp .eq (.idx (.v 0) (.c (.int 0))) (.c (.str "name"))) (.cmp .notin (.idx (.v 0) (.c (.int 1))) (.v 2))) [.bad] [])]
def t_must_field : FnT := { name := "must_field", st := topS 29, N := ["field", "path", "names"], ps := ["field", "path", "names"], fn := { np := 3, ns := 3, own := .cut, body := b_must_field } }
def b_parts_of : List S := [(.ret (.lstv (.comp (.tup [(.nm 1), (.nm 2)]) [1, 2] (.zipS (.slice true false (.v 0) (.c (.int 1)) (.c .non)) (.kidx "FORMS" k_FORMS (.idx (.v 0) (.c (.int 0))))) [(.cmp .eq (.v 2) (.c (.str "F")))] (.v 1))))]
def t_parts_of : FnT := { name := "parts_of", st := topS 30, N := ["field", "thing", "sort"], ps := ["field"], fn := { np := 1, ns := 3, own := .cut, body := b_parts_of } }
def b_size_of : List S := [(.ite (.cmp .eq (.idx (.v 0) (.c (.int 0))) (.c (.str "name"))) [(.ret (.idx (.v 1) (.idx (.v 0) (.c (.int 1)))))] []), (.ite (.cmp .eq (.idx (.v 0) (.c (.int 0))) (.c (.str "let"))) [(.dext 2 (.v 1) (.idx (.v 0) (.c (.int 1))) (.call 8 [0, 1] [(.idx (.v 0) (.c (.int 2))), (.v 1)])), (.ret (.call 8 [0, 1] [(.idx (.v 0) (.c (.int 3))), (.v 2)]))] []), (.ret (.bin .add (.c (.int 1)) (.bi .sum [(.lstv (.comp (.nm 3) [3] (.seq (.call 7 [0] [(.v 0)])) [] (.call 8 [0, 1] [(.v 3), (.v 1)])))])))]
def t_size_of : FnT := { name := "size_of", st := topS 31, N := ["field", "sizes", "within", "part"], ps := ["field", "sizes"], fn := { np := 2, ns := 4, own := .cut, body := b_size_of } }
def b_put : List S := [(.ite (.cmp .notin (.v 2) (.v 1)) [(.asg (.sub (.v 1) (.v 2)) (.bi .len [(.v 0)])), (.app (.v 0) (.v 2))] []), (.ret (.idx (.v 1) (.v 2)))]
def t_put : FnT := { name := "put", st := topS 32, N := ["found", "known", "step"], ps := ["found", "known", "step"], fn := { np := 3, ns := 3, own := .cut, body := b_put } }
def b_steps_into : List S := [(.asg (.nm 5) (.idx (.v 2) (.c (.int 0)))), (.asg (.tup [(.nm 7), (.nm 8)]) (.v 3)), (.ite (.cmp .eq (.v 5) (.c (.str "name"))) [(.asg (.tup [(.nm 10), (.nm 9)]) (.idx (.v 4) (.idx (.v 2) (.c (.int 1))))), (.ret (.call 10 [0, 1, 2, 3, 4] [(.v 0), (.v 1), (.v 10), (.v 3), (.v 9)]))] []), (.ite (.cmp .eq (.v 5) (.c (.str "let"))) [(.dext 9 (.v 4) (.idx (.v 2) (.c (.int 1))) (.tup [(.idx (.v 2) (.c (.int 2))), (.v 4)])), (.ret (.call 10 [0, 1, 2, 3, 4] [(.v 0), (.v 1), (.idx (.v 2) (.c (.int 3))), (.v 3), (.v 9)]))] []), (.ite (.cmp .eq (.v 5) (.c (.str "shift"))) [(.ret (.call 10 [0, 1, 2, 3, 4] [(.v 0), (.v 1), (.idx (.v 2) (.c (.int 3))), (.tup [(.bin .add (.v 7) (.idx (.v 2) (.c (.int 1)))), (.bin .add (.v 8) (.idx (.v 2) (.c (.int 2))))]), (.v 4)]))] []), (.ite (.cmp .eq (.v 5) (.c (.str "whole"))) [(.ret (.call 9 [0, 1, 2] [(.v 0), (.v 1), (.v 2)]))] []), (.ite (.cmp .eq (.v 5) (.c (.str "x"))) [(.ret (.call 9 [0, 1, 2] [(.v 0), (.v 1), (.tup [(.c (.str "x")), (.v 7)])]))] []), (.ite (.cmp .eq (.v 5) (.c (.str "z"))) [(.ret (.call 9 [0, 1, 2] [(.v 0), (.v 1), (.tup [(.c (.str "z")), (.v 8)])]))] []), (.ite (.cmp .eq (.v 5) (.c (.str "noise"))) [(.ret (.call 9 [0, 1, 2] [(.v 0), (.v 1), (.bin .add (.v 2) (.v 3))]))] []), (.setF true 6 (.comp (.nm 11) [11] (.seq (.call 7 [0] [(.v 2)])) [] (.call 10 [0, 1, 2, 3, 4] [(.v 0), (.v 1), (.v 11), (.v 3), (.v 4)]))), (.ite (.cmp .eq (.v 5) (.c (.str "over"))) [(.app (.v 6) (.idx (.v 2) (.c (.int 2))))] []), (.ret (.call 9 [0, 1, 2] [(.v 0), (.v 1), (.bin .add (.tup [(.v 5)]) (.bi .tup1 [(.v 6)]))]))]
def t_steps_into : FnT := { name := "steps_into", st := topS 33, N := ["found", "known", "field", "shift", "names", "word", "numbers", "dx", "dz", "within", "thing", "part"], ps := ["found", "known", "field", "shift", "names"], fn := { np := 5, ns := 12, own := .cut, body := b_steps_into } }
def b_steps_in : List S := [(.asg (.nm 1) (.alloc (.disp []))), (.expr (.call 10 [0, 1, 2, 3, 4] [(.v 1), (.dnew true), (.v 0), (.tup [(.c (.int 0)), (.c (.int 0))]), (.dfin false)])), (.ret (.v 1))]
def t_steps_in : FnT := { name := "steps_in", st := topS 34, N := ["rules", "found"], ps := ["rules"], fn := { np := 1, ns := 2, own := .cut, body := b_steps_in } }
def b_must_rules : List S := [(.expr (.call 6 [0, 1, 2] [(.v 0), (.tup []), (.dfin false)])), (.ite (.cmp .gt (.call 8 [0, 1] [(.v 0), (.dfin false)]) (.c (.int 200))) [.bad] []), (.for (.tup [(.nm 1), (.nm 2)]) (.seq (.call 21 [0, 1, 2] [(.call 11 [0] [(.v 0)]), (.c (.int 0)), (.c (.tup [(.int (-1000000)), (.int (-1000000)), (.int 1000000), (.int 1000000)]))])) [(.ite (.or (.cmp .lt (.v 1) (.neg (.c (.int 1000000000000000000000000000000)))) (.cmp .gt (.v 2) (.c (.int 1000000000000000000000000000000)))) [.bad] [])])]
def t_must_rules : FnT := { name := "must_rules", st := topS 35, N := ["rules", "low", "high"], ps := ["rules"], fn := { np := 1, ns := 3, own := .cut, body := b_must_rules } }
def b_steps_of : List S := [(.expr (.call 12 [0] [(.v 0)])), (.ret (.call 11 [0] [(.v 0)]))]
def t_steps_of : FnT := { name := "steps_of", st := topS 36, N := ["rules"], ps := ["rules"], fn := { np := 1, ns := 1, own := .cut, body := b_steps_of } }
def b_noise_at : List S := [(.asg (.nm 5) (.bin .shl (.c (.int 1)) (.v 2))), (.asg (.tup [(.nm 8), (.nm 9)]) (.bi .divmod [(.v 3), (.v 5)])), (.asg (.tup [(.nm 10), (.nm 11)]) (.bi .divmod [(.v 4), (.v 5)])), (.asg (.nm 6) (.bin .add (.bin .mul (.bin .sub (.v 5) (.v 9)) (.call 0 [0, 1, 2, 3] [(.v 0), (.v 1), (.v 8), (.v 10)])) (.bin .mul (.v 9) (.call 0 [0, 1, 2, 3] [(.v 0), (.v 1), (.bin .add (.v 8) (.c (.int 1))), (.v 10)])))), (.asg (.nm 7) (.bin .add (.bin .mul (.bin .sub (.v 5) (.v 9)) (.call 0 [0, 1, 2, 3] [(.v 0), (.v 1), (.v 8), (.bin .add (.v 10) (.c (.int 1)))])) (.bin .mul (.v 9) (.call 0 [0, 1, 2, 3] [(.v 0), (.v 1), (.bin .add (.v 8) (.c (.int 1))), (.bin .add (.v 10) (.c (.int 1)))])))), (.ret (.bin .fdiv (.bin .add (.bin .mul (.bin .sub (.v 5) (.v 11)) (.v 6)) (.bin .mul (.v 11) (.v 7))) (.bin .mul (.v 5) (.v 5))))]
def t_noise_at : FnT := { name := "noise_at", st := topS 37, N := ["seed", "salt", "log", "x", "z", "side", "near", "far", "i", "p", "j", "q"], ps := ["seed", "salt", "log", "x", "z"], fn := { np := 5, ns := 12, own := .cut, body := b_noise_at } }
def b_reckoned : List S := [.bad, (.ite (.cmp .eq (.v 3) (.c (.str "over"))) [(.ret (.bin .fdiv (.idx (.v 1) (.v 4)) (.idx (.v 5) (.c (.int 0)))))] []), (.ite (.cmp .eq (.v 3) (.c (.str "below"))) [(.asg (.tup [(.nm 2), (.nm 6), (.nm 7)]) (.v 5)), (.ret (.idx (.v 1) (.idx (.lstv (.disp [(.v 7), (.v 6)])) (.bi .int1 [(.cmp .lt (.idx (.v 1) (.v 4)) (.idx (.v 1) (.v 2)))]))))] []), (.asg (.nm 2) (.idx (.v 1) (.idx (.v 5) (.c (.int 0))))), (.ite (.cmp .eq (.v 3) (.c (.str "plus"))) [(.ret (.bin .add (.idx (.v 1) (.v 4)) (.v 2)))] []), (.ite (.cmp .eq (.v 3) (.c (.str "less"))) [(.ret (.bin .sub (.idx (.v 1) (.v 4)) (.v 2)))] []), (.ite (.cmp .eq (.v 3) (.c (.str "times"))) [(.ret (.bin .mul (.idx (.v 1) (.v 4)) (.v 2)))] []), (.ite (.cmp .eq (.v 3) (.c (.str "least"))) [(.ret (.bi .min2 [(.idx (.v 1) (.v 4)), (.v 2)]))] []), (.ret (.bi .max2 [(.idx (.v 1) (.v 4)), (.v 2)]))]
def t_reckoned : FnT := { name := "reckoned", st := topS 38, N := ["step", "values", "other", "word", "one", "rest", "then", "otherwise"], ps := ["step", "values"], fn := { np := 2, ns := 8, own := .cut, body := b_reckoned } }
def b_run_steps : List S := [(.asg (.nm 4) (.alloc (.disp []))), (.for (.nm 5) (.seq (.v 0)) [(.asg (.nm 6) (.idx (.v 5) (.c (.int 0)))), (.ite (.cmp .eq (.v 6) (.c (.str "whole"))) [(.app (.v 4) (.idx (.v 5) (.c (.int 1))))] [(.ite (.cmp .eq (.v 6) (.c (.str "x"))) [(.app (.v 4) (.bin .add (.v 2) (.idx (.v 5) (.c (.int 1)))))] [(.ite (.cmp .eq (.v 6) (.c (.str "z"))) [(.app (.v 4) (.bin .add (.v 3) (.idx (.v 5) (.c (.int 1)))))] [(.ite (.cmp .eq (.v 6) (.c (.str "noise"))) [(.app (.v 4) (.call 14 [0, 1, 2, 3, 4] [(.v 1), (.idx (.v 5) (.c (.int 1))), (.idx (.v 5) (.c (.int 2))), (.bin .add (.v 2) (.idx (.v 5) (.c (.int 3)))), (.bin .add (.v 3) (.idx (.v 5) (.c (.int 4))))]))] [(.app (.v 4) (.call 15 [0, 1] [(.v 5), (.v 4)]))])])])])]), (.ret (.idx (.v 4) (.neg (.c (.int 1)))))]
def t_run_steps : FnT := { name := "run_steps", st := topS 39, N := ["some", "seed", "x", "z", "values", "step", "word"], ps := ["some", "seed", "x", "z"], fn := { np := 4, ns := 7, own := .cut, body := b_run_steps } }
def b_value_at : List S := [(.expr (.call 12 [0] [(.v 0)])), (.expr (.call 3 [0, 1] [(.v 2), (.v 3)])), (.ret (.call 16 [0, 1, 2, 3] [(.call 11 [0] [(.v 0)]), (.v 1), (.v 2), (.v 3)]))]
def t_value_at : FnT := { name := "value_at", st := topS 40, N := ["rules", "seed", "x", "z"], ps := ["rules", "seed", "x", "z"], fn := { np := 4, ns := 4, own := .cut, body := b_value_at } }
def b_cuts : List S := [(.asg (.nm 3) (.alloc (.disp []))), (.for (.nm 4) (.range2 (.bin .fdiv (.v 0) (.v 2)) (.bin .add (.bin .fdiv (.v 1) (.v 2)) (.c (.int 1)))) [(.app (.v 3) (.tup [(.bi .max2 [(.v 0), (.bin .mul (.v 4) (.v 2))]), (.bi .min2 [(.v 1), (.bin .sub (.bin .add (.bin .mul (.v 4) (.v 2)) (.v 2)) (.c (.int 1)))])]))]), (.ret (.v 3))]
def t_cuts : FnT := { name := "cuts", st := topS 41, N := ["low", "high", "side", "found", "at"], ps := ["low", "high", "side"], fn := { np := 3, ns := 5, own := .cut, body := b_cuts } }
def b_noise_range : List S := [(.asg (.tup [(.nm 7), (.nm 8), (.nm 9), (.nm 10), (.nm 11)]) (.v 1)), (.asg (.tup [(.nm 12), (.nm 13), (.nm 14), (.nm 15)]) (.v 2)), (.asg (.nm 3) (.bin .shl (.c (.int 1)) (.v 9))), (.asg (.nm 4) (.bin .add (.bin .sub (.bin .fdiv (.bin .add (.v 14) (.v 10)) (.v 3)) (.bin .fdiv (.bin .add (.v 12) (.v 10)) (.v 3))) (.c (.int 1)))), (.asg (.nm 5) (.bin .add (.bin .sub (.bin .fdiv (.bin .add (.v 15) (.v 11)) (.v 3)) (.bin .fdiv (.bin .add (.v 13) (.v 11)) (.v 3))) (.c (.int 1)))), (.ite (.cmp .gt (.bin .mul (.v 4) (.v 5)) (.c (.int 64))) [(.ret (.tup [(.c (.int 0)), (.c (.int 65535))]))] []), (.asg (.nm 6) (.alloc (.disp []))), (.for (.tup [(.nm 16), (.nm 17)]) (.seq (.call 18 [0, 1, 2] [(.bin .add (.v 12) (.v 10)), (.bin .add (.v 14) (.v 10)), (.v 3)])) [(.for (.tup [(.nm 18), (.nm 19)]) (.seq (.call 18 [0, 1, 2] [(.bin .add (.v 13) (.v 11)), (.bin .add (.v 15) (.v 11)), (.v 3)])) [.bad])]), (.ret (.tup [(.bi .min1 [(.v 6)]), (.bi .max1 [(.v 6)])]))]
def t_noise_range : FnT := { name := "noise_range", st := topS 42, N := ["seed", "step", "box", "side", "wide", "deep", "corners", "word", "salt", "log", "dx", "dz", "low", "near", "high", "far", "first", "last", "begin", "end", "x", "z"], ps := ["seed", "step", "box"], fn := { np := 3, ns := 22, own := .cut, body := b_noise_range } }
def b_range_of : List S := [.bad, (.asg (.tup [(.nm 4), (.nm 5)]) (.idx (.v 1) (.v 3))), (.ite (.cmp .eq (.v 2) (.c (.str "over"))) [(.ret (.tup [(.bin .fdiv (.v 4) (.idx (.v 9) (.c (.int 0)))), (.bin .fdiv (.v 5) (.idx (.v 9) (.c (.int 0))))]))] []), (.asg (.tup [(.nm 6), (.nm 7)]) (.idx (.v 1) (.idx (.v 9) (.c (.int 0))))), (.ite (.cmp .eq (.v 2) (.c (.str "below"))) [.bad, (.ite (.cmp .lt (.v 5) (.v 6)) [(.ret (.v 10))] []), (.ite (.cmp .ge (.v 4) (.v 7)) [(.ret (.v 11))] []), (.ret (.tup [(.bi .min2 [(.idx (.v 10) (.c (.int 0))), (.idx (.v 11) (.c (.int 0)))]), (.bi .max2 [(.idx (.v 10) (.c (.int 1))), (.idx (.v 11) (.c (.int 1)))])]))] []), (.ite (.cmp .eq (.v 2) (.c (.str "plus"))) [(.ret (.tup [(.bin .add (.v 4) (.v 6)), (.bin .add (.v 5) (.v 7))]))] []), (.ite (.cmp .eq (.v 2) (.c (.str "less"))) [(.ret (.tup [(.bin .sub (.v 4) (.v 7)), (.bin .sub (.v 5) (.v 6))]))] []), (.ite (.cmp .eq (.v 2) (.c (.str "times"))) [.bad, (.ret (.tup [(.bi .min1 [(.v 8)]), (.bi .max1 [(.v 8)])]))] []), (.ite (.cmp .eq (.v 2) (.c (.str "least"))) [(.ret (.tup [(.bi .min2 [(.v 4), (.v 6)]), (.bi .min2 [(.v 5), (.v 7)])]))] []), (.ret (.tup [(.bi .max2 [(.v 4), (.v 6)]), (.bi .max2 [(.v 5), (.v 7)])]))]
def t_range_of : FnT := { name := "range_of", st := topS 43, N := ["step", "ranges", "word", "one", "low", "high", "least", "most", "products", "rest", "then", "otherwise", "other"], ps := ["step", "ranges"], fn := { np := 2, ns := 13, own := .cut, body := b_range_of } }
def b_ranges_of : List S := [(.asg (.tup [(.nm 5), (.nm 6), (.nm 7), (.nm 8)]) (.v 2)), (.asg (.nm 3) (.alloc (.disp []))), (.for (.nm 4) (.seq (.v 0)) [(.asg (.nm 9) (.idx (.v 4) (.c (.int 0)))), (.ite (.cmp .eq (.v 9) (.c (.str "whole"))) [(.app (.v 3) (.tup [(.idx (.v 4) (.c (.int 1))), (.idx (.v 4) (.c (.int 1)))]))] [(.ite (.cmp .eq (.v 9) (.c (.str "x"))) [(.app (.v 3) (.tup [(.bin .add (.v 5) (.idx (.v 4) (.c (.int 1)))), (.bin .add (.v 7) (.idx (.v 4) (.c (.int 1))))]))] [(.ite (.cmp .eq (.v 9) (.c (.str "z"))) [(.app (.v 3) (.tup [(.bin .add (.v 6) (.idx (.v 4) (.c (.int 1)))), (.bin .add (.v 8) (.idx (.v 4) (.c (.int 1))))]))] [(.ite (.cmp .eq (.v 9) (.c (.str "noise"))) [(.app (.v 3) (.call 19 [0, 1, 2] [(.v 1), (.v 4), (.v 2)]))] [(.app (.v 3) (.call 20 [0, 1] [(.v 4), (.v 3)]))])])])])]), (.ret (.v 3))]
def t_ranges_of : FnT := { name := "ranges_of", st := topS 44, N := ["some", "seed", "box", "ranges", "step", "low", "near", "high", "far", "word"], ps := ["some", "seed", "box"], fn := { np := 3, ns := 10, own := .cut, body := b_ranges_of } }
def bL_at : List S := [(.ite (.cmp .lt (.v 1) (.bi .len [(.v 0)])) [(.ret (.idx (.v 0) (.v 1)))] []), (.ret (.c (.int 0)))]
def tL_at : FnT := { name := "_law_at", st := topS 46, N := ["_law_script", "_law_k"], ps := ["_law_script", "_law_k"], fn := { np := 2, ns := 2, own := .cut, body := bL_at } }
def bL_mixed : List S := [(.asg (.nm 2) (.bin .mod (.bin .add (.bin .add (.bin .add (.bin .mul (.v 0) (.c (.int 1103515245))) (.bin .mul (.bin .mul (.c (.int 7919)) (.v 1)) (.v 1))) (.v 1)) (.c (.int 1))) (.c (.int 2147483647)))), (.asg (.nm 2) (.bin .mod (.bin .add (.bin .mul (.v 2) (.v 2)) (.c (.int 69621))) (.c (.int 2147483629)))), (.ret (.bin .mod (.bin .mul (.v 2) (.c (.int 48271))) (.c (.int 2147483587))))]
def tL_mixed : FnT := { name := "_law_mixed", st := topS 47, N := ["_law_cell", "_law_k", "_law_number"], ps := ["_law_cell", "_law_k"], fn := { np := 2, ns := 3, own := .cut, body := bL_mixed } }
def bL_purse : List S := [(.asg (.nm 2) (.call 22 [0, 1] [(.v 0), (.v 1)])), (.ret (.alloc (.disp [(.bin .mod (.bi .max2 [(.bin .sub (.v 2) (.bin .pow (.c (.int 10)) (.c (.int 18)))), (.c (.int 0))]) (.bin .pow (.bin .pow (.c (.int 10)) (.c (.int 60))) (.c (.int 10)))), (.bin .mod (.v 2) (.c (.int 2147483647))), (.bin .mul (.c (.int 1000)) (.v 1))])))]
def tL_purse : FnT := { name := "_law_purse", st := topS 48, N := ["_law_script", "_law_at_here", "_law_cell"], ps := ["_law_script", "_law_at_here"], fn := { np := 2, ns := 3, own := .own, body := bL_purse } }
def bL_draw : List S := [(.ite (.cmp .gt (.idx (.v 0) (.c (.int 0))) (.c (.int 0))) [(.asg (.nm 4) (.bin .mod (.idx (.v 0) (.c (.int 0))) (.v 1))), (.asg (.sub (.v 0) (.c (.int 0))) (.bin .fdiv (.idx (.v 0) (.c (.int 0))) (.v 1))), (.ret (.v 4))] []), (.asg (.nm 2) (.c (.int 0))), (.for (.nm 3) (.range1 (.bin .add (.c (.int 1)) (.bin .fdiv (.bi .bitlen [(.v 1)]) (.c (.int 30))))) [(.asg (.sub (.v 0) (.c (.int 2))) (.bin .add (.idx (.v 0) (.c (.int 2))) (.c (.int 1)))), (.asg (.nm 2) (.bin .add (.bin .mul (.v 2) (.c (.int 2147483587))) (.call 23 [0, 1] [(.idx (.v 0) (.c (.int 1))), (.idx (.v 0) (.c (.int 2)))])))]), (.ret (.bin .mod (.v 2) (.v 1)))]
def tL_draw : FnT := { name := "_law_draw", st := topS 49, N := ["_law_purse_here", "_law_out_of", "_law_number", "_law_k", "_law_drawn"], ps := ["_law_purse_here", "_law_out_of"], fn := { np := 2, ns := 5, own := .cut, body := bL_draw } }
def bL_whole : List S := [(.ret (.and (.bi (.isa .int) [(.v 0)]) (.not (.bi (.isa .bool) [(.v 0)]))))]
def tL_whole : FnT := { name := "_law_whole", st := topS 50, N := ["_law_found"], ps := ["_law_found"], fn := { np := 1, ns := 1, own := .cut, body := bL_whole } }
def bL_knot : List S := [(.asg (.nm 4) (.bin .mod (.bin .add (.bin .add (.v 0) (.bin .mul (.c (.int 48271)) (.v 1))) (.c (.int 7))) (.c (.int 2147483647)))), (.asg (.nm 5) (.bin .mod (.bin .add (.bin .add (.bin .mul (.v 4) (.v 4)) (.bin .mul (.c (.int 69621)) (.v 2))) (.c (.int 1))) (.c (.int 2147483629)))), (.asg (.nm 6) (.bin .mod (.bin .add (.bin .add (.bin .mul (.v 5) (.v 5)) (.bin .mul (.c (.int 16807)) (.v 3))) (.c (.int 1))) (.c (.int 2147483587)))), (.ret (.bin .mod (.bin .mod (.bin .add (.bin .mul (.v 6) (.v 6)) (.v 6)) (.c (.int 2147483579))) (.c (.int 65536))))]
def tL_knot : FnT := { name := "_law_knot", st := topS 51, N := ["_law_grain_here", "_law_salted", "_law_left", "_law_right", "_law_one", "_law_two", "_law_three"], ps := ["_law_grain_here", "_law_salted", "_law_left", "_law_right"], fn := { np := 4, ns := 7, own := .cut, body := bL_knot } }
def bL_noise : List S := [(.asg (.nm 4) (.bin .shl (.c (.int 1)) (.idx (.v 0) (.c (.int 2))))), (.asg (.nm 5) (.bin .mod (.v 2) (.v 4))), (.asg (.nm 6) (.bin .mod (.v 3) (.v 4))), (.asg (.nm 7) (.bin .fdiv (.bin .sub (.v 2) (.v 5)) (.v 4))), (.asg (.nm 8) (.bin .fdiv (.bin .sub (.v 3) (.v 6)) (.v 4))), (.asg (.nm 9) (.bin .mul (.bin .mul (.bin .sub (.v 4) (.v 5)) (.bin .sub (.v 4) (.v 6))) (.call 27 [0, 1, 2, 3] [(.v 1), (.idx (.v 0) (.c (.int 1))), (.v 7), (.v 8)]))), (.asg (.nm 9) (.bin .add (.v 9) (.bin .mul (.bin .mul (.v 5) (.bin .sub (.v 4) (.v 6))) (.call 27 [0, 1, 2, 3] [(.v 1), (.idx (.v 0) (.c (.int 1))), (.bin .add (.v 7) (.c (.int 1))), (.v 8)])))), (.asg (.nm 9) (.bin .add (.v 9) (.bin .mul (.bin .mul (.bin .sub (.v 4) (.v 5)) (.v 6)) (.call 27 [0, 1, 2, 3] [(.v 1), (.idx (.v 0) (.c (.int 1))), (.v 7), (.bin .add (.v 8) (.c (.int 1)))])))), (.ret (.bin .fdiv (.bin .add (.v 9) (.bin .mul (.bin .mul (.v 5) (.v 6)) (.call 27 [0, 1, 2, 3] [(.v 1), (.idx (.v 0) (.c (.int 1))), (.bin .add (.v 7) (.c (.int 1))), (.bin .add (.v 8) (.c (.int 1)))]))) (.bin .mul (.v 4) (.v 4))))]
def tL_noise : FnT := { name := "_law_noise", st := topS 52, N := ["_law_field", "_law_grain_here", "_law_x", "_law_z", "_law_wide", "_law_p", "_law_q", "_law_i", "_law_j", "_law_whole_sum"], ps := ["_law_field", "_law_grain_here", "_law_x", "_law_z"], fn := { np := 4, ns := 10, own := .cut, body := bL_noise } }
def bL_grain : List S := [(.ret (.idx (.lstv (.disp [(.c (.int 0)), (.c (.int 1)), (.bin .pow (.c (.int 10)) (.c (.int 9))), (.call 25 [0, 1] [(.v 0), (.bin .pow (.c (.int 10)) (.c (.int 9)))])])) (.call 25 [0, 1] [(.v 0), (.c (.int 4))])))]
def tL_grain : FnT := { name := "_law_grain", st := topS 53, N := ["_law_purse_here"], ps := ["_law_purse_here"], fn := { np := 1, ns := 1, own := .cut, body := bL_grain } }
def bL_place : List S := [(.asg (.nm 1) (.alloc (.disp []))), (.for (.nm 2) (.range1 (.c (.int 2))) [(.asg (.nm 3) (.idx (.lstv (.disp [(.c (.int 9)), (.c (.int 300)), (.c (.int 100000)), (.c (.int 1000001))])) (.call 25 [0, 1] [(.v 0), (.c (.int 4))]))), (.app (.v 1) (.bin .mul (.bi .min2 [(.c (.int 1000000)), (.call 25 [0, 1] [(.v 0), (.v 3)])]) (.bin .sub (.c (.int 1)) (.bin .mul (.c (.int 2)) (.call 25 [0, 1] [(.v 0), (.c (.int 2))])))))]), (.ret (.tup [(.idx (.v 1) (.c (.int 0))), (.idx (.v 1) (.c (.int 1)))]))]
def tL_place : FnT := { name := "_law_place", st := topS 54, N := ["_law_purse_here", "_law_found", "_law_k", "_law_far"], ps := ["_law_purse_here"], fn := { np := 1, ns := 4, own := .cut, body := bL_place } }
def bL_spots : List S := [(.asg (.nm 2) (.lstv (.disp [(.tup [(.c (.int 0)), (.c (.int 0))]), (.tup [(.c (.int 1000000)), (.c (.int 1000000))]), (.tup [(.neg (.c (.int 1000000))), (.neg (.c (.int 1000000)))]), (.tup [(.neg (.c (.int 1))), (.neg (.c (.int 1)))]), (.tup [(.c (.int 999999)), (.neg (.c (.int 1000000)))])]))), (.for (.nm 3) (.range1 (.c (.int 4))) [(.asg (.tup [(.nm 5), (.nm 6)]) (.call 30 [0] [(.v 0)])), (.asg (.nm 4) (.tup [(.bin .mul (.bin .fdiv (.v 5) (.v 1)) (.v 1)), (.bin .mul (.bin .fdiv (.v 6) (.v 1)) (.v 1))])), (.asg (.nm 2) (.lstv (.cat (.v 2) (.lstv (.disp [(.tup [(.v 5), (.v 6)]), (.v 4), (.tup [(.bin .add (.idx (.v 4) (.c (.int 0))) (.bin .fdiv (.v 1) (.c (.int 2)))), (.bin .add (.idx (.v 4) (.c (.int 1))) (.bin .fdiv (.v 1) (.c (.int 2))))]), (.tup [(.bin .sub (.bin .add (.idx (.v 4) (.c (.int 0))) (.v 1)) (.c (.int 1))), (.idx (.v 4) (.c (.int 1)))])])))))]), (.ret (.lstv (.comp (.nm 7) [7] (.seq (.v 2)) [(.and (.cmp .le (.bi .abs [(.idx (.v 7) (.c (.int 0)))]) (.c (.int 1000000))) (.cmp .le (.bi .abs [(.idx (.v 7) (.c (.int 1)))]) (.c (.int 1000000))))] (.v 7))))]
def tL_spots : FnT := { name := "_law_spots", st := topS 55, N := ["_law_purse_here", "_law_wide", "_law_found", "_law_k", "_law_low", "_law_x", "_law_z", "_law_spot"], ps := ["_law_purse_here", "_law_wide"], fn := { np := 2, ns := 8, own := .cut, body := bL_spots } }
def bL_line_right : List S := [(.asg (.nm 4) (.bin .shl (.c (.int 1)) (.idx (.v 0) (.c (.int 2))))), (.asg (.nm 5) (.lstv (.disp [(.v 2), (.tup [(.bin .add (.idx (.v 2) (.c (.int 0))) (.bin .mul (.idx (.v 3) (.c (.int 0))) (.v 4))), (.bin .add (.idx (.v 2) (.c (.int 1))) (.bin .mul (.idx (.v 3) (.c (.int 1))) (.v 4)))])]))), (.asg (.tup [(.nm 8), (.nm 9)]) (.lstv (.comp (.nm 11) [11] (.seq (.v 5)) [] (.call 28 [0, 1, 2, 3] [(.v 0), (.v 1), (.idx (.v 11) (.c (.int 0))), (.idx (.v 11) (.c (.int 1)))])))), (.asg (.nm 6) (.v 8)), (.for (.nm 7) (.range1 (.bin .add (.v 4) (.c (.int 1)))) [(.asg (.nm 10) (.call 17 [0, 1, 2, 3] [(.v 0), (.v 1), (.bin .add (.idx (.v 2) (.c (.int 0))) (.bin .mul (.idx (.v 3) (.c (.int 0))) (.v 7))), (.bin .add (.idx (.v 2) (.c (.int 1))) (.bin .mul (.idx (.v 3) (.c (.int 1))) (.v 7)))])), (.ite (.cmp .ne (.v 10) (.bin .fdiv (.bin .add (.bin .mul (.v 8) (.bin .sub (.v 4) (.v 7))) (.bin .mul (.v 9) (.v 7))) (.v 4))) [(.ret (.c (.bl false)))] []), (.ite (.or (.and (.cmp .le (.v 8) (.v 9)) (.cmp .lt (.v 10) (.v 6))) (.and (.cmp .ge (.v 8) (.v 9)) (.cmp .gt (.v 10) (.v 6)))) [(.ret (.c (.bl false)))] []), (.asg (.nm 6) (.v 10))]), (.ret (.cmp .eq (.v 6) (.v 9)))]
def tL_line_right : FnT := { name := "_law_line_right", st := topS 56, N := ["_law_field", "_law_grain_here", "_law_start", "_law_way", "_law_wide", "_law_ends", "_law_ahead", "_law_k", "_law_one", "_law_other", "_law_found", "_law_spot"], ps := ["_law_field", "_law_grain_here", "_law_start", "_law_way"], fn := { np := 4, ns := 12, own := .cut, body := bL_line_right } }
def bL_middles_right : List S := [(.asg (.nm 3) (.bin .shl (.c (.int 1)) (.idx (.v 0) (.c (.int 2))))), (.ite (.cmp .eq (.v 3) (.c (.int 1))) [(.ret (.cmp .eq (.call 17 [0, 1, 2, 3] [(.v 0), (.v 1), (.idx (.v 2) (.c (.int 0))), (.idx (.v 2) (.c (.int 1)))]) (.call 0 [0, 1, 2, 3] [(.v 1), (.idx (.v 0) (.c (.int 1))), (.idx (.v 2) (.c (.int 0))), (.idx (.v 2) (.c (.int 1)))])))] []), (.asg (.nm 4) (.bin .fdiv (.idx (.v 2) (.c (.int 0))) (.v 3))), (.asg (.nm 5) (.bin .fdiv (.idx (.v 2) (.c (.int 1))) (.v 3))), (.setF false 6 (.comp (.nm 8) [8] (.range1 (.c (.int 4))) [] (.call 0 [0, 1, 2, 3] [(.v 1), (.idx (.v 0) (.c (.int 1))), (.bin .add (.v 4) (.bin .mod (.v 8) (.c (.int 2)))), (.bin .add (.v 5) (.bin .fdiv (.v 8) (.c (.int 2))))]))), (.asg (.nm 7) (.bin .fdiv (.v 3) (.c (.int 2)))), (.ite (.cmp .ne (.call 17 [0, 1, 2, 3] [(.v 0), (.v 1), (.idx (.v 2) (.c (.int 0))), (.idx (.v 2) (.c (.int 1)))]) (.idx (.v 6) (.c (.int 0)))) [(.ret (.c (.bl false)))] []), (.ite (.cmp .ne (.call 17 [0, 1, 2, 3] [(.v 0), (.v 1), (.bin .add (.idx (.v 2) (.c (.int 0))) (.v 7)), (.bin .add (.idx (.v 2) (.c (.int 1))) (.v 7))]) (.bin .fdiv (.bi .sum [(.v 6)]) (.c (.int 4)))) [(.ret (.c (.bl false)))] []), (.ite (.cmp .ne (.call 17 [0, 1, 2, 3] [(.v 0), (.v 1), (.bin .add (.idx (.v 2) (.c (.int 0))) (.v 7)), (.idx (.v 2) (.c (.int 1)))]) (.bin .fdiv (.bin .add (.idx (.v 6) (.c (.int 0))) (.idx (.v 6) (.c (.int 1)))) (.c (.int 2)))) [(.ret (.c (.bl false)))] []), (.ret (.cmp .eq (.call 17 [0, 1, 2, 3] [(.v 0), (.v 1), (.idx (.v 2) (.c (.int 0))), (.bin .add (.idx (.v 2) (.c (.int 1))) (.v 7))]) (.bin .fdiv (.bin .add (.idx (.v 6) (.c (.int 0))) (.idx (.v 6) (.c (.int 2)))) (.c (.int 2)))))]
def tL_middles_right : FnT := { name := "_law_middles_right", st := topS 57, N := ["_law_field", "_law_grain_here", "_law_low", "_law_wide", "_law_i", "_law_j", "_law_four", "_law_half", "_law_k"], ps := ["_law_field", "_law_grain_here", "_law_low"], fn := { np := 3, ns := 9, own := .cut, body := bL_middles_right } }
def b_law : List S := [(.for (.nm 1) (.range1 (.c (.int 4))) [(.asg (.nm 2) (.call 24 [0, 1] [(.v 0), (.v 1)])), (.asg (.nm 3) (.call 29 [0] [(.v 2)])), (.for (.nm 4) (.seq (.lstv (.disp [(.call 25 [0, 1] [(.v 2), (.c (.int 9))]), (.idx (.lstv (.disp [(.c (.int 0)), (.c (.int 8)), (.c (.int 1))])) (.bin .mod (.v 1) (.c (.int 3))))]))) [(.asg (.nm 5) (.tup [(.c (.str "noise")), (.call 29 [0] [(.v 2)]), (.v 4)])), (.asg (.nm 6) (.bin .shl (.c (.int 1)) (.v 4))), (.for (.tup [(.nm 8), (.nm 9)]) (.seq (.call 31 [0, 1] [(.v 2), (.v 6)])) [(.asg (.nm 10) (.call 17 [0, 1, 2, 3] [(.v 5), (.v 3), (.v 8), (.v 9)])), (.ite (.or (.not (.call 26 [0] [(.v 10)])) (.cmp .ne (.v 10) (.call 28 [0, 1, 2, 3] [(.v 5), (.v 3), (.v 8), (.v 9)]))) [(.ret (.c (.bl false)))] []), (.ite (.or (.cmp .ne (.call 16 [0, 1, 2, 3] [(.call 13 [0] [(.v 5)]), (.v 3), (.v 8), (.v 9)]) (.v 10)) (.not (.chain .le .lt (.c (.int 0)) (.v 10) (.c (.int 65536))))) [(.ret (.c (.bl false)))] []), (.asg (.nm 11) (.tup [(.c (.str "shift")), (.c (.int 1000)), (.neg (.c (.int 1000))), (.v 5)])), (.ite (.cmp .ne (.call 17 [0, 1, 2, 3] [(.v 11), (.v 3), (.v 8), (.v 9)]) (.call 28 [0, 1, 2, 3] [(.v 5), (.v 3), (.bin .add (.v 8) (.c (.int 1000))), (.bin .sub (.v 9) (.c (.int 1000)))])) [(.ret (.c (.bl false)))] [])]), (.asg (.nm 7) (.tup [(.bin .mul (.bin .sub (.call 25 [0, 1] [(.v 2), (.c (.int 99))]) (.c (.int 50))) (.v 6)), (.bin .mul (.bin .sub (.call 25 [0, 1] [(.v 2), (.c (.int 99))]) (.c (.int 50))) (.v 6))])), (.ite (.or (.not (.call 32 [0, 1, 2, 3] [(.v 5), (.v 3), (.v 7), (.tup [(.c (.int 1)), (.c (.int 0))])])) (.not (.call 32 [0, 1, 2, 3] [(.v 5), (.v 3), (.v 7), (.tup [(.c (.int 0)), (.c (.int 1))])]))) [(.ret (.c (.bl false)))] []), (.ite (.not (.call 33 [0, 1, 2] [(.v 5), (.v 3), (.v 7)])) [(.ret (.c (.bl false)))] [])])]), (.ret (.c (.bl true)))]
def t_law : FnT := { name := "law", st := topS 58, N := ["_law_script", "_law_cell", "_law_purse_here", "_law_grain_here", "_law_log_here", "_law_field", "_law_wide", "_law_low", "_law_x_here", "_law_z_here", "_law_found", "_law_carried"], ps := ["_law_script"], fn := { np := 1, ns := 12, own := .cut, body := b_law } }
def tbl : List FnT := [t_knot, t_is_whole, t_is_name, t_must_point, t_must_kind, t_must_things, t_must_field, t_parts_of, t_size_of, t_put, t_steps_into, t_steps_in, t_must_rules, t_steps_of, t_noise_at, t_reckoned, t_run_steps, t_value_at, t_cuts, t_noise_range, t_range_of, t_ranges_of, tL_at, tL_mixed, tL_purse, tL_draw, tL_whole, tL_knot, tL_noise, tL_grain, tL_place, tL_spots, tL_line_right, tL_middles_right, t_law]
abbrev T : List Fn := tbl.map (·.fn)
def gls : List (Str × D) := [("FIRST", (.int 2147483647)), ("SECOND", (.int 2147483629)), ("THIRD", (.int 2147483587)), ("LAST", (.int 2147483579)), ("MOST", (.int 65536)), ("LETTERS", (.str "abcdefghijklmnopqrstuvwxyz")), ("FAREST", (.int 1000000)), ("MOST_FIELDS", (.int 200)), ("WHOLE_LAND", (.tup [(.int (-1000000)), (.int (-1000000)), (.int 1000000), (.int 1000000)])), ("GREAT", (.int 1000000000000000000000000000000)), ("MOST_SQUARES", (.int 64)), ("MOST_KNOT", (.int 65535))]
def shs : List Shape := [⟨2, 1, [], [], [0]⟩, ⟨6, 3, [], [], [0, 1, 2]⟩, ⟨1, 3, [], [], [0, 1, 2]⟩, ⟨4, 2, [], [], [0, 1]⟩, ⟨5, 3, [], [], [0, 1, 2]⟩, ⟨8, 2, [], [], [0, 1]⟩, ⟨7, 1, [], [], [0]⟩, ⟨10, 5, [], [], [0, 1, 2, 3, 4]⟩, ⟨9, 3, [], [], [0, 1, 2]⟩, ⟨21, 3, [], [], [0, 1, 2]⟩, ⟨11, 1, [], [], [0]⟩, ⟨12, 1, [], [], [0]⟩, ⟨0, 4, [], [], [0, 1, 2, 3]⟩, ⟨14, 5, [], [], [0, 1, 2, 3, 4]⟩, ⟨15, 2, [], [], [0, 1]⟩, ⟨3, 2, [], [], [0, 1]⟩, ⟨16, 4, [], [], [0, 1, 2, 3]⟩, ⟨18, 3, [], [], [0, 1, 2]⟩, ⟨19, 3, [], [], [0, 1, 2]⟩, ⟨20, 2, [], [], [0, 1]⟩, ⟨22, 2, [], [], [0, 1]⟩, ⟨23, 2, [], [], [0, 1]⟩, ⟨27, 4, [], [], [0, 1, 2, 3]⟩, ⟨25, 2, [], [], [0, 1]⟩, ⟨30, 1, [], [], [0]⟩, ⟨28, 4, [], [], [0, 1, 2, 3]⟩, ⟨17, 4, [], [], [0, 1, 2, 3]⟩, ⟨24, 2, [], [], [0, 1]⟩, ⟨29, 1, [], [], [0]⟩, ⟨31, 2, [], [], [0, 1]⟩, ⟨26, 1, [], [], [0]⟩, ⟨13, 1, [], [], [0]⟩, ⟨32, 4, [], [], [0, 1, 2, 3]⟩, ⟨33, 3, [], [], [0, 1, 2]⟩]
def blts : List Str := ["isinstance", "int", "bool", "str", "len", "all", "abs", "tuple", "enumerate", "dict", "zip", "sum", "divmod", "min", "max", "range"]
def tx : Tx := { N := [], fns := tbl.map fun t => (t.name, t.ps), gl := gls, shapes := shs, blt := blts, kds := [("FORMS", k_FORMS), ("REACHES", k_REACHES)] }
theorem ck_all : tbl.all (ckFn tx) = true := by decide +kernel
end Law

set_option maxHeartbeats 1000000
namespace Law
open PySem L2 Iv
/-! ### the program's defs, where the rules are one noise -/
def knot1 (s t : Int) : Int := (s + 48271 * t + 7) % 2147483647
def knot2 (x i : Int) : Int := (x * x + 69621 * i + 1) % 2147483629
def knot3 (x j : Int) : Int := (x * x + 16807 * j + 1) % 2147483587
def knotV (s t i j : Int) : Int := (knot3 (knot2 (knot1 s t) i) j * knot3 (knot2 (knot1 s t) i) j + knot3 (knot2 (knot1 s t) i) j) % 2147483579 % 65536
theorem knot_ge {s t i j : Int} : 0 ≤ knotV s t i j := Int.emod_nonneg _ (by decide)
theorem knot_lt {s t i j : Int} : knotV s t i j < 65536 := Int.emod_lt_of_pos _ (by decide)
theorem run_knot {k : Nat} {s t i j : Int} {h : AH} : run T (k + 1) f_knot [.int s, .int t, .int i, .int j] h = some (.int (knotV s t i j), h) := by
  rw [run_eq (fn := t_knot.fn) rfl rfl]
  show bnd (semSs _ b_knot [some (.int s), some (.int t), some (.int i), some (.int j), none, none, none]) (endK .cut h) _ = _
  unfold b_knot
  simp -implicitDefEqProofs (disch := first | omega | decide +kernel | exact rfl | (simp only [List.length_cons, List.length_nil]; decide +kernel)) only [↓Iv.slotK_0, ↓Iv.slotK_s, ↓Iv.setK_0, ↓Iv.setK_s, ↓Iv.nthK_0, ↓Iv.nthK_s, ↓Iv.permK_0, ↓Iv.permK_s, ↓Iv.e_v, ↓Iv.e_c, ↓Iv.e_tup, ↓Iv.e_lstv, ↓Iv.e_alloc, ↓Iv.e_bin, ↓Iv.e_neg, ↓Iv.e_cmp, ↓Iv.e_chain, ↓Iv.e_and, ↓Iv.e_or, ↓Iv.e_notK, ↓Iv.notK_T, ↓Iv.notK_F, ↓Iv.e_ite, ↓Iv.e_idx, ↓Iv.e_call, ↓Iv.e_bi, ↓Iv.es_nil, ↓Iv.es_cons, ↓Iv.f_disp, ↓Iv.new_3, ↓Iv.new_0, ↓Iv.sz_0, ↓Iv.sz_1, ↓Iv.sz_2, ↓Iv.sz_3, ↓Iv.sz_4, ↓Iv.sz_5, ↓Iv.sz_6, ↓Iv.sz_7, ↓Iv.sz_8, ↓Iv.sz_9, ↓Iv.sz_10, ↓Iv.sz_11, ↓Iv.sz_12, ↓Iv.sz_13, ↓Iv.sz_14, ↓Iv.t_nm, ↓Iv.t_tup, ↓Iv.t_lst, ↓Iv.t_sub, ↓Iv.ts_nil, ↓Iv.ts_cons, ↓Iv.ss_nil, ↓Iv.ss_cons, ↓Iv.seqK_rt, ↓Iv.seqK_nx, ↓Iv.s_asg, ↓Iv.s_aug, ↓Iv.s_expr, ↓Iv.s_ret, ↓Iv.s_retN, ↓Iv.s_pass, ↓Iv.s_ite, ↓Iv.s_for, ↓Iv.i_range1, ↓Iv.i_range2, ↓Iv.i_seq, ↓Iv.rgK_is, ↓Iv.rgK2_is, ↓Iv.itK_lst, ↓Iv.itK_tup, ↓Iv.o_add, ↓Iv.o_sub, ↓Iv.o_mul_l, ↓Iv.o_mul_r, ↓Iv.md600, ↓Iv.o_mod, ↓Iv.o_fdiv_s, ↓Iv.o_shl, ↓Iv.o_neg, ↓Iv.c_lt, ↓Iv.c_le, ↓Iv.c_gt, ↓Iv.c_ge, ↓Iv.c_eqI, ↓Iv.c_neI, ↓Iv.bl_K, ↓Iv.b_lenL, ↓Iv.b_lenT, ↓Iv.b_abs, ↓Iv.b_min2, ↓Iv.b_max2, ↓Iv.b_bits, ↓Iv.b_isaI_i, ↓Iv.b_isaI_b, ↓Iv.b_isaB_i, ↓Iv.b_isaB_b, ↓Iv.x_pick2, ↓Iv.x_pick3, ↓Iv.x_pick4, ↓Iv.x_pick5, ↓Iv.iteB_T, ↓Iv.iteB_F, ↓Iv.iteB_dT, ↓Iv.iteB_dF, ↓Iv.iteB_nT, ↓Iv.iteB_nF, ↓Iv.bodyF_is, ↓Iv.end_i, ↓Iv.end_b, ↓Iv.end_s, ↓Iv.end_iS, ↓Iv.end_iL, ↓Iv.end_own, ↓Iv.end_n, ↓Iv.end_r, ↓Iv.end_puI, ↓Iv.end_puB, ↓Iv.end_puT, ↓Iv.pw6, ↓Iv.pw9, ↓Iv.pw12, ↓Iv.pw18, ↓Iv.pw24, ↓Iv.pw30, ↓Iv.pw60, ↓Iv.pw600, ↓Iv.md600, ↓Iv.x_p0, ↓Iv.x_p1, ↓Iv.x_p2, ↓Iv.st_p0, ↓Iv.st_p2, ↓Iv.e_kidx, ↓Iv.e_kget, ↓Iv.e_dnew, ↓Iv.e_dfin, ↓Iv.kidx_hit, ↓Iv.kidx_miss, ↓Iv.c_strT, ↓Iv.c_strF, ↓Iv.c_nstrT, ↓Iv.c_nstrF, ↓Iv.c_isNs, ↓Iv.c_isNi, ↓Iv.c_isNt, ↓Iv.c_isNn, ↓Iv.b_isaT_t, ↓Iv.b_isaS_s, ↓Iv.b_lenS, ↓Iv.e_slice, ↓Iv.f_slc, ↓Iv.f_cat, ↓Iv.f_lst1, ↓Iv.f_comp, ↓Iv.turnC_k, ↓Iv.wipeK_0, ↓Iv.wipeK_s, ↓Iv.unsetK_0, ↓Iv.unsetK_s, ↓Iv.p_nm, ↓Iv.p_tup, ↓Iv.ps_0, ↓Iv.ps_s, ↓Iv.addK_n, ↓Iv.addK_s, ↓Iv.ifs_nil, ↓Iv.ifs_one, ↓Iv.optK_some, ↓Iv.partK_i, ↓Iv.s_app, ↓Iv.s_setF, ↓Iv.s_setA, ↓Iv.s_dext, ↓Iv.dctK_fin, ↓Iv.chkK_T, ↓Iv.o_aug_add, ↓Iv.o_aug_sub, ↓Iv.b_int1, ↓Iv.b_int1b, ↓Iv.b_tup1, ↓Iv.b_tup1t, ↓Iv.comp_nil, ↓Iv.comp_k, ↓Iv.i_zipS, ↓Iv.i_enumS, ↓Iv.xt_0, ↓Iv.xt_1, ↓Iv.xt_2, ↓Iv.xt_3, ↓Iv.xt_4, ↓Iv.xt_5, ↓Iv.xl_0, ↓Iv.xl_1, ↓Iv.xl_2, ↓Iv.xl_3, ↓Iv.xl_4, ↓Iv.o_addT, ↓Iv.b_divmod, Bool.not_true, Bool.not_false, decide_true, decide_false, eq_self, List.cons_append, List.nil_append]
  rfl
theorem run_lknot {k : Nat} {s t i j : Int} {h : AH} : run T (k + 1) fL_knot [.int s, .int t, .int i, .int j] h = some (.int (knotV s t i j), h) := by
  rw [run_eq (fn := tL_knot.fn) rfl rfl]
  show bnd (semSs _ bL_knot [some (.int s), some (.int t), some (.int i), some (.int j), none, none, none]) (endK .cut h) _ = _
  unfold bL_knot
  simp -implicitDefEqProofs (disch := first | omega | decide +kernel | exact rfl | (simp only [List.length_cons, List.length_nil]; decide +kernel)) only [↓Iv.slotK_0, ↓Iv.slotK_s, ↓Iv.setK_0, ↓Iv.setK_s, ↓Iv.nthK_0, ↓Iv.nthK_s, ↓Iv.permK_0, ↓Iv.permK_s, ↓Iv.e_v, ↓Iv.e_c, ↓Iv.e_tup, ↓Iv.e_lstv, ↓Iv.e_alloc, ↓Iv.e_bin, ↓Iv.e_neg, ↓Iv.e_cmp, ↓Iv.e_chain, ↓Iv.e_and, ↓Iv.e_or, ↓Iv.e_notK, ↓Iv.notK_T, ↓Iv.notK_F, ↓Iv.e_ite, ↓Iv.e_idx, ↓Iv.e_call, ↓Iv.e_bi, ↓Iv.es_nil, ↓Iv.es_cons, ↓Iv.f_disp, ↓Iv.new_3, ↓Iv.new_0, ↓Iv.sz_0, ↓Iv.sz_1, ↓Iv.sz_2, ↓Iv.sz_3, ↓Iv.sz_4, ↓Iv.sz_5, ↓Iv.sz_6, ↓Iv.sz_7, ↓Iv.sz_8, ↓Iv.sz_9, ↓Iv.sz_10, ↓Iv.sz_11, ↓Iv.sz_12, ↓Iv.sz_13, ↓Iv.sz_14, ↓Iv.t_nm, ↓Iv.t_tup, ↓Iv.t_lst, ↓Iv.t_sub, ↓Iv.ts_nil, ↓Iv.ts_cons, ↓Iv.ss_nil, ↓Iv.ss_cons, ↓Iv.seqK_rt, ↓Iv.seqK_nx, ↓Iv.s_asg, ↓Iv.s_aug, ↓Iv.s_expr, ↓Iv.s_ret, ↓Iv.s_retN, ↓Iv.s_pass, ↓Iv.s_ite, ↓Iv.s_for, ↓Iv.i_range1, ↓Iv.i_range2, ↓Iv.i_seq, ↓Iv.rgK_is, ↓Iv.rgK2_is, ↓Iv.itK_lst, ↓Iv.itK_tup, ↓Iv.o_add, ↓Iv.o_sub, ↓Iv.o_mul_l, ↓Iv.o_mul_r, ↓Iv.md600, ↓Iv.o_mod, ↓Iv.o_fdiv_s, ↓Iv.o_shl, ↓Iv.o_neg, ↓Iv.c_lt, ↓Iv.c_le, ↓Iv.c_gt, ↓Iv.c_ge, ↓Iv.c_eqI, ↓Iv.c_neI, ↓Iv.bl_K, ↓Iv.b_lenL, ↓Iv.b_lenT, ↓Iv.b_abs, ↓Iv.b_min2, ↓Iv.b_max2, ↓Iv.b_bits, ↓Iv.b_isaI_i, ↓Iv.b_isaI_b, ↓Iv.b_isaB_i, ↓Iv.b_isaB_b, ↓Iv.x_pick2, ↓Iv.x_pick3, ↓Iv.x_pick4, ↓Iv.x_pick5, ↓Iv.iteB_T, ↓Iv.iteB_F, ↓Iv.iteB_dT, ↓Iv.iteB_dF, ↓Iv.iteB_nT, ↓Iv.iteB_nF, ↓Iv.bodyF_is, ↓Iv.end_i, ↓Iv.end_b, ↓Iv.end_s, ↓Iv.end_iS, ↓Iv.end_iL, ↓Iv.end_own, ↓Iv.end_n, ↓Iv.end_r, ↓Iv.end_puI, ↓Iv.end_puB, ↓Iv.end_puT, ↓Iv.pw6, ↓Iv.pw9, ↓Iv.pw12, ↓Iv.pw18, ↓Iv.pw24, ↓Iv.pw30, ↓Iv.pw60, ↓Iv.pw600, ↓Iv.md600, ↓Iv.x_p0, ↓Iv.x_p1, ↓Iv.x_p2, ↓Iv.st_p0, ↓Iv.st_p2, ↓Iv.e_kidx, ↓Iv.e_kget, ↓Iv.e_dnew, ↓Iv.e_dfin, ↓Iv.kidx_hit, ↓Iv.kidx_miss, ↓Iv.c_strT, ↓Iv.c_strF, ↓Iv.c_nstrT, ↓Iv.c_nstrF, ↓Iv.c_isNs, ↓Iv.c_isNi, ↓Iv.c_isNt, ↓Iv.c_isNn, ↓Iv.b_isaT_t, ↓Iv.b_isaS_s, ↓Iv.b_lenS, ↓Iv.e_slice, ↓Iv.f_slc, ↓Iv.f_cat, ↓Iv.f_lst1, ↓Iv.f_comp, ↓Iv.turnC_k, ↓Iv.wipeK_0, ↓Iv.wipeK_s, ↓Iv.unsetK_0, ↓Iv.unsetK_s, ↓Iv.p_nm, ↓Iv.p_tup, ↓Iv.ps_0, ↓Iv.ps_s, ↓Iv.addK_n, ↓Iv.addK_s, ↓Iv.ifs_nil, ↓Iv.ifs_one, ↓Iv.optK_some, ↓Iv.partK_i, ↓Iv.s_app, ↓Iv.s_setF, ↓Iv.s_setA, ↓Iv.s_dext, ↓Iv.dctK_fin, ↓Iv.chkK_T, ↓Iv.o_aug_add, ↓Iv.o_aug_sub, ↓Iv.b_int1, ↓Iv.b_int1b, ↓Iv.b_tup1, ↓Iv.b_tup1t, ↓Iv.comp_nil, ↓Iv.comp_k, ↓Iv.i_zipS, ↓Iv.i_enumS, ↓Iv.xt_0, ↓Iv.xt_1, ↓Iv.xt_2, ↓Iv.xt_3, ↓Iv.xt_4, ↓Iv.xt_5, ↓Iv.xl_0, ↓Iv.xl_1, ↓Iv.xl_2, ↓Iv.xl_3, ↓Iv.xl_4, ↓Iv.o_addT, ↓Iv.b_divmod, Bool.not_true, Bool.not_false, decide_true, decide_false, eq_self, List.cons_append, List.nil_append]
  rfl
/-- the side of a square -/
def wid (l : Int) : Int := 1 * 2 ^ l.toNat
theorem wid_b {l : Int} (h0 : 0 ≤ l) (h1 : l ≤ 8) : 1 ≤ wid l ∧ wid l ≤ 256 := by
  have : l = 0 ∨ l = 1 ∨ l = 2 ∨ l = 3 ∨ l = 4 ∨ l = 5 ∨ l = 6 ∨ l = 7 ∨ l = 8 := by omega
  rcases this with rfl | rfl | rfl | rfl | rfl | rfl | rfl | rfl | rfl <;> decide
def near (s t w x i j : Int) : Int := (w - x % w) * knotV s t i j + x % w * knotV s t (i + 1) j
def noiseW (s t w x z : Int) : Int := ((w - z % w) * near s t w x (x / w) (z / w) + z % w * near s t w x (x / w) (z / w + 1)) / (w * w)
def noiseV (s t l x z : Int) : Int := noiseW s t (wid l) x z
theorem run_noise_at {k : Nat} {s t l x z : Int} {h : AH} (h0 : 0 ≤ l) (h1 : l ≤ 8) : run T (k + 2) f_noise_at [.int s, .int t, .int l, .int x, .int z] h = some (.int (noiseV s t l x z), h) := by
  rw [run_eq (fn := t_noise_at.fn) rfl rfl]
  show bnd (semSs _ b_noise_at [some (.int s), some (.int t), some (.int l), some (.int x), some (.int z), none, none, none, none, none, none, none]) (endK .cut h) _ = _
  unfold b_noise_at
  have hb := wid_b h0 h1
  have hw : (1 : Int) * 2 ^ l.toNat = wid l := rfl
  have p0 := Int.emod_nonneg x (b := wid l) (by omega)
  have p1 := Int.emod_lt_of_pos x (b := wid l) (by omega)
  have q0 := Int.emod_nonneg z (b := wid l) (by omega)
  have q1 := Int.emod_lt_of_pos z (b := wid l) (by omega)
  have hp : 0 < wid l * wid l := Int.mul_pos (by omega) (by omega)
  have hp2 : wid l * wid l ≤ 256 * 256 := Int.mul_le_mul (by omega) (by omega) (by omega) (by omega)
  have hn : (wid l * wid l).natAbs < 2 ^ 64 := by omega
  simp -implicitDefEqProofs (disch := first | omega | decide +kernel | exact rfl | (simp only [List.length_cons, List.length_nil]; decide +kernel)) only [↓Iv.slotK_0, ↓Iv.slotK_s, ↓Iv.setK_0, ↓Iv.setK_s, ↓Iv.nthK_0, ↓Iv.nthK_s, ↓Iv.permK_0, ↓Iv.permK_s, ↓Iv.e_v, ↓Iv.e_c, ↓Iv.e_tup, ↓Iv.e_lstv, ↓Iv.e_alloc, ↓Iv.e_bin, ↓Iv.e_neg, ↓Iv.e_cmp, ↓Iv.e_chain, ↓Iv.e_and, ↓Iv.e_or, ↓Iv.e_notK, ↓Iv.notK_T, ↓Iv.notK_F, ↓Iv.e_ite, ↓Iv.e_idx, ↓Iv.e_call, ↓Iv.e_bi, ↓Iv.es_nil, ↓Iv.es_cons, ↓Iv.f_disp, ↓Iv.new_3, ↓Iv.new_0, ↓Iv.sz_0, ↓Iv.sz_1, ↓Iv.sz_2, ↓Iv.sz_3, ↓Iv.sz_4, ↓Iv.sz_5, ↓Iv.sz_6, ↓Iv.sz_7, ↓Iv.sz_8, ↓Iv.sz_9, ↓Iv.sz_10, ↓Iv.sz_11, ↓Iv.sz_12, ↓Iv.sz_13, ↓Iv.sz_14, ↓Iv.t_nm, ↓Iv.t_tup, ↓Iv.t_lst, ↓Iv.t_sub, ↓Iv.ts_nil, ↓Iv.ts_cons, ↓Iv.ss_nil, ↓Iv.ss_cons, ↓Iv.seqK_rt, ↓Iv.seqK_nx, ↓Iv.s_asg, ↓Iv.s_aug, ↓Iv.s_expr, ↓Iv.s_ret, ↓Iv.s_retN, ↓Iv.s_pass, ↓Iv.s_ite, ↓Iv.s_for, ↓Iv.i_range1, ↓Iv.i_range2, ↓Iv.i_seq, ↓Iv.rgK_is, ↓Iv.rgK2_is, ↓Iv.itK_lst, ↓Iv.itK_tup, ↓Iv.o_add, ↓Iv.o_sub, ↓Iv.o_mul_l, ↓Iv.o_mul_r, ↓Iv.md600, ↓Iv.o_mod, ↓Iv.o_fdiv_s, ↓Iv.o_shl, ↓Iv.o_neg, ↓Iv.c_lt, ↓Iv.c_le, ↓Iv.c_gt, ↓Iv.c_ge, ↓Iv.c_eqI, ↓Iv.c_neI, ↓Iv.bl_K, ↓Iv.b_lenL, ↓Iv.b_lenT, ↓Iv.b_abs, ↓Iv.b_min2, ↓Iv.b_max2, ↓Iv.b_bits, ↓Iv.b_isaI_i, ↓Iv.b_isaI_b, ↓Iv.b_isaB_i, ↓Iv.b_isaB_b, ↓Iv.x_pick2, ↓Iv.x_pick3, ↓Iv.x_pick4, ↓Iv.x_pick5, ↓Iv.iteB_T, ↓Iv.iteB_F, ↓Iv.iteB_dT, ↓Iv.iteB_dF, ↓Iv.iteB_nT, ↓Iv.iteB_nF, ↓Iv.bodyF_is, ↓Iv.end_i, ↓Iv.end_b, ↓Iv.end_s, ↓Iv.end_iS, ↓Iv.end_iL, ↓Iv.end_own, ↓Iv.end_n, ↓Iv.end_r, ↓Iv.end_puI, ↓Iv.end_puB, ↓Iv.end_puT, ↓Iv.pw6, ↓Iv.pw9, ↓Iv.pw12, ↓Iv.pw18, ↓Iv.pw24, ↓Iv.pw30, ↓Iv.pw60, ↓Iv.pw600, ↓Iv.md600, ↓Iv.x_p0, ↓Iv.x_p1, ↓Iv.x_p2, ↓Iv.st_p0, ↓Iv.st_p2, ↓Iv.e_kidx, ↓Iv.e_kget, ↓Iv.e_dnew, ↓Iv.e_dfin, ↓Iv.kidx_hit, ↓Iv.kidx_miss, ↓Iv.c_strT, ↓Iv.c_strF, ↓Iv.c_nstrT, ↓Iv.c_nstrF, ↓Iv.c_isNs, ↓Iv.c_isNi, ↓Iv.c_isNt, ↓Iv.c_isNn, ↓Iv.b_isaT_t, ↓Iv.b_isaS_s, ↓Iv.b_lenS, ↓Iv.e_slice, ↓Iv.f_slc, ↓Iv.f_cat, ↓Iv.f_lst1, ↓Iv.f_comp, ↓Iv.turnC_k, ↓Iv.wipeK_0, ↓Iv.wipeK_s, ↓Iv.unsetK_0, ↓Iv.unsetK_s, ↓Iv.p_nm, ↓Iv.p_tup, ↓Iv.ps_0, ↓Iv.ps_s, ↓Iv.addK_n, ↓Iv.addK_s, ↓Iv.ifs_nil, ↓Iv.ifs_one, ↓Iv.optK_some, ↓Iv.partK_i, ↓Iv.s_app, ↓Iv.s_setF, ↓Iv.s_setA, ↓Iv.s_dext, ↓Iv.dctK_fin, ↓Iv.chkK_T, ↓Iv.o_aug_add, ↓Iv.o_aug_sub, ↓Iv.b_int1, ↓Iv.b_int1b, ↓Iv.b_tup1, ↓Iv.b_tup1t, ↓Iv.comp_nil, ↓Iv.comp_k, ↓Iv.i_zipS, ↓Iv.i_enumS, ↓Iv.xt_0, ↓Iv.xt_1, ↓Iv.xt_2, ↓Iv.xt_3, ↓Iv.xt_4, ↓Iv.xt_5, ↓Iv.xl_0, ↓Iv.xl_1, ↓Iv.xl_2, ↓Iv.xl_3, ↓Iv.xl_4, ↓Iv.o_addT, ↓Iv.b_divmod, hw, ↓bnd_of run_knot, Bool.not_true, Bool.not_false, decide_true, decide_false, eq_self, List.cons_append, List.nil_append]
  rfl
/-- rules of one noise -/
abbrev noiseD (t l : Int) : D := .tup [.str "noise", .int t, .int l]
abbrev shiftD (a b : Int) (d : D) : D := .tup [.str "shift", .int a, .int b, d]
theorem run_is_whole {k : Nat} {i a b : Int} {h : AH} : run T (k + 1) f_is_whole [.int i, .int a, .int b] h = some (.bl (decide (a ≤ i) && decide (i ≤ b)), h) := by
  rw [run_eq (fn := t_is_whole.fn) rfl rfl]
  show bnd (semSs _ b_is_whole [some (.int i), some (.int a), some (.int b)]) (endK .cut h) _ = _
  unfold b_is_whole
  simp -implicitDefEqProofs (disch := first | omega | decide +kernel | exact rfl | (simp only [List.length_cons, List.length_nil]; decide +kernel)) only [↓Iv.slotK_0, ↓Iv.slotK_s, ↓Iv.setK_0, ↓Iv.setK_s, ↓Iv.nthK_0, ↓Iv.nthK_s, ↓Iv.permK_0, ↓Iv.permK_s, ↓Iv.e_v, ↓Iv.e_c, ↓Iv.e_tup, ↓Iv.e_lstv, ↓Iv.e_alloc, ↓Iv.e_bin, ↓Iv.e_neg, ↓Iv.e_cmp, ↓Iv.e_chain, ↓Iv.e_and, ↓Iv.e_or, ↓Iv.e_notK, ↓Iv.notK_T, ↓Iv.notK_F, ↓Iv.e_ite, ↓Iv.e_idx, ↓Iv.e_call, ↓Iv.e_bi, ↓Iv.es_nil, ↓Iv.es_cons, ↓Iv.f_disp, ↓Iv.new_3, ↓Iv.new_0, ↓Iv.sz_0, ↓Iv.sz_1, ↓Iv.sz_2, ↓Iv.sz_3, ↓Iv.sz_4, ↓Iv.sz_5, ↓Iv.sz_6, ↓Iv.sz_7, ↓Iv.sz_8, ↓Iv.sz_9, ↓Iv.sz_10, ↓Iv.sz_11, ↓Iv.sz_12, ↓Iv.sz_13, ↓Iv.sz_14, ↓Iv.t_nm, ↓Iv.t_tup, ↓Iv.t_lst, ↓Iv.t_sub, ↓Iv.ts_nil, ↓Iv.ts_cons, ↓Iv.ss_nil, ↓Iv.ss_cons, ↓Iv.seqK_rt, ↓Iv.seqK_nx, ↓Iv.s_asg, ↓Iv.s_aug, ↓Iv.s_expr, ↓Iv.s_ret, ↓Iv.s_retN, ↓Iv.s_pass, ↓Iv.s_ite, ↓Iv.s_for, ↓Iv.i_range1, ↓Iv.i_range2, ↓Iv.i_seq, ↓Iv.rgK_is, ↓Iv.rgK2_is, ↓Iv.itK_lst, ↓Iv.itK_tup, ↓Iv.o_add, ↓Iv.o_sub, ↓Iv.o_mul_l, ↓Iv.o_mul_r, ↓Iv.md600, ↓Iv.o_mod, ↓Iv.o_fdiv_s, ↓Iv.o_shl, ↓Iv.o_neg, ↓Iv.c_lt, ↓Iv.c_le, ↓Iv.c_gt, ↓Iv.c_ge, ↓Iv.c_eqI, ↓Iv.c_neI, ↓Iv.bl_K, ↓Iv.b_lenL, ↓Iv.b_lenT, ↓Iv.b_abs, ↓Iv.b_min2, ↓Iv.b_max2, ↓Iv.b_bits, ↓Iv.b_isaI_i, ↓Iv.b_isaI_b, ↓Iv.b_isaB_i, ↓Iv.b_isaB_b, ↓Iv.x_pick2, ↓Iv.x_pick3, ↓Iv.x_pick4, ↓Iv.x_pick5, ↓Iv.iteB_T, ↓Iv.iteB_F, ↓Iv.iteB_dT, ↓Iv.iteB_dF, ↓Iv.iteB_nT, ↓Iv.iteB_nF, ↓Iv.bodyF_is, ↓Iv.end_i, ↓Iv.end_b, ↓Iv.end_s, ↓Iv.end_iS, ↓Iv.end_iL, ↓Iv.end_own, ↓Iv.end_n, ↓Iv.end_r, ↓Iv.end_puI, ↓Iv.end_puB, ↓Iv.end_puT, ↓Iv.pw6, ↓Iv.pw9, ↓Iv.pw12, ↓Iv.pw18, ↓Iv.pw24, ↓Iv.pw30, ↓Iv.pw60, ↓Iv.pw600, ↓Iv.md600, ↓Iv.x_p0, ↓Iv.x_p1, ↓Iv.x_p2, ↓Iv.st_p0, ↓Iv.st_p2, ↓Iv.e_kidx, ↓Iv.e_kget, ↓Iv.e_dnew, ↓Iv.e_dfin, ↓Iv.kidx_hit, ↓Iv.kidx_miss, ↓Iv.c_strT, ↓Iv.c_strF, ↓Iv.c_nstrT, ↓Iv.c_nstrF, ↓Iv.c_isNs, ↓Iv.c_isNi, ↓Iv.c_isNt, ↓Iv.c_isNn, ↓Iv.b_isaT_t, ↓Iv.b_isaS_s, ↓Iv.b_lenS, ↓Iv.e_slice, ↓Iv.f_slc, ↓Iv.f_cat, ↓Iv.f_lst1, ↓Iv.f_comp, ↓Iv.turnC_k, ↓Iv.wipeK_0, ↓Iv.wipeK_s, ↓Iv.unsetK_0, ↓Iv.unsetK_s, ↓Iv.p_nm, ↓Iv.p_tup, ↓Iv.ps_0, ↓Iv.ps_s, ↓Iv.addK_n, ↓Iv.addK_s, ↓Iv.ifs_nil, ↓Iv.ifs_one, ↓Iv.optK_some, ↓Iv.partK_i, ↓Iv.s_app, ↓Iv.s_setF, ↓Iv.s_setA, ↓Iv.s_dext, ↓Iv.dctK_fin, ↓Iv.chkK_T, ↓Iv.o_aug_add, ↓Iv.o_aug_sub, ↓Iv.b_int1, ↓Iv.b_int1b, ↓Iv.b_tup1, ↓Iv.b_tup1t, ↓Iv.comp_nil, ↓Iv.comp_k, ↓Iv.i_zipS, ↓Iv.i_enumS, ↓Iv.xt_0, ↓Iv.xt_1, ↓Iv.xt_2, ↓Iv.xt_3, ↓Iv.xt_4, ↓Iv.xt_5, ↓Iv.xl_0, ↓Iv.xl_1, ↓Iv.xl_2, ↓Iv.xl_3, ↓Iv.xl_4, ↓Iv.o_addT, ↓Iv.b_divmod, Bool.not_true, Bool.not_false, decide_true, decide_false, eq_self, List.cons_append, List.nil_append]
  by_cases c : a ≤ i
  · simp -implicitDefEqProofs (disch := first | omega | decide +kernel | exact rfl | (simp only [List.length_cons, List.length_nil]; decide +kernel)) only [↓Iv.slotK_0, ↓Iv.slotK_s, ↓Iv.setK_0, ↓Iv.setK_s, ↓Iv.nthK_0, ↓Iv.nthK_s, ↓Iv.permK_0, ↓Iv.permK_s, ↓Iv.e_v, ↓Iv.e_c, ↓Iv.e_tup, ↓Iv.e_lstv, ↓Iv.e_alloc, ↓Iv.e_bin, ↓Iv.e_neg, ↓Iv.e_cmp, ↓Iv.e_chain, ↓Iv.e_and, ↓Iv.e_or, ↓Iv.e_notK, ↓Iv.notK_T, ↓Iv.notK_F, ↓Iv.e_ite, ↓Iv.e_idx, ↓Iv.e_call, ↓Iv.e_bi, ↓Iv.es_nil, ↓Iv.es_cons, ↓Iv.f_disp, ↓Iv.new_3, ↓Iv.new_0, ↓Iv.sz_0, ↓Iv.sz_1, ↓Iv.sz_2, ↓Iv.sz_3, ↓Iv.sz_4, ↓Iv.sz_5, ↓Iv.sz_6, ↓Iv.sz_7, ↓Iv.sz_8, ↓Iv.sz_9, ↓Iv.sz_10, ↓Iv.sz_11, ↓Iv.sz_12, ↓Iv.sz_13, ↓Iv.sz_14, ↓Iv.t_nm, ↓Iv.t_tup, ↓Iv.t_lst, ↓Iv.t_sub, ↓Iv.ts_nil, ↓Iv.ts_cons, ↓Iv.ss_nil, ↓Iv.ss_cons, ↓Iv.seqK_rt, ↓Iv.seqK_nx, ↓Iv.s_asg, ↓Iv.s_aug, ↓Iv.s_expr, ↓Iv.s_ret, ↓Iv.s_retN, ↓Iv.s_pass, ↓Iv.s_ite, ↓Iv.s_for, ↓Iv.i_range1, ↓Iv.i_range2, ↓Iv.i_seq, ↓Iv.rgK_is, ↓Iv.rgK2_is, ↓Iv.itK_lst, ↓Iv.itK_tup, ↓Iv.o_add, ↓Iv.o_sub, ↓Iv.o_mul_l, ↓Iv.o_mul_r, ↓Iv.md600, ↓Iv.o_mod, ↓Iv.o_fdiv_s, ↓Iv.o_shl, ↓Iv.o_neg, ↓Iv.c_lt, ↓Iv.c_le, ↓Iv.c_gt, ↓Iv.c_ge, ↓Iv.c_eqI, ↓Iv.c_neI, ↓Iv.bl_K, ↓Iv.b_lenL, ↓Iv.b_lenT, ↓Iv.b_abs, ↓Iv.b_min2, ↓Iv.b_max2, ↓Iv.b_bits, ↓Iv.b_isaI_i, ↓Iv.b_isaI_b, ↓Iv.b_isaB_i, ↓Iv.b_isaB_b, ↓Iv.x_pick2, ↓Iv.x_pick3, ↓Iv.x_pick4, ↓Iv.x_pick5, ↓Iv.iteB_T, ↓Iv.iteB_F, ↓Iv.iteB_dT, ↓Iv.iteB_dF, ↓Iv.iteB_nT, ↓Iv.iteB_nF, ↓Iv.bodyF_is, ↓Iv.end_i, ↓Iv.end_b, ↓Iv.end_s, ↓Iv.end_iS, ↓Iv.end_iL, ↓Iv.end_own, ↓Iv.end_n, ↓Iv.end_r, ↓Iv.end_puI, ↓Iv.end_puB, ↓Iv.end_puT, ↓Iv.pw6, ↓Iv.pw9, ↓Iv.pw12, ↓Iv.pw18, ↓Iv.pw24, ↓Iv.pw30, ↓Iv.pw60, ↓Iv.pw600, ↓Iv.md600, ↓Iv.x_p0, ↓Iv.x_p1, ↓Iv.x_p2, ↓Iv.st_p0, ↓Iv.st_p2, ↓Iv.e_kidx, ↓Iv.e_kget, ↓Iv.e_dnew, ↓Iv.e_dfin, ↓Iv.kidx_hit, ↓Iv.kidx_miss, ↓Iv.c_strT, ↓Iv.c_strF, ↓Iv.c_nstrT, ↓Iv.c_nstrF, ↓Iv.c_isNs, ↓Iv.c_isNi, ↓Iv.c_isNt, ↓Iv.c_isNn, ↓Iv.b_isaT_t, ↓Iv.b_isaS_s, ↓Iv.b_lenS, ↓Iv.e_slice, ↓Iv.f_slc, ↓Iv.f_cat, ↓Iv.f_lst1, ↓Iv.f_comp, ↓Iv.turnC_k, ↓Iv.wipeK_0, ↓Iv.wipeK_s, ↓Iv.unsetK_0, ↓Iv.unsetK_s, ↓Iv.p_nm, ↓Iv.p_tup, ↓Iv.ps_0, ↓Iv.ps_s, ↓Iv.addK_n, ↓Iv.addK_s, ↓Iv.ifs_nil, ↓Iv.ifs_one, ↓Iv.optK_some, ↓Iv.partK_i, ↓Iv.s_app, ↓Iv.s_setF, ↓Iv.s_setA, ↓Iv.s_dext, ↓Iv.dctK_fin, ↓Iv.chkK_T, ↓Iv.o_aug_add, ↓Iv.o_aug_sub, ↓Iv.b_int1, ↓Iv.b_int1b, ↓Iv.b_tup1, ↓Iv.b_tup1t, ↓Iv.comp_nil, ↓Iv.comp_k, ↓Iv.i_zipS, ↓Iv.i_enumS, ↓Iv.xt_0, ↓Iv.xt_1, ↓Iv.xt_2, ↓Iv.xt_3, ↓Iv.xt_4, ↓Iv.xt_5, ↓Iv.xl_0, ↓Iv.xl_1, ↓Iv.xl_2, ↓Iv.xl_3, ↓Iv.xl_4, ↓Iv.o_addT, ↓Iv.b_divmod, ↓iteB_t (decide_eq_true c), Bool.not_true, Bool.not_false, decide_true, decide_false, eq_self, List.cons_append, List.nil_append]
    simp [c]
  · simp -implicitDefEqProofs (disch := first | omega | decide +kernel | exact rfl | (simp only [List.length_cons, List.length_nil]; decide +kernel)) only [↓Iv.slotK_0, ↓Iv.slotK_s, ↓Iv.setK_0, ↓Iv.setK_s, ↓Iv.nthK_0, ↓Iv.nthK_s, ↓Iv.permK_0, ↓Iv.permK_s, ↓Iv.e_v, ↓Iv.e_c, ↓Iv.e_tup, ↓Iv.e_lstv, ↓Iv.e_alloc, ↓Iv.e_bin, ↓Iv.e_neg, ↓Iv.e_cmp, ↓Iv.e_chain, ↓Iv.e_and, ↓Iv.e_or, ↓Iv.e_notK, ↓Iv.notK_T, ↓Iv.notK_F, ↓Iv.e_ite, ↓Iv.e_idx, ↓Iv.e_call, ↓Iv.e_bi, ↓Iv.es_nil, ↓Iv.es_cons, ↓Iv.f_disp, ↓Iv.new_3, ↓Iv.new_0, ↓Iv.sz_0, ↓Iv.sz_1, ↓Iv.sz_2, ↓Iv.sz_3, ↓Iv.sz_4, ↓Iv.sz_5, ↓Iv.sz_6, ↓Iv.sz_7, ↓Iv.sz_8, ↓Iv.sz_9, ↓Iv.sz_10, ↓Iv.sz_11, ↓Iv.sz_12, ↓Iv.sz_13, ↓Iv.sz_14, ↓Iv.t_nm, ↓Iv.t_tup, ↓Iv.t_lst, ↓Iv.t_sub, ↓Iv.ts_nil, ↓Iv.ts_cons, ↓Iv.ss_nil, ↓Iv.ss_cons, ↓Iv.seqK_rt, ↓Iv.seqK_nx, ↓Iv.s_asg, ↓Iv.s_aug, ↓Iv.s_expr, ↓Iv.s_ret, ↓Iv.s_retN, ↓Iv.s_pass, ↓Iv.s_ite, ↓Iv.s_for, ↓Iv.i_range1, ↓Iv.i_range2, ↓Iv.i_seq, ↓Iv.rgK_is, ↓Iv.rgK2_is, ↓Iv.itK_lst, ↓Iv.itK_tup, ↓Iv.o_add, ↓Iv.o_sub, ↓Iv.o_mul_l, ↓Iv.o_mul_r, ↓Iv.md600, ↓Iv.o_mod, ↓Iv.o_fdiv_s, ↓Iv.o_shl, ↓Iv.o_neg, ↓Iv.c_lt, ↓Iv.c_le, ↓Iv.c_gt, ↓Iv.c_ge, ↓Iv.c_eqI, ↓Iv.c_neI, ↓Iv.bl_K, ↓Iv.b_lenL, ↓Iv.b_lenT, ↓Iv.b_abs, ↓Iv.b_min2, ↓Iv.b_max2, ↓Iv.b_bits, ↓Iv.b_isaI_i, ↓Iv.b_isaI_b, ↓Iv.b_isaB_i, ↓Iv.b_isaB_b, ↓Iv.x_pick2, ↓Iv.x_pick3, ↓Iv.x_pick4, ↓Iv.x_pick5, ↓Iv.iteB_T, ↓Iv.iteB_F, ↓Iv.iteB_dT, ↓Iv.iteB_dF, ↓Iv.iteB_nT, ↓Iv.iteB_nF, ↓Iv.bodyF_is, ↓Iv.end_i, ↓Iv.end_b, ↓Iv.end_s, ↓Iv.end_iS, ↓Iv.end_iL, ↓Iv.end_own, ↓Iv.end_n, ↓Iv.end_r, ↓Iv.end_puI, ↓Iv.end_puB, ↓Iv.end_puT, ↓Iv.pw6, ↓Iv.pw9, ↓Iv.pw12, ↓Iv.pw18, ↓Iv.pw24, ↓Iv.pw30, ↓Iv.pw60, ↓Iv.pw600, ↓Iv.md600, ↓Iv.x_p0, ↓Iv.x_p1, ↓Iv.x_p2, ↓Iv.st_p0, ↓Iv.st_p2, ↓Iv.e_kidx, ↓Iv.e_kget, ↓Iv.e_dnew, ↓Iv.e_dfin, ↓Iv.kidx_hit, ↓Iv.kidx_miss, ↓Iv.c_strT, ↓Iv.c_strF, ↓Iv.c_nstrT, ↓Iv.c_nstrF, ↓Iv.c_isNs, ↓Iv.c_isNi, ↓Iv.c_isNt, ↓Iv.c_isNn, ↓Iv.b_isaT_t, ↓Iv.b_isaS_s, ↓Iv.b_lenS, ↓Iv.e_slice, ↓Iv.f_slc, ↓Iv.f_cat, ↓Iv.f_lst1, ↓Iv.f_comp, ↓Iv.turnC_k, ↓Iv.wipeK_0, ↓Iv.wipeK_s, ↓Iv.unsetK_0, ↓Iv.unsetK_s, ↓Iv.p_nm, ↓Iv.p_tup, ↓Iv.ps_0, ↓Iv.ps_s, ↓Iv.addK_n, ↓Iv.addK_s, ↓Iv.ifs_nil, ↓Iv.ifs_one, ↓Iv.optK_some, ↓Iv.partK_i, ↓Iv.s_app, ↓Iv.s_setF, ↓Iv.s_setA, ↓Iv.s_dext, ↓Iv.dctK_fin, ↓Iv.chkK_T, ↓Iv.o_aug_add, ↓Iv.o_aug_sub, ↓Iv.b_int1, ↓Iv.b_int1b, ↓Iv.b_tup1, ↓Iv.b_tup1t, ↓Iv.comp_nil, ↓Iv.comp_k, ↓Iv.i_zipS, ↓Iv.i_enumS, ↓Iv.xt_0, ↓Iv.xt_1, ↓Iv.xt_2, ↓Iv.xt_3, ↓Iv.xt_4, ↓Iv.xt_5, ↓Iv.xl_0, ↓Iv.xl_1, ↓Iv.xl_2, ↓Iv.xl_3, ↓Iv.xl_4, ↓Iv.o_addT, ↓Iv.b_divmod, ↓iteB_f (decide_eq_false c), Bool.not_true, Bool.not_false, decide_true, decide_false, eq_self, List.cons_append, List.nil_append]
    simp [c]
theorem sh_noise {t l : Int} : SeqAt.shaped (.tuple [.str "noise", .int t, .int l]) = true := by
  simp only [SeqAt.shaped, PyData.canLay0, PyData.canLayAll0, PyData.depth, PyData.depthAll, Bool.and_true]
  exact Bool.and_eq_true_iff.mpr ⟨by decide +kernel, by rfl⟩
theorem sh_shift {a b t l : Int} : SeqAt.shaped (.tuple [.str "shift", .int a, .int b, .tuple [.str "noise", .int t, .int l]]) = true := by
  simp only [SeqAt.shaped, PyData.canLay0, PyData.canLayAll0, PyData.depth, PyData.depthAll, Bool.and_true, Bool.true_and]
  exact Bool.and_eq_true_iff.mpr ⟨by decide +kernel, by rfl⟩
theorem b_whole {β : Type} {κ : D → M β} {k : Nat} {i a b : Int} {h : AH} (h1 : a ≤ i) (h2 : i ≤ b) : bnd (run T (k + 1) f_is_whole [.int i, .int a, .int b]) κ h = κ (.bl true) h := bnd_of (by rw [run_is_whole, decide_eq_true h1, decide_eq_true h2]; rfl)
theorem c_noise0 {β : Type} {κb : Bool → M β} {t l : Int} {h : AH} : cmpK .eq (noiseD t l) (.tup []) κb h = κb false h := c_eqT0 (p := .tuple [.str "noise", .int t, .int l]) rfl sh_noise
theorem c_shift0 {β : Type} {κb : Bool → M β} {a b t l : Int} {h : AH} : cmpK .eq (shiftD a b (noiseD t l)) (.tup []) κb h = κb false h := c_eqT0 (p := .tuple [.str "shift", .int a, .int b, .tuple [.str "noise", .int t, .int l]]) rfl sh_shift
theorem kind_noise {k : Nat} {t l : Int} {p : List D} {h : AH} : run T (k + 1) f_must_kind [noiseD t l, .tup p] h = some (.non, h) := by
  rw [run_eq (fn := t_must_kind.fn) rfl rfl]
  show bnd (semSs _ b_must_kind [some (noiseD t l), some (.tup p), none]) (endK .cut h) _ = _
  unfold b_must_kind
  unfold k_FORMS
  simp -implicitDefEqProofs (disch := first | omega | decide +kernel | exact rfl | (simp only [List.length_cons, List.length_nil]; decide +kernel)) only [↓Iv.slotK_0, ↓Iv.slotK_s, ↓Iv.setK_0, ↓Iv.setK_s, ↓Iv.nthK_0, ↓Iv.nthK_s, ↓Iv.permK_0, ↓Iv.permK_s, ↓Iv.e_v, ↓Iv.e_c, ↓Iv.e_tup, ↓Iv.e_lstv, ↓Iv.e_alloc, ↓Iv.e_bin, ↓Iv.e_neg, ↓Iv.e_cmp, ↓Iv.e_chain, ↓Iv.e_and, ↓Iv.e_or, ↓Iv.e_notK, ↓Iv.notK_T, ↓Iv.notK_F, ↓Iv.e_ite, ↓Iv.e_idx, ↓Iv.e_call, ↓Iv.e_bi, ↓Iv.es_nil, ↓Iv.es_cons, ↓Iv.f_disp, ↓Iv.new_3, ↓Iv.new_0, ↓Iv.sz_0, ↓Iv.sz_1, ↓Iv.sz_2, ↓Iv.sz_3, ↓Iv.sz_4, ↓Iv.sz_5, ↓Iv.sz_6, ↓Iv.sz_7, ↓Iv.sz_8, ↓Iv.sz_9, ↓Iv.sz_10, ↓Iv.sz_11, ↓Iv.sz_12, ↓Iv.sz_13, ↓Iv.sz_14, ↓Iv.t_nm, ↓Iv.t_tup, ↓Iv.t_lst, ↓Iv.t_sub, ↓Iv.ts_nil, ↓Iv.ts_cons, ↓Iv.ss_nil, ↓Iv.ss_cons, ↓Iv.seqK_rt, ↓Iv.seqK_nx, ↓Iv.s_asg, ↓Iv.s_aug, ↓Iv.s_expr, ↓Iv.s_ret, ↓Iv.s_retN, ↓Iv.s_pass, ↓Iv.s_ite, ↓Iv.s_for, ↓Iv.i_range1, ↓Iv.i_range2, ↓Iv.i_seq, ↓Iv.rgK_is, ↓Iv.rgK2_is, ↓Iv.itK_lst, ↓Iv.itK_tup, ↓Iv.o_add, ↓Iv.o_sub, ↓Iv.o_mul_l, ↓Iv.o_mul_r, ↓Iv.md600, ↓Iv.o_mod, ↓Iv.o_fdiv_s, ↓Iv.o_shl, ↓Iv.o_neg, ↓Iv.c_lt, ↓Iv.c_le, ↓Iv.c_gt, ↓Iv.c_ge, ↓Iv.c_eqI, ↓Iv.c_neI, ↓Iv.bl_K, ↓Iv.b_lenL, ↓Iv.b_lenT, ↓Iv.b_abs, ↓Iv.b_min2, ↓Iv.b_max2, ↓Iv.b_bits, ↓Iv.b_isaI_i, ↓Iv.b_isaI_b, ↓Iv.b_isaB_i, ↓Iv.b_isaB_b, ↓Iv.x_pick2, ↓Iv.x_pick3, ↓Iv.x_pick4, ↓Iv.x_pick5, ↓Iv.iteB_T, ↓Iv.iteB_F, ↓Iv.iteB_dT, ↓Iv.iteB_dF, ↓Iv.iteB_nT, ↓Iv.iteB_nF, ↓Iv.bodyF_is, ↓Iv.end_i, ↓Iv.end_b, ↓Iv.end_s, ↓Iv.end_iS, ↓Iv.end_iL, ↓Iv.end_own, ↓Iv.end_n, ↓Iv.end_r, ↓Iv.end_puI, ↓Iv.end_puB, ↓Iv.end_puT, ↓Iv.pw6, ↓Iv.pw9, ↓Iv.pw12, ↓Iv.pw18, ↓Iv.pw24, ↓Iv.pw30, ↓Iv.pw60, ↓Iv.pw600, ↓Iv.md600, ↓Iv.x_p0, ↓Iv.x_p1, ↓Iv.x_p2, ↓Iv.st_p0, ↓Iv.st_p2, ↓Iv.e_kidx, ↓Iv.e_kget, ↓Iv.e_dnew, ↓Iv.e_dfin, ↓Iv.kidx_hit, ↓Iv.kidx_miss, ↓Iv.c_strT, ↓Iv.c_strF, ↓Iv.c_nstrT, ↓Iv.c_nstrF, ↓Iv.c_isNs, ↓Iv.c_isNi, ↓Iv.c_isNt, ↓Iv.c_isNn, ↓Iv.b_isaT_t, ↓Iv.b_isaS_s, ↓Iv.b_lenS, ↓Iv.e_slice, ↓Iv.f_slc, ↓Iv.f_cat, ↓Iv.f_lst1, ↓Iv.f_comp, ↓Iv.turnC_k, ↓Iv.wipeK_0, ↓Iv.wipeK_s, ↓Iv.unsetK_0, ↓Iv.unsetK_s, ↓Iv.p_nm, ↓Iv.p_tup, ↓Iv.ps_0, ↓Iv.ps_s, ↓Iv.addK_n, ↓Iv.addK_s, ↓Iv.ifs_nil, ↓Iv.ifs_one, ↓Iv.optK_some, ↓Iv.partK_i, ↓Iv.s_app, ↓Iv.s_setF, ↓Iv.s_setA, ↓Iv.s_dext, ↓Iv.dctK_fin, ↓Iv.chkK_T, ↓Iv.o_aug_add, ↓Iv.o_aug_sub, ↓Iv.b_int1, ↓Iv.b_int1b, ↓Iv.b_tup1, ↓Iv.b_tup1t, ↓Iv.comp_nil, ↓Iv.comp_k, ↓Iv.i_zipS, ↓Iv.i_enumS, ↓Iv.xt_0, ↓Iv.xt_1, ↓Iv.xt_2, ↓Iv.xt_3, ↓Iv.xt_4, ↓Iv.xt_5, ↓Iv.xl_0, ↓Iv.xl_1, ↓Iv.xl_2, ↓Iv.xl_3, ↓Iv.xl_4, ↓Iv.o_addT, ↓Iv.b_divmod, ↓c_noise0, Bool.not_true, Bool.not_false, decide_true, decide_false, eq_self, List.cons_append, List.nil_append]
theorem kind_shift {k : Nat} {a b t l : Int} {p : List D} {h : AH} : run T (k + 1) f_must_kind [shiftD a b (noiseD t l), .tup p] h = some (.non, h) := by
  rw [run_eq (fn := t_must_kind.fn) rfl rfl]
  show bnd (semSs _ b_must_kind [some (shiftD a b (noiseD t l)), some (.tup p), none]) (endK .cut h) _ = _
  unfold b_must_kind
  unfold k_FORMS
  simp -implicitDefEqProofs (disch := first | omega | decide +kernel | exact rfl | (simp only [List.length_cons, List.length_nil]; decide +kernel)) only [↓Iv.slotK_0, ↓Iv.slotK_s, ↓Iv.setK_0, ↓Iv.setK_s, ↓Iv.nthK_0, ↓Iv.nthK_s, ↓Iv.permK_0, ↓Iv.permK_s, ↓Iv.e_v, ↓Iv.e_c, ↓Iv.e_tup, ↓Iv.e_lstv, ↓Iv.e_alloc, ↓Iv.e_bin, ↓Iv.e_neg, ↓Iv.e_cmp, ↓Iv.e_chain, ↓Iv.e_and, ↓Iv.e_or, ↓Iv.e_notK, ↓Iv.notK_T, ↓Iv.notK_F, ↓Iv.e_ite, ↓Iv.e_idx, ↓Iv.e_call, ↓Iv.e_bi, ↓Iv.es_nil, ↓Iv.es_cons, ↓Iv.f_disp, ↓Iv.new_3, ↓Iv.new_0, ↓Iv.sz_0, ↓Iv.sz_1, ↓Iv.sz_2, ↓Iv.sz_3, ↓Iv.sz_4, ↓Iv.sz_5, ↓Iv.sz_6, ↓Iv.sz_7, ↓Iv.sz_8, ↓Iv.sz_9, ↓Iv.sz_10, ↓Iv.sz_11, ↓Iv.sz_12, ↓Iv.sz_13, ↓Iv.sz_14, ↓Iv.t_nm, ↓Iv.t_tup, ↓Iv.t_lst, ↓Iv.t_sub, ↓Iv.ts_nil, ↓Iv.ts_cons, ↓Iv.ss_nil, ↓Iv.ss_cons, ↓Iv.seqK_rt, ↓Iv.seqK_nx, ↓Iv.s_asg, ↓Iv.s_aug, ↓Iv.s_expr, ↓Iv.s_ret, ↓Iv.s_retN, ↓Iv.s_pass, ↓Iv.s_ite, ↓Iv.s_for, ↓Iv.i_range1, ↓Iv.i_range2, ↓Iv.i_seq, ↓Iv.rgK_is, ↓Iv.rgK2_is, ↓Iv.itK_lst, ↓Iv.itK_tup, ↓Iv.o_add, ↓Iv.o_sub, ↓Iv.o_mul_l, ↓Iv.o_mul_r, ↓Iv.md600, ↓Iv.o_mod, ↓Iv.o_fdiv_s, ↓Iv.o_shl, ↓Iv.o_neg, ↓Iv.c_lt, ↓Iv.c_le, ↓Iv.c_gt, ↓Iv.c_ge, ↓Iv.c_eqI, ↓Iv.c_neI, ↓Iv.bl_K, ↓Iv.b_lenL, ↓Iv.b_lenT, ↓Iv.b_abs, ↓Iv.b_min2, ↓Iv.b_max2, ↓Iv.b_bits, ↓Iv.b_isaI_i, ↓Iv.b_isaI_b, ↓Iv.b_isaB_i, ↓Iv.b_isaB_b, ↓Iv.x_pick2, ↓Iv.x_pick3, ↓Iv.x_pick4, ↓Iv.x_pick5, ↓Iv.iteB_T, ↓Iv.iteB_F, ↓Iv.iteB_dT, ↓Iv.iteB_dF, ↓Iv.iteB_nT, ↓Iv.iteB_nF, ↓Iv.bodyF_is, ↓Iv.end_i, ↓Iv.end_b, ↓Iv.end_s, ↓Iv.end_iS, ↓Iv.end_iL, ↓Iv.end_own, ↓Iv.end_n, ↓Iv.end_r, ↓Iv.end_puI, ↓Iv.end_puB, ↓Iv.end_puT, ↓Iv.pw6, ↓Iv.pw9, ↓Iv.pw12, ↓Iv.pw18, ↓Iv.pw24, ↓Iv.pw30, ↓Iv.pw60, ↓Iv.pw600, ↓Iv.md600, ↓Iv.x_p0, ↓Iv.x_p1, ↓Iv.x_p2, ↓Iv.st_p0, ↓Iv.st_p2, ↓Iv.e_kidx, ↓Iv.e_kget, ↓Iv.e_dnew, ↓Iv.e_dfin, ↓Iv.kidx_hit, ↓Iv.kidx_miss, ↓Iv.c_strT, ↓Iv.c_strF, ↓Iv.c_nstrT, ↓Iv.c_nstrF, ↓Iv.c_isNs, ↓Iv.c_isNi, ↓Iv.c_isNt, ↓Iv.c_isNn, ↓Iv.b_isaT_t, ↓Iv.b_isaS_s, ↓Iv.b_lenS, ↓Iv.e_slice, ↓Iv.f_slc, ↓Iv.f_cat, ↓Iv.f_lst1, ↓Iv.f_comp, ↓Iv.turnC_k, ↓Iv.wipeK_0, ↓Iv.wipeK_s, ↓Iv.unsetK_0, ↓Iv.unsetK_s, ↓Iv.p_nm, ↓Iv.p_tup, ↓Iv.ps_0, ↓Iv.ps_s, ↓Iv.addK_n, ↓Iv.addK_s, ↓Iv.ifs_nil, ↓Iv.ifs_one, ↓Iv.optK_some, ↓Iv.partK_i, ↓Iv.s_app, ↓Iv.s_setF, ↓Iv.s_setA, ↓Iv.s_dext, ↓Iv.dctK_fin, ↓Iv.chkK_T, ↓Iv.o_aug_add, ↓Iv.o_aug_sub, ↓Iv.b_int1, ↓Iv.b_int1b, ↓Iv.b_tup1, ↓Iv.b_tup1t, ↓Iv.comp_nil, ↓Iv.comp_k, ↓Iv.i_zipS, ↓Iv.i_enumS, ↓Iv.xt_0, ↓Iv.xt_1, ↓Iv.xt_2, ↓Iv.xt_3, ↓Iv.xt_4, ↓Iv.xt_5, ↓Iv.xl_0, ↓Iv.xl_1, ↓Iv.xl_2, ↓Iv.xl_3, ↓Iv.xl_4, ↓Iv.o_addT, ↓Iv.b_divmod, ↓c_shift0, Bool.not_true, Bool.not_false, decide_true, decide_false, eq_self, List.cons_append, List.nil_append]
theorem en_SL : enumD 1 (.str "SL") = some [.tup [.int 1, .str "S"], .tup [.int 2, .str "L"]] := optBeqs_eq (by decide +kernel)
theorem en_MMF : enumD 1 (.str "MMF") = some [.tup [.int 1, .str "M"], .tup [.int 2, .str "M"], .tup [.int 3, .str "F"]] := optBeqs_eq (by decide +kernel)
theorem things_noise {k : Nat} {t l : Int} {p : List D} {h : AH} (t0 : 0 ≤ t) (t1 : t ≤ 1000000000) (l0 : 0 ≤ l) (l1 : l ≤ 8) : run T (k + 2) f_must_things [noiseD t l, .tup p, .dct false [] []] h = some (.non, h) := by
  rw [run_eq (fn := t_must_things.fn) rfl rfl]
  show bnd (semSs _ b_must_things [some (noiseD t l), some (.tup p), some (.dct false [] []), none, none, none, none, none, none]) (endK .cut h) _ = _
  unfold b_must_things
  unfold k_FORMS k_REACHES
  simp -implicitDefEqProofs (disch := first | omega | decide +kernel | exact rfl | (simp only [List.length_cons, List.length_nil]; decide +kernel)) only [↓Iv.slotK_0, ↓Iv.slotK_s, ↓Iv.setK_0, ↓Iv.setK_s, ↓Iv.nthK_0, ↓Iv.nthK_s, ↓Iv.permK_0, ↓Iv.permK_s, ↓Iv.e_v, ↓Iv.e_c, ↓Iv.e_tup, ↓Iv.e_lstv, ↓Iv.e_alloc, ↓Iv.e_bin, ↓Iv.e_neg, ↓Iv.e_cmp, ↓Iv.e_chain, ↓Iv.e_and, ↓Iv.e_or, ↓Iv.e_notK, ↓Iv.notK_T, ↓Iv.notK_F, ↓Iv.e_ite, ↓Iv.e_idx, ↓Iv.e_call, ↓Iv.e_bi, ↓Iv.es_nil, ↓Iv.es_cons, ↓Iv.f_disp, ↓Iv.new_3, ↓Iv.new_0, ↓Iv.sz_0, ↓Iv.sz_1, ↓Iv.sz_2, ↓Iv.sz_3, ↓Iv.sz_4, ↓Iv.sz_5, ↓Iv.sz_6, ↓Iv.sz_7, ↓Iv.sz_8, ↓Iv.sz_9, ↓Iv.sz_10, ↓Iv.sz_11, ↓Iv.sz_12, ↓Iv.sz_13, ↓Iv.sz_14, ↓Iv.t_nm, ↓Iv.t_tup, ↓Iv.t_lst, ↓Iv.t_sub, ↓Iv.ts_nil, ↓Iv.ts_cons, ↓Iv.ss_nil, ↓Iv.ss_cons, ↓Iv.seqK_rt, ↓Iv.seqK_nx, ↓Iv.s_asg, ↓Iv.s_aug, ↓Iv.s_expr, ↓Iv.s_ret, ↓Iv.s_retN, ↓Iv.s_pass, ↓Iv.s_ite, ↓Iv.s_for, ↓Iv.i_range1, ↓Iv.i_range2, ↓Iv.i_seq, ↓Iv.rgK_is, ↓Iv.rgK2_is, ↓Iv.itK_lst, ↓Iv.itK_tup, ↓Iv.o_add, ↓Iv.o_sub, ↓Iv.o_mul_l, ↓Iv.o_mul_r, ↓Iv.md600, ↓Iv.o_mod, ↓Iv.o_fdiv_s, ↓Iv.o_shl, ↓Iv.o_neg, ↓Iv.c_lt, ↓Iv.c_le, ↓Iv.c_gt, ↓Iv.c_ge, ↓Iv.c_eqI, ↓Iv.c_neI, ↓Iv.bl_K, ↓Iv.b_lenL, ↓Iv.b_lenT, ↓Iv.b_abs, ↓Iv.b_min2, ↓Iv.b_max2, ↓Iv.b_bits, ↓Iv.b_isaI_i, ↓Iv.b_isaI_b, ↓Iv.b_isaB_i, ↓Iv.b_isaB_b, ↓Iv.x_pick2, ↓Iv.x_pick3, ↓Iv.x_pick4, ↓Iv.x_pick5, ↓Iv.iteB_T, ↓Iv.iteB_F, ↓Iv.iteB_dT, ↓Iv.iteB_dF, ↓Iv.iteB_nT, ↓Iv.iteB_nF, ↓Iv.bodyF_is, ↓Iv.end_i, ↓Iv.end_b, ↓Iv.end_s, ↓Iv.end_iS, ↓Iv.end_iL, ↓Iv.end_own, ↓Iv.end_n, ↓Iv.end_r, ↓Iv.end_puI, ↓Iv.end_puB, ↓Iv.end_puT, ↓Iv.pw6, ↓Iv.pw9, ↓Iv.pw12, ↓Iv.pw18, ↓Iv.pw24, ↓Iv.pw30, ↓Iv.pw60, ↓Iv.pw600, ↓Iv.md600, ↓Iv.x_p0, ↓Iv.x_p1, ↓Iv.x_p2, ↓Iv.st_p0, ↓Iv.st_p2, ↓Iv.e_kidx, ↓Iv.e_kget, ↓Iv.e_dnew, ↓Iv.e_dfin, ↓Iv.kidx_hit, ↓Iv.kidx_miss, ↓Iv.c_strT, ↓Iv.c_strF, ↓Iv.c_nstrT, ↓Iv.c_nstrF, ↓Iv.c_isNs, ↓Iv.c_isNi, ↓Iv.c_isNt, ↓Iv.c_isNn, ↓Iv.b_isaT_t, ↓Iv.b_isaS_s, ↓Iv.b_lenS, ↓Iv.e_slice, ↓Iv.f_slc, ↓Iv.f_cat, ↓Iv.f_lst1, ↓Iv.f_comp, ↓Iv.turnC_k, ↓Iv.wipeK_0, ↓Iv.wipeK_s, ↓Iv.unsetK_0, ↓Iv.unsetK_s, ↓Iv.p_nm, ↓Iv.p_tup, ↓Iv.ps_0, ↓Iv.ps_s, ↓Iv.addK_n, ↓Iv.addK_s, ↓Iv.ifs_nil, ↓Iv.ifs_one, ↓Iv.optK_some, ↓Iv.partK_i, ↓Iv.s_app, ↓Iv.s_setF, ↓Iv.s_setA, ↓Iv.s_dext, ↓Iv.dctK_fin, ↓Iv.chkK_T, ↓Iv.o_aug_add, ↓Iv.o_aug_sub, ↓Iv.b_int1, ↓Iv.b_int1b, ↓Iv.b_tup1, ↓Iv.b_tup1t, ↓Iv.comp_nil, ↓Iv.comp_k, ↓Iv.i_zipS, ↓Iv.i_enumS, ↓Iv.xt_0, ↓Iv.xt_1, ↓Iv.xt_2, ↓Iv.xt_3, ↓Iv.xt_4, ↓Iv.xt_5, ↓Iv.xl_0, ↓Iv.xl_1, ↓Iv.xl_2, ↓Iv.xl_3, ↓Iv.xl_4, ↓Iv.o_addT, ↓Iv.b_divmod, en_SL, ↓for_1, ↓for_0, ↓loopK_nx, ↓b_whole, Bool.not_true, Bool.not_false, decide_true, decide_false, eq_self, List.cons_append, List.nil_append]
theorem field_noise {k : Nat} {t l : Int} {p : List D} {h : AH} (t0 : 0 ≤ t) (t1 : t ≤ 1000000000) (l0 : 0 ≤ l) (l1 : l ≤ 8) : run T (k + 3) f_must_field [noiseD t l, .tup p, .dct false [] []] h = some (.non, h) := by
  rw [run_eq (fn := t_must_field.fn) rfl rfl]
  show bnd (semSs _ b_must_field [some (noiseD t l), some (.tup p), some (.dct false [] [])]) (endK .cut h) _ = _
  unfold b_must_field
  simp -implicitDefEqProofs (disch := first | omega | decide +kernel | exact rfl | (simp only [List.length_cons, List.length_nil]; decide +kernel)) only [↓Iv.slotK_0, ↓Iv.slotK_s, ↓Iv.setK_0, ↓Iv.setK_s, ↓Iv.nthK_0, ↓Iv.nthK_s, ↓Iv.permK_0, ↓Iv.permK_s, ↓Iv.e_v, ↓Iv.e_c, ↓Iv.e_tup, ↓Iv.e_lstv, ↓Iv.e_alloc, ↓Iv.e_bin, ↓Iv.e_neg, ↓Iv.e_cmp, ↓Iv.e_chain, ↓Iv.e_and, ↓Iv.e_or, ↓Iv.e_notK, ↓Iv.notK_T, ↓Iv.notK_F, ↓Iv.e_ite, ↓Iv.e_idx, ↓Iv.e_call, ↓Iv.e_bi, ↓Iv.es_nil, ↓Iv.es_cons, ↓Iv.f_disp, ↓Iv.new_3, ↓Iv.new_0, ↓Iv.sz_0, ↓Iv.sz_1, ↓Iv.sz_2, ↓Iv.sz_3, ↓Iv.sz_4, ↓Iv.sz_5, ↓Iv.sz_6, ↓Iv.sz_7, ↓Iv.sz_8, ↓Iv.sz_9, ↓Iv.sz_10, ↓Iv.sz_11, ↓Iv.sz_12, ↓Iv.sz_13, ↓Iv.sz_14, ↓Iv.t_nm, ↓Iv.t_tup, ↓Iv.t_lst, ↓Iv.t_sub, ↓Iv.ts_nil, ↓Iv.ts_cons, ↓Iv.ss_nil, ↓Iv.ss_cons, ↓Iv.seqK_rt, ↓Iv.seqK_nx, ↓Iv.s_asg, ↓Iv.s_aug, ↓Iv.s_expr, ↓Iv.s_ret, ↓Iv.s_retN, ↓Iv.s_pass, ↓Iv.s_ite, ↓Iv.s_for, ↓Iv.i_range1, ↓Iv.i_range2, ↓Iv.i_seq, ↓Iv.rgK_is, ↓Iv.rgK2_is, ↓Iv.itK_lst, ↓Iv.itK_tup, ↓Iv.o_add, ↓Iv.o_sub, ↓Iv.o_mul_l, ↓Iv.o_mul_r, ↓Iv.md600, ↓Iv.o_mod, ↓Iv.o_fdiv_s, ↓Iv.o_shl, ↓Iv.o_neg, ↓Iv.c_lt, ↓Iv.c_le, ↓Iv.c_gt, ↓Iv.c_ge, ↓Iv.c_eqI, ↓Iv.c_neI, ↓Iv.bl_K, ↓Iv.b_lenL, ↓Iv.b_lenT, ↓Iv.b_abs, ↓Iv.b_min2, ↓Iv.b_max2, ↓Iv.b_bits, ↓Iv.b_isaI_i, ↓Iv.b_isaI_b, ↓Iv.b_isaB_i, ↓Iv.b_isaB_b, ↓Iv.x_pick2, ↓Iv.x_pick3, ↓Iv.x_pick4, ↓Iv.x_pick5, ↓Iv.iteB_T, ↓Iv.iteB_F, ↓Iv.iteB_dT, ↓Iv.iteB_dF, ↓Iv.iteB_nT, ↓Iv.iteB_nF, ↓Iv.bodyF_is, ↓Iv.end_i, ↓Iv.end_b, ↓Iv.end_s, ↓Iv.end_iS, ↓Iv.end_iL, ↓Iv.end_own, ↓Iv.end_n, ↓Iv.end_r, ↓Iv.end_puI, ↓Iv.end_puB, ↓Iv.end_puT, ↓Iv.pw6, ↓Iv.pw9, ↓Iv.pw12, ↓Iv.pw18, ↓Iv.pw24, ↓Iv.pw30, ↓Iv.pw60, ↓Iv.pw600, ↓Iv.md600, ↓Iv.x_p0, ↓Iv.x_p1, ↓Iv.x_p2, ↓Iv.st_p0, ↓Iv.st_p2, ↓Iv.e_kidx, ↓Iv.e_kget, ↓Iv.e_dnew, ↓Iv.e_dfin, ↓Iv.kidx_hit, ↓Iv.kidx_miss, ↓Iv.c_strT, ↓Iv.c_strF, ↓Iv.c_nstrT, ↓Iv.c_nstrF, ↓Iv.c_isNs, ↓Iv.c_isNi, ↓Iv.c_isNt, ↓Iv.c_isNn, ↓Iv.b_isaT_t, ↓Iv.b_isaS_s, ↓Iv.b_lenS, ↓Iv.e_slice, ↓Iv.f_slc, ↓Iv.f_cat, ↓Iv.f_lst1, ↓Iv.f_comp, ↓Iv.turnC_k, ↓Iv.wipeK_0, ↓Iv.wipeK_s, ↓Iv.unsetK_0, ↓Iv.unsetK_s, ↓Iv.p_nm, ↓Iv.p_tup, ↓Iv.ps_0, ↓Iv.ps_s, ↓Iv.addK_n, ↓Iv.addK_s, ↓Iv.ifs_nil, ↓Iv.ifs_one, ↓Iv.optK_some, ↓Iv.partK_i, ↓Iv.s_app, ↓Iv.s_setF, ↓Iv.s_setA, ↓Iv.s_dext, ↓Iv.dctK_fin, ↓Iv.chkK_T, ↓Iv.o_aug_add, ↓Iv.o_aug_sub, ↓Iv.b_int1, ↓Iv.b_int1b, ↓Iv.b_tup1, ↓Iv.b_tup1t, ↓Iv.comp_nil, ↓Iv.comp_k, ↓Iv.i_zipS, ↓Iv.i_enumS, ↓Iv.xt_0, ↓Iv.xt_1, ↓Iv.xt_2, ↓Iv.xt_3, ↓Iv.xt_4, ↓Iv.xt_5, ↓Iv.xl_0, ↓Iv.xl_1, ↓Iv.xl_2, ↓Iv.xl_3, ↓Iv.xl_4, ↓Iv.o_addT, ↓Iv.b_divmod, ↓bnd_of kind_noise, ↓bnd_of (things_noise t0 t1 l0 l1), Bool.not_true, Bool.not_false, decide_true, decide_false, eq_self, List.cons_append, List.nil_append]
theorem things_shift {k : Nat} {a b t l : Int} {p : List D} {h : AH} (t0 : 0 ≤ t) (t1 : t ≤ 1000000000) (l0 : 0 ≤ l) (l1 : l ≤ 8) (a0 : -1000 ≤ a) (a1 : a ≤ 1000) (b0 : -1000 ≤ b) (b1 : b ≤ 1000) (hp : p.length + 1 ≤ sizeMax) : run T (k + 4) f_must_things [shiftD a b (noiseD t l), .tup p, .dct false [] []] h = some (.non, h) := by
  rw [run_eq (fn := t_must_things.fn) rfl rfl]
  show bnd (semSs _ b_must_things [some (shiftD a b (noiseD t l)), some (.tup p), some (.dct false [] []), none, none, none, none, none, none]) (endK .cut h) _ = _
  unfold b_must_things
  unfold k_FORMS k_REACHES
  have e := fun q => field_noise (k := k) (p := q) (h := h) t0 t1 l0 l1
  have hp' : p.length + [D.int 3].length ≤ sizeMax := hp
  simp -implicitDefEqProofs (disch := first | omega | decide +kernel | exact rfl | (simp only [List.length_cons, List.length_nil]; decide +kernel)) only [↓Iv.slotK_0, ↓Iv.slotK_s, ↓Iv.setK_0, ↓Iv.setK_s, ↓Iv.nthK_0, ↓Iv.nthK_s, ↓Iv.permK_0, ↓Iv.permK_s, ↓Iv.e_v, ↓Iv.e_c, ↓Iv.e_tup, ↓Iv.e_lstv, ↓Iv.e_alloc, ↓Iv.e_bin, ↓Iv.e_neg, ↓Iv.e_cmp, ↓Iv.e_chain, ↓Iv.e_and, ↓Iv.e_or, ↓Iv.e_notK, ↓Iv.notK_T, ↓Iv.notK_F, ↓Iv.e_ite, ↓Iv.e_idx, ↓Iv.e_call, ↓Iv.e_bi, ↓Iv.es_nil, ↓Iv.es_cons, ↓Iv.f_disp, ↓Iv.new_3, ↓Iv.new_0, ↓Iv.sz_0, ↓Iv.sz_1, ↓Iv.sz_2, ↓Iv.sz_3, ↓Iv.sz_4, ↓Iv.sz_5, ↓Iv.sz_6, ↓Iv.sz_7, ↓Iv.sz_8, ↓Iv.sz_9, ↓Iv.sz_10, ↓Iv.sz_11, ↓Iv.sz_12, ↓Iv.sz_13, ↓Iv.sz_14, ↓Iv.t_nm, ↓Iv.t_tup, ↓Iv.t_lst, ↓Iv.t_sub, ↓Iv.ts_nil, ↓Iv.ts_cons, ↓Iv.ss_nil, ↓Iv.ss_cons, ↓Iv.seqK_rt, ↓Iv.seqK_nx, ↓Iv.s_asg, ↓Iv.s_aug, ↓Iv.s_expr, ↓Iv.s_ret, ↓Iv.s_retN, ↓Iv.s_pass, ↓Iv.s_ite, ↓Iv.s_for, ↓Iv.i_range1, ↓Iv.i_range2, ↓Iv.i_seq, ↓Iv.rgK_is, ↓Iv.rgK2_is, ↓Iv.itK_lst, ↓Iv.itK_tup, ↓Iv.o_add, ↓Iv.o_sub, ↓Iv.o_mul_l, ↓Iv.o_mul_r, ↓Iv.md600, ↓Iv.o_mod, ↓Iv.o_fdiv_s, ↓Iv.o_shl, ↓Iv.o_neg, ↓Iv.c_lt, ↓Iv.c_le, ↓Iv.c_gt, ↓Iv.c_ge, ↓Iv.c_eqI, ↓Iv.c_neI, ↓Iv.bl_K, ↓Iv.b_lenL, ↓Iv.b_lenT, ↓Iv.b_abs, ↓Iv.b_min2, ↓Iv.b_max2, ↓Iv.b_bits, ↓Iv.b_isaI_i, ↓Iv.b_isaI_b, ↓Iv.b_isaB_i, ↓Iv.b_isaB_b, ↓Iv.x_pick2, ↓Iv.x_pick3, ↓Iv.x_pick4, ↓Iv.x_pick5, ↓Iv.iteB_T, ↓Iv.iteB_F, ↓Iv.iteB_dT, ↓Iv.iteB_dF, ↓Iv.iteB_nT, ↓Iv.iteB_nF, ↓Iv.bodyF_is, ↓Iv.end_i, ↓Iv.end_b, ↓Iv.end_s, ↓Iv.end_iS, ↓Iv.end_iL, ↓Iv.end_own, ↓Iv.end_n, ↓Iv.end_r, ↓Iv.end_puI, ↓Iv.end_puB, ↓Iv.end_puT, ↓Iv.pw6, ↓Iv.pw9, ↓Iv.pw12, ↓Iv.pw18, ↓Iv.pw24, ↓Iv.pw30, ↓Iv.pw60, ↓Iv.pw600, ↓Iv.md600, ↓Iv.x_p0, ↓Iv.x_p1, ↓Iv.x_p2, ↓Iv.st_p0, ↓Iv.st_p2, ↓Iv.e_kidx, ↓Iv.e_kget, ↓Iv.e_dnew, ↓Iv.e_dfin, ↓Iv.kidx_hit, ↓Iv.kidx_miss, ↓Iv.c_strT, ↓Iv.c_strF, ↓Iv.c_nstrT, ↓Iv.c_nstrF, ↓Iv.c_isNs, ↓Iv.c_isNi, ↓Iv.c_isNt, ↓Iv.c_isNn, ↓Iv.b_isaT_t, ↓Iv.b_isaS_s, ↓Iv.b_lenS, ↓Iv.e_slice, ↓Iv.f_slc, ↓Iv.f_cat, ↓Iv.f_lst1, ↓Iv.f_comp, ↓Iv.turnC_k, ↓Iv.wipeK_0, ↓Iv.wipeK_s, ↓Iv.unsetK_0, ↓Iv.unsetK_s, ↓Iv.p_nm, ↓Iv.p_tup, ↓Iv.ps_0, ↓Iv.ps_s, ↓Iv.addK_n, ↓Iv.addK_s, ↓Iv.ifs_nil, ↓Iv.ifs_one, ↓Iv.optK_some, ↓Iv.partK_i, ↓Iv.s_app, ↓Iv.s_setF, ↓Iv.s_setA, ↓Iv.s_dext, ↓Iv.dctK_fin, ↓Iv.chkK_T, ↓Iv.o_aug_add, ↓Iv.o_aug_sub, ↓Iv.b_int1, ↓Iv.b_int1b, ↓Iv.b_tup1, ↓Iv.b_tup1t, ↓Iv.comp_nil, ↓Iv.comp_k, ↓Iv.i_zipS, ↓Iv.i_enumS, ↓Iv.xt_0, ↓Iv.xt_1, ↓Iv.xt_2, ↓Iv.xt_3, ↓Iv.xt_4, ↓Iv.xt_5, ↓Iv.xl_0, ↓Iv.xl_1, ↓Iv.xl_2, ↓Iv.xl_3, ↓Iv.xl_4, ↓Iv.o_addT, ↓Iv.b_divmod, en_MMF, ↓for_1, ↓for_0, ↓loopK_nx, ↓b_whole, ↓o_addT hp', ↓bnd_of (e _), Bool.not_true, Bool.not_false, decide_true, decide_false, eq_self, List.cons_append, List.nil_append]
theorem field_shift {k : Nat} {a b t l : Int} {p : List D} {h : AH} (t0 : 0 ≤ t) (t1 : t ≤ 1000000000) (l0 : 0 ≤ l) (l1 : l ≤ 8) (a0 : -1000 ≤ a) (a1 : a ≤ 1000) (b0 : -1000 ≤ b) (b1 : b ≤ 1000) (hp : p.length + 1 ≤ sizeMax) : run T (k + 5) f_must_field [shiftD a b (noiseD t l), .tup p, .dct false [] []] h = some (.non, h) := by
  rw [run_eq (fn := t_must_field.fn) rfl rfl]
  show bnd (semSs _ b_must_field [some (shiftD a b (noiseD t l)), some (.tup p), some (.dct false [] [])]) (endK .cut h) _ = _
  unfold b_must_field
  simp -implicitDefEqProofs (disch := first | omega | decide +kernel | exact rfl | (simp only [List.length_cons, List.length_nil]; decide +kernel)) only [↓Iv.slotK_0, ↓Iv.slotK_s, ↓Iv.setK_0, ↓Iv.setK_s, ↓Iv.nthK_0, ↓Iv.nthK_s, ↓Iv.permK_0, ↓Iv.permK_s, ↓Iv.e_v, ↓Iv.e_c, ↓Iv.e_tup, ↓Iv.e_lstv, ↓Iv.e_alloc, ↓Iv.e_bin, ↓Iv.e_neg, ↓Iv.e_cmp, ↓Iv.e_chain, ↓Iv.e_and, ↓Iv.e_or, ↓Iv.e_notK, ↓Iv.notK_T, ↓Iv.notK_F, ↓Iv.e_ite, ↓Iv.e_idx, ↓Iv.e_call, ↓Iv.e_bi, ↓Iv.es_nil, ↓Iv.es_cons, ↓Iv.f_disp, ↓Iv.new_3, ↓Iv.new_0, ↓Iv.sz_0, ↓Iv.sz_1, ↓Iv.sz_2, ↓Iv.sz_3, ↓Iv.sz_4, ↓Iv.sz_5, ↓Iv.sz_6, ↓Iv.sz_7, ↓Iv.sz_8, ↓Iv.sz_9, ↓Iv.sz_10, ↓Iv.sz_11, ↓Iv.sz_12, ↓Iv.sz_13, ↓Iv.sz_14, ↓Iv.t_nm, ↓Iv.t_tup, ↓Iv.t_lst, ↓Iv.t_sub, ↓Iv.ts_nil, ↓Iv.ts_cons, ↓Iv.ss_nil, ↓Iv.ss_cons, ↓Iv.seqK_rt, ↓Iv.seqK_nx, ↓Iv.s_asg, ↓Iv.s_aug, ↓Iv.s_expr, ↓Iv.s_ret, ↓Iv.s_retN, ↓Iv.s_pass, ↓Iv.s_ite, ↓Iv.s_for, ↓Iv.i_range1, ↓Iv.i_range2, ↓Iv.i_seq, ↓Iv.rgK_is, ↓Iv.rgK2_is, ↓Iv.itK_lst, ↓Iv.itK_tup, ↓Iv.o_add, ↓Iv.o_sub, ↓Iv.o_mul_l, ↓Iv.o_mul_r, ↓Iv.md600, ↓Iv.o_mod, ↓Iv.o_fdiv_s, ↓Iv.o_shl, ↓Iv.o_neg, ↓Iv.c_lt, ↓Iv.c_le, ↓Iv.c_gt, ↓Iv.c_ge, ↓Iv.c_eqI, ↓Iv.c_neI, ↓Iv.bl_K, ↓Iv.b_lenL, ↓Iv.b_lenT, ↓Iv.b_abs, ↓Iv.b_min2, ↓Iv.b_max2, ↓Iv.b_bits, ↓Iv.b_isaI_i, ↓Iv.b_isaI_b, ↓Iv.b_isaB_i, ↓Iv.b_isaB_b, ↓Iv.x_pick2, ↓Iv.x_pick3, ↓Iv.x_pick4, ↓Iv.x_pick5, ↓Iv.iteB_T, ↓Iv.iteB_F, ↓Iv.iteB_dT, ↓Iv.iteB_dF, ↓Iv.iteB_nT, ↓Iv.iteB_nF, ↓Iv.bodyF_is, ↓Iv.end_i, ↓Iv.end_b, ↓Iv.end_s, ↓Iv.end_iS, ↓Iv.end_iL, ↓Iv.end_own, ↓Iv.end_n, ↓Iv.end_r, ↓Iv.end_puI, ↓Iv.end_puB, ↓Iv.end_puT, ↓Iv.pw6, ↓Iv.pw9, ↓Iv.pw12, ↓Iv.pw18, ↓Iv.pw24, ↓Iv.pw30, ↓Iv.pw60, ↓Iv.pw600, ↓Iv.md600, ↓Iv.x_p0, ↓Iv.x_p1, ↓Iv.x_p2, ↓Iv.st_p0, ↓Iv.st_p2, ↓Iv.e_kidx, ↓Iv.e_kget, ↓Iv.e_dnew, ↓Iv.e_dfin, ↓Iv.kidx_hit, ↓Iv.kidx_miss, ↓Iv.c_strT, ↓Iv.c_strF, ↓Iv.c_nstrT, ↓Iv.c_nstrF, ↓Iv.c_isNs, ↓Iv.c_isNi, ↓Iv.c_isNt, ↓Iv.c_isNn, ↓Iv.b_isaT_t, ↓Iv.b_isaS_s, ↓Iv.b_lenS, ↓Iv.e_slice, ↓Iv.f_slc, ↓Iv.f_cat, ↓Iv.f_lst1, ↓Iv.f_comp, ↓Iv.turnC_k, ↓Iv.wipeK_0, ↓Iv.wipeK_s, ↓Iv.unsetK_0, ↓Iv.unsetK_s, ↓Iv.p_nm, ↓Iv.p_tup, ↓Iv.ps_0, ↓Iv.ps_s, ↓Iv.addK_n, ↓Iv.addK_s, ↓Iv.ifs_nil, ↓Iv.ifs_one, ↓Iv.optK_some, ↓Iv.partK_i, ↓Iv.s_app, ↓Iv.s_setF, ↓Iv.s_setA, ↓Iv.s_dext, ↓Iv.dctK_fin, ↓Iv.chkK_T, ↓Iv.o_aug_add, ↓Iv.o_aug_sub, ↓Iv.b_int1, ↓Iv.b_int1b, ↓Iv.b_tup1, ↓Iv.b_tup1t, ↓Iv.comp_nil, ↓Iv.comp_k, ↓Iv.i_zipS, ↓Iv.i_enumS, ↓Iv.xt_0, ↓Iv.xt_1, ↓Iv.xt_2, ↓Iv.xt_3, ↓Iv.xt_4, ↓Iv.xt_5, ↓Iv.xl_0, ↓Iv.xl_1, ↓Iv.xl_2, ↓Iv.xl_3, ↓Iv.xl_4, ↓Iv.o_addT, ↓Iv.b_divmod, ↓bnd_of kind_shift, ↓bnd_of (things_shift t0 t1 l0 l1 a0 a1 b0 b1 hp), Bool.not_true, Bool.not_false, decide_true, decide_false, eq_self, List.cons_append, List.nil_append]
theorem zp_noise {t l : Int} : zipD (.tup [.int t, .int l]) (.str "SL") = some [.tup [.int t, .str "S"], .tup [.int l, .str "L"]] := by
  have e : (("SL" : Str).cps.all (· < 128) = true ∧ [D.int t, D.int l].length = ("SL" : Str).cps.size) := ⟨by decide +kernel, show 2 = _ by decide +kernel⟩
  have e2 : ("SL" : Str).cps.toList = [83, 76] := by decide +kernel
  have e3 : (⟨#[83]⟩ : Str) = "S" := by decide +kernel
  have e4 : (⟨#[76]⟩ : Str) = "L" := by decide +kernel
  simp only [zipD]
  rw [if_pos e, e2]
  simp only [List.zipWith_cons_cons, List.zipWith_nil_left, e3, e4]
theorem zp_shift {a b : Int} {d : D} : zipD (.tup [.int a, .int b, d]) (.str "MMF") = some [.tup [.int a, .str "M"], .tup [.int b, .str "M"], .tup [d, .str "F"]] := by
  have e : (("MMF" : Str).cps.all (· < 128) = true ∧ [D.int a, D.int b, d].length = ("MMF" : Str).cps.size) := ⟨by decide +kernel, show 3 = _ by decide +kernel⟩
  have e2 : ("MMF" : Str).cps.toList = [77, 77, 70] := by decide +kernel
  have e3 : (⟨#[77]⟩ : Str) = "M" := by decide +kernel
  have e4 : (⟨#[70]⟩ : Str) = "F" := by decide +kernel
  simp only [zipD]
  rw [if_pos e, e2]
  simp only [List.zipWith_cons_cons, List.zipWith_nil_left, e3, e4]
theorem parts_noise {k : Nat} {t l : Int} {h : AH} : run T (k + 1) f_parts_of [noiseD t l] h = some (.lst [], h) := by
  rw [run_eq (fn := t_parts_of.fn) rfl rfl]
  show bnd (semSs _ b_parts_of [some (noiseD t l), none, none]) (endK .cut h) _ = _
  unfold b_parts_of
  unfold k_FORMS
  simp -implicitDefEqProofs (disch := first | omega | decide +kernel | exact rfl | (simp only [List.length_cons, List.length_nil]; decide +kernel)) only [↓Iv.slotK_0, ↓Iv.slotK_s, ↓Iv.setK_0, ↓Iv.setK_s, ↓Iv.nthK_0, ↓Iv.nthK_s, ↓Iv.permK_0, ↓Iv.permK_s, ↓Iv.e_v, ↓Iv.e_c, ↓Iv.e_tup, ↓Iv.e_lstv, ↓Iv.e_alloc, ↓Iv.e_bin, ↓Iv.e_neg, ↓Iv.e_cmp, ↓Iv.e_chain, ↓Iv.e_and, ↓Iv.e_or, ↓Iv.e_notK, ↓Iv.notK_T, ↓Iv.notK_F, ↓Iv.e_ite, ↓Iv.e_idx, ↓Iv.e_call, ↓Iv.e_bi, ↓Iv.es_nil, ↓Iv.es_cons, ↓Iv.f_disp, ↓Iv.new_3, ↓Iv.new_0, ↓Iv.sz_0, ↓Iv.sz_1, ↓Iv.sz_2, ↓Iv.sz_3, ↓Iv.sz_4, ↓Iv.sz_5, ↓Iv.sz_6, ↓Iv.sz_7, ↓Iv.sz_8, ↓Iv.sz_9, ↓Iv.sz_10, ↓Iv.sz_11, ↓Iv.sz_12, ↓Iv.sz_13, ↓Iv.sz_14, ↓Iv.t_nm, ↓Iv.t_tup, ↓Iv.t_lst, ↓Iv.t_sub, ↓Iv.ts_nil, ↓Iv.ts_cons, ↓Iv.ss_nil, ↓Iv.ss_cons, ↓Iv.seqK_rt, ↓Iv.seqK_nx, ↓Iv.s_asg, ↓Iv.s_aug, ↓Iv.s_expr, ↓Iv.s_ret, ↓Iv.s_retN, ↓Iv.s_pass, ↓Iv.s_ite, ↓Iv.s_for, ↓Iv.i_range1, ↓Iv.i_range2, ↓Iv.i_seq, ↓Iv.rgK_is, ↓Iv.rgK2_is, ↓Iv.itK_lst, ↓Iv.itK_tup, ↓Iv.o_add, ↓Iv.o_sub, ↓Iv.o_mul_l, ↓Iv.o_mul_r, ↓Iv.md600, ↓Iv.o_mod, ↓Iv.o_fdiv_s, ↓Iv.o_shl, ↓Iv.o_neg, ↓Iv.c_lt, ↓Iv.c_le, ↓Iv.c_gt, ↓Iv.c_ge, ↓Iv.c_eqI, ↓Iv.c_neI, ↓Iv.bl_K, ↓Iv.b_lenL, ↓Iv.b_lenT, ↓Iv.b_abs, ↓Iv.b_min2, ↓Iv.b_max2, ↓Iv.b_bits, ↓Iv.b_isaI_i, ↓Iv.b_isaI_b, ↓Iv.b_isaB_i, ↓Iv.b_isaB_b, ↓Iv.x_pick2, ↓Iv.x_pick3, ↓Iv.x_pick4, ↓Iv.x_pick5, ↓Iv.iteB_T, ↓Iv.iteB_F, ↓Iv.iteB_dT, ↓Iv.iteB_dF, ↓Iv.iteB_nT, ↓Iv.iteB_nF, ↓Iv.bodyF_is, ↓Iv.end_i, ↓Iv.end_b, ↓Iv.end_s, ↓Iv.end_iS, ↓Iv.end_iL, ↓Iv.end_own, ↓Iv.end_n, ↓Iv.end_r, ↓Iv.end_puI, ↓Iv.end_puB, ↓Iv.end_puT, ↓Iv.pw6, ↓Iv.pw9, ↓Iv.pw12, ↓Iv.pw18, ↓Iv.pw24, ↓Iv.pw30, ↓Iv.pw60, ↓Iv.pw600, ↓Iv.md600, ↓Iv.x_p0, ↓Iv.x_p1, ↓Iv.x_p2, ↓Iv.st_p0, ↓Iv.st_p2, ↓Iv.e_kidx, ↓Iv.e_kget, ↓Iv.e_dnew, ↓Iv.e_dfin, ↓Iv.kidx_hit, ↓Iv.kidx_miss, ↓Iv.c_strT, ↓Iv.c_strF, ↓Iv.c_nstrT, ↓Iv.c_nstrF, ↓Iv.c_isNs, ↓Iv.c_isNi, ↓Iv.c_isNt, ↓Iv.c_isNn, ↓Iv.b_isaT_t, ↓Iv.b_isaS_s, ↓Iv.b_lenS, ↓Iv.e_slice, ↓Iv.f_slc, ↓Iv.f_cat, ↓Iv.f_lst1, ↓Iv.f_comp, ↓Iv.turnC_k, ↓Iv.wipeK_0, ↓Iv.wipeK_s, ↓Iv.unsetK_0, ↓Iv.unsetK_s, ↓Iv.p_nm, ↓Iv.p_tup, ↓Iv.ps_0, ↓Iv.ps_s, ↓Iv.addK_n, ↓Iv.addK_s, ↓Iv.ifs_nil, ↓Iv.ifs_one, ↓Iv.optK_some, ↓Iv.partK_i, ↓Iv.s_app, ↓Iv.s_setF, ↓Iv.s_setA, ↓Iv.s_dext, ↓Iv.dctK_fin, ↓Iv.chkK_T, ↓Iv.o_aug_add, ↓Iv.o_aug_sub, ↓Iv.b_int1, ↓Iv.b_int1b, ↓Iv.b_tup1, ↓Iv.b_tup1t, ↓Iv.comp_nil, ↓Iv.comp_k, ↓Iv.i_zipS, ↓Iv.i_enumS, ↓Iv.xt_0, ↓Iv.xt_1, ↓Iv.xt_2, ↓Iv.xt_3, ↓Iv.xt_4, ↓Iv.xt_5, ↓Iv.xl_0, ↓Iv.xl_1, ↓Iv.xl_2, ↓Iv.xl_3, ↓Iv.xl_4, ↓Iv.o_addT, ↓Iv.b_divmod, zp_noise, ↓sl_t1, Bool.not_true, Bool.not_false, decide_true, decide_false, eq_self, List.cons_append, List.nil_append]
theorem parts_shift {k : Nat} {a b t l : Int} {h : AH} : run T (k + 1) f_parts_of [shiftD a b (noiseD t l)] h = some (.lst [noiseD t l], h) := by
  rw [run_eq (fn := t_parts_of.fn) rfl rfl]
  show bnd (semSs _ b_parts_of [some (shiftD a b (noiseD t l)), none, none]) (endK .cut h) _ = _
  unfold b_parts_of
  unfold k_FORMS
  simp -implicitDefEqProofs (disch := first | omega | decide +kernel | exact rfl | (simp only [List.length_cons, List.length_nil]; decide +kernel)) only [↓Iv.slotK_0, ↓Iv.slotK_s, ↓Iv.setK_0, ↓Iv.setK_s, ↓Iv.nthK_0, ↓Iv.nthK_s, ↓Iv.permK_0, ↓Iv.permK_s, ↓Iv.e_v, ↓Iv.e_c, ↓Iv.e_tup, ↓Iv.e_lstv, ↓Iv.e_alloc, ↓Iv.e_bin, ↓Iv.e_neg, ↓Iv.e_cmp, ↓Iv.e_chain, ↓Iv.e_and, ↓Iv.e_or, ↓Iv.e_notK, ↓Iv.notK_T, ↓Iv.notK_F, ↓Iv.e_ite, ↓Iv.e_idx, ↓Iv.e_call, ↓Iv.e_bi, ↓Iv.es_nil, ↓Iv.es_cons, ↓Iv.f_disp, ↓Iv.new_3, ↓Iv.new_0, ↓Iv.sz_0, ↓Iv.sz_1, ↓Iv.sz_2, ↓Iv.sz_3, ↓Iv.sz_4, ↓Iv.sz_5, ↓Iv.sz_6, ↓Iv.sz_7, ↓Iv.sz_8, ↓Iv.sz_9, ↓Iv.sz_10, ↓Iv.sz_11, ↓Iv.sz_12, ↓Iv.sz_13, ↓Iv.sz_14, ↓Iv.t_nm, ↓Iv.t_tup, ↓Iv.t_lst, ↓Iv.t_sub, ↓Iv.ts_nil, ↓Iv.ts_cons, ↓Iv.ss_nil, ↓Iv.ss_cons, ↓Iv.seqK_rt, ↓Iv.seqK_nx, ↓Iv.s_asg, ↓Iv.s_aug, ↓Iv.s_expr, ↓Iv.s_ret, ↓Iv.s_retN, ↓Iv.s_pass, ↓Iv.s_ite, ↓Iv.s_for, ↓Iv.i_range1, ↓Iv.i_range2, ↓Iv.i_seq, ↓Iv.rgK_is, ↓Iv.rgK2_is, ↓Iv.itK_lst, ↓Iv.itK_tup, ↓Iv.o_add, ↓Iv.o_sub, ↓Iv.o_mul_l, ↓Iv.o_mul_r, ↓Iv.md600, ↓Iv.o_mod, ↓Iv.o_fdiv_s, ↓Iv.o_shl, ↓Iv.o_neg, ↓Iv.c_lt, ↓Iv.c_le, ↓Iv.c_gt, ↓Iv.c_ge, ↓Iv.c_eqI, ↓Iv.c_neI, ↓Iv.bl_K, ↓Iv.b_lenL, ↓Iv.b_lenT, ↓Iv.b_abs, ↓Iv.b_min2, ↓Iv.b_max2, ↓Iv.b_bits, ↓Iv.b_isaI_i, ↓Iv.b_isaI_b, ↓Iv.b_isaB_i, ↓Iv.b_isaB_b, ↓Iv.x_pick2, ↓Iv.x_pick3, ↓Iv.x_pick4, ↓Iv.x_pick5, ↓Iv.iteB_T, ↓Iv.iteB_F, ↓Iv.iteB_dT, ↓Iv.iteB_dF, ↓Iv.iteB_nT, ↓Iv.iteB_nF, ↓Iv.bodyF_is, ↓Iv.end_i, ↓Iv.end_b, ↓Iv.end_s, ↓Iv.end_iS, ↓Iv.end_iL, ↓Iv.end_own, ↓Iv.end_n, ↓Iv.end_r, ↓Iv.end_puI, ↓Iv.end_puB, ↓Iv.end_puT, ↓Iv.pw6, ↓Iv.pw9, ↓Iv.pw12, ↓Iv.pw18, ↓Iv.pw24, ↓Iv.pw30, ↓Iv.pw60, ↓Iv.pw600, ↓Iv.md600, ↓Iv.x_p0, ↓Iv.x_p1, ↓Iv.x_p2, ↓Iv.st_p0, ↓Iv.st_p2, ↓Iv.e_kidx, ↓Iv.e_kget, ↓Iv.e_dnew, ↓Iv.e_dfin, ↓Iv.kidx_hit, ↓Iv.kidx_miss, ↓Iv.c_strT, ↓Iv.c_strF, ↓Iv.c_nstrT, ↓Iv.c_nstrF, ↓Iv.c_isNs, ↓Iv.c_isNi, ↓Iv.c_isNt, ↓Iv.c_isNn, ↓Iv.b_isaT_t, ↓Iv.b_isaS_s, ↓Iv.b_lenS, ↓Iv.e_slice, ↓Iv.f_slc, ↓Iv.f_cat, ↓Iv.f_lst1, ↓Iv.f_comp, ↓Iv.turnC_k, ↓Iv.wipeK_0, ↓Iv.wipeK_s, ↓Iv.unsetK_0, ↓Iv.unsetK_s, ↓Iv.p_nm, ↓Iv.p_tup, ↓Iv.ps_0, ↓Iv.ps_s, ↓Iv.addK_n, ↓Iv.addK_s, ↓Iv.ifs_nil, ↓Iv.ifs_one, ↓Iv.optK_some, ↓Iv.partK_i, ↓Iv.s_app, ↓Iv.s_setF, ↓Iv.s_setA, ↓Iv.s_dext, ↓Iv.dctK_fin, ↓Iv.chkK_T, ↓Iv.o_aug_add, ↓Iv.o_aug_sub, ↓Iv.b_int1, ↓Iv.b_int1b, ↓Iv.b_tup1, ↓Iv.b_tup1t, ↓Iv.comp_nil, ↓Iv.comp_k, ↓Iv.i_zipS, ↓Iv.i_enumS, ↓Iv.xt_0, ↓Iv.xt_1, ↓Iv.xt_2, ↓Iv.xt_3, ↓Iv.xt_4, ↓Iv.xt_5, ↓Iv.xl_0, ↓Iv.xl_1, ↓Iv.xl_2, ↓Iv.xl_3, ↓Iv.xl_4, ↓Iv.o_addT, ↓Iv.b_divmod, zp_shift, ↓sl_t1, Bool.not_true, Bool.not_false, decide_true, decide_false, eq_self, List.cons_append, List.nil_append]
  exact end_r rfl
theorem size_noise {k : Nat} {t l : Int} {h : AH} : run T (k + 2) f_size_of [noiseD t l, .dct false [] []] h = some (.int 1, h) := by
  rw [run_eq (fn := t_size_of.fn) rfl rfl]
  show bnd (semSs _ b_size_of [some (noiseD t l), some (.dct false [] []), none, none]) (endK .cut h) _ = _
  unfold b_size_of
  simp -implicitDefEqProofs (disch := first | omega | decide +kernel | exact rfl | (simp only [List.length_cons, List.length_nil]; decide +kernel)) only [↓Iv.slotK_0, ↓Iv.slotK_s, ↓Iv.setK_0, ↓Iv.setK_s, ↓Iv.nthK_0, ↓Iv.nthK_s, ↓Iv.permK_0, ↓Iv.permK_s, ↓Iv.e_v, ↓Iv.e_c, ↓Iv.e_tup, ↓Iv.e_lstv, ↓Iv.e_alloc, ↓Iv.e_bin, ↓Iv.e_neg, ↓Iv.e_cmp, ↓Iv.e_chain, ↓Iv.e_and, ↓Iv.e_or, ↓Iv.e_notK, ↓Iv.notK_T, ↓Iv.notK_F, ↓Iv.e_ite, ↓Iv.e_idx, ↓Iv.e_call, ↓Iv.e_bi, ↓Iv.es_nil, ↓Iv.es_cons, ↓Iv.f_disp, ↓Iv.new_3, ↓Iv.new_0, ↓Iv.sz_0, ↓Iv.sz_1, ↓Iv.sz_2, ↓Iv.sz_3, ↓Iv.sz_4, ↓Iv.sz_5, ↓Iv.sz_6, ↓Iv.sz_7, ↓Iv.sz_8, ↓Iv.sz_9, ↓Iv.sz_10, ↓Iv.sz_11, ↓Iv.sz_12, ↓Iv.sz_13, ↓Iv.sz_14, ↓Iv.t_nm, ↓Iv.t_tup, ↓Iv.t_lst, ↓Iv.t_sub, ↓Iv.ts_nil, ↓Iv.ts_cons, ↓Iv.ss_nil, ↓Iv.ss_cons, ↓Iv.seqK_rt, ↓Iv.seqK_nx, ↓Iv.s_asg, ↓Iv.s_aug, ↓Iv.s_expr, ↓Iv.s_ret, ↓Iv.s_retN, ↓Iv.s_pass, ↓Iv.s_ite, ↓Iv.s_for, ↓Iv.i_range1, ↓Iv.i_range2, ↓Iv.i_seq, ↓Iv.rgK_is, ↓Iv.rgK2_is, ↓Iv.itK_lst, ↓Iv.itK_tup, ↓Iv.o_add, ↓Iv.o_sub, ↓Iv.o_mul_l, ↓Iv.o_mul_r, ↓Iv.md600, ↓Iv.o_mod, ↓Iv.o_fdiv_s, ↓Iv.o_shl, ↓Iv.o_neg, ↓Iv.c_lt, ↓Iv.c_le, ↓Iv.c_gt, ↓Iv.c_ge, ↓Iv.c_eqI, ↓Iv.c_neI, ↓Iv.bl_K, ↓Iv.b_lenL, ↓Iv.b_lenT, ↓Iv.b_abs, ↓Iv.b_min2, ↓Iv.b_max2, ↓Iv.b_bits, ↓Iv.b_isaI_i, ↓Iv.b_isaI_b, ↓Iv.b_isaB_i, ↓Iv.b_isaB_b, ↓Iv.x_pick2, ↓Iv.x_pick3, ↓Iv.x_pick4, ↓Iv.x_pick5, ↓Iv.iteB_T, ↓Iv.iteB_F, ↓Iv.iteB_dT, ↓Iv.iteB_dF, ↓Iv.iteB_nT, ↓Iv.iteB_nF, ↓Iv.bodyF_is, ↓Iv.end_i, ↓Iv.end_b, ↓Iv.end_s, ↓Iv.end_iS, ↓Iv.end_iL, ↓Iv.end_own, ↓Iv.end_n, ↓Iv.end_r, ↓Iv.end_puI, ↓Iv.end_puB, ↓Iv.end_puT, ↓Iv.pw6, ↓Iv.pw9, ↓Iv.pw12, ↓Iv.pw18, ↓Iv.pw24, ↓Iv.pw30, ↓Iv.pw60, ↓Iv.pw600, ↓Iv.md600, ↓Iv.x_p0, ↓Iv.x_p1, ↓Iv.x_p2, ↓Iv.st_p0, ↓Iv.st_p2, ↓Iv.e_kidx, ↓Iv.e_kget, ↓Iv.e_dnew, ↓Iv.e_dfin, ↓Iv.kidx_hit, ↓Iv.kidx_miss, ↓Iv.c_strT, ↓Iv.c_strF, ↓Iv.c_nstrT, ↓Iv.c_nstrF, ↓Iv.c_isNs, ↓Iv.c_isNi, ↓Iv.c_isNt, ↓Iv.c_isNn, ↓Iv.b_isaT_t, ↓Iv.b_isaS_s, ↓Iv.b_lenS, ↓Iv.e_slice, ↓Iv.f_slc, ↓Iv.f_cat, ↓Iv.f_lst1, ↓Iv.f_comp, ↓Iv.turnC_k, ↓Iv.wipeK_0, ↓Iv.wipeK_s, ↓Iv.unsetK_0, ↓Iv.unsetK_s, ↓Iv.p_nm, ↓Iv.p_tup, ↓Iv.ps_0, ↓Iv.ps_s, ↓Iv.addK_n, ↓Iv.addK_s, ↓Iv.ifs_nil, ↓Iv.ifs_one, ↓Iv.optK_some, ↓Iv.partK_i, ↓Iv.s_app, ↓Iv.s_setF, ↓Iv.s_setA, ↓Iv.s_dext, ↓Iv.dctK_fin, ↓Iv.chkK_T, ↓Iv.o_aug_add, ↓Iv.o_aug_sub, ↓Iv.b_int1, ↓Iv.b_int1b, ↓Iv.b_tup1, ↓Iv.b_tup1t, ↓Iv.comp_nil, ↓Iv.comp_k, ↓Iv.i_zipS, ↓Iv.i_enumS, ↓Iv.xt_0, ↓Iv.xt_1, ↓Iv.xt_2, ↓Iv.xt_3, ↓Iv.xt_4, ↓Iv.xt_5, ↓Iv.xl_0, ↓Iv.xl_1, ↓Iv.xl_2, ↓Iv.xl_3, ↓Iv.xl_4, ↓Iv.o_addT, ↓Iv.b_divmod, ↓bnd_of parts_noise, ↓b_sum0, Bool.not_true, Bool.not_false, decide_true, decide_false, eq_self, List.cons_append, List.nil_append]
  rfl
theorem size_shift {k : Nat} {a b t l : Int} {h : AH} : run T (k + 3) f_size_of [shiftD a b (noiseD t l), .dct false [] []] h = some (.int 2, h) := by
  rw [run_eq (fn := t_size_of.fn) rfl rfl]
  show bnd (semSs _ b_size_of [some (shiftD a b (noiseD t l)), some (.dct false [] []), none, none]) (endK .cut h) _ = _
  unfold b_size_of
  simp -implicitDefEqProofs (disch := first | omega | decide +kernel | exact rfl | (simp only [List.length_cons, List.length_nil]; decide +kernel)) only [↓Iv.slotK_0, ↓Iv.slotK_s, ↓Iv.setK_0, ↓Iv.setK_s, ↓Iv.nthK_0, ↓Iv.nthK_s, ↓Iv.permK_0, ↓Iv.permK_s, ↓Iv.e_v, ↓Iv.e_c, ↓Iv.e_tup, ↓Iv.e_lstv, ↓Iv.e_alloc, ↓Iv.e_bin, ↓Iv.e_neg, ↓Iv.e_cmp, ↓Iv.e_chain, ↓Iv.e_and, ↓Iv.e_or, ↓Iv.e_notK, ↓Iv.notK_T, ↓Iv.notK_F, ↓Iv.e_ite, ↓Iv.e_idx, ↓Iv.e_call, ↓Iv.e_bi, ↓Iv.es_nil, ↓Iv.es_cons, ↓Iv.f_disp, ↓Iv.new_3, ↓Iv.new_0, ↓Iv.sz_0, ↓Iv.sz_1, ↓Iv.sz_2, ↓Iv.sz_3, ↓Iv.sz_4, ↓Iv.sz_5, ↓Iv.sz_6, ↓Iv.sz_7, ↓Iv.sz_8, ↓Iv.sz_9, ↓Iv.sz_10, ↓Iv.sz_11, ↓Iv.sz_12, ↓Iv.sz_13, ↓Iv.sz_14, ↓Iv.t_nm, ↓Iv.t_tup, ↓Iv.t_lst, ↓Iv.t_sub, ↓Iv.ts_nil, ↓Iv.ts_cons, ↓Iv.ss_nil, ↓Iv.ss_cons, ↓Iv.seqK_rt, ↓Iv.seqK_nx, ↓Iv.s_asg, ↓Iv.s_aug, ↓Iv.s_expr, ↓Iv.s_ret, ↓Iv.s_retN, ↓Iv.s_pass, ↓Iv.s_ite, ↓Iv.s_for, ↓Iv.i_range1, ↓Iv.i_range2, ↓Iv.i_seq, ↓Iv.rgK_is, ↓Iv.rgK2_is, ↓Iv.itK_lst, ↓Iv.itK_tup, ↓Iv.o_add, ↓Iv.o_sub, ↓Iv.o_mul_l, ↓Iv.o_mul_r, ↓Iv.md600, ↓Iv.o_mod, ↓Iv.o_fdiv_s, ↓Iv.o_shl, ↓Iv.o_neg, ↓Iv.c_lt, ↓Iv.c_le, ↓Iv.c_gt, ↓Iv.c_ge, ↓Iv.c_eqI, ↓Iv.c_neI, ↓Iv.bl_K, ↓Iv.b_lenL, ↓Iv.b_lenT, ↓Iv.b_abs, ↓Iv.b_min2, ↓Iv.b_max2, ↓Iv.b_bits, ↓Iv.b_isaI_i, ↓Iv.b_isaI_b, ↓Iv.b_isaB_i, ↓Iv.b_isaB_b, ↓Iv.x_pick2, ↓Iv.x_pick3, ↓Iv.x_pick4, ↓Iv.x_pick5, ↓Iv.iteB_T, ↓Iv.iteB_F, ↓Iv.iteB_dT, ↓Iv.iteB_dF, ↓Iv.iteB_nT, ↓Iv.iteB_nF, ↓Iv.bodyF_is, ↓Iv.end_i, ↓Iv.end_b, ↓Iv.end_s, ↓Iv.end_iS, ↓Iv.end_iL, ↓Iv.end_own, ↓Iv.end_n, ↓Iv.end_r, ↓Iv.end_puI, ↓Iv.end_puB, ↓Iv.end_puT, ↓Iv.pw6, ↓Iv.pw9, ↓Iv.pw12, ↓Iv.pw18, ↓Iv.pw24, ↓Iv.pw30, ↓Iv.pw60, ↓Iv.pw600, ↓Iv.md600, ↓Iv.x_p0, ↓Iv.x_p1, ↓Iv.x_p2, ↓Iv.st_p0, ↓Iv.st_p2, ↓Iv.e_kidx, ↓Iv.e_kget, ↓Iv.e_dnew, ↓Iv.e_dfin, ↓Iv.kidx_hit, ↓Iv.kidx_miss, ↓Iv.c_strT, ↓Iv.c_strF, ↓Iv.c_nstrT, ↓Iv.c_nstrF, ↓Iv.c_isNs, ↓Iv.c_isNi, ↓Iv.c_isNt, ↓Iv.c_isNn, ↓Iv.b_isaT_t, ↓Iv.b_isaS_s, ↓Iv.b_lenS, ↓Iv.e_slice, ↓Iv.f_slc, ↓Iv.f_cat, ↓Iv.f_lst1, ↓Iv.f_comp, ↓Iv.turnC_k, ↓Iv.wipeK_0, ↓Iv.wipeK_s, ↓Iv.unsetK_0, ↓Iv.unsetK_s, ↓Iv.p_nm, ↓Iv.p_tup, ↓Iv.ps_0, ↓Iv.ps_s, ↓Iv.addK_n, ↓Iv.addK_s, ↓Iv.ifs_nil, ↓Iv.ifs_one, ↓Iv.optK_some, ↓Iv.partK_i, ↓Iv.s_app, ↓Iv.s_setF, ↓Iv.s_setA, ↓Iv.s_dext, ↓Iv.dctK_fin, ↓Iv.chkK_T, ↓Iv.o_aug_add, ↓Iv.o_aug_sub, ↓Iv.b_int1, ↓Iv.b_int1b, ↓Iv.b_tup1, ↓Iv.b_tup1t, ↓Iv.comp_nil, ↓Iv.comp_k, ↓Iv.i_zipS, ↓Iv.i_enumS, ↓Iv.xt_0, ↓Iv.xt_1, ↓Iv.xt_2, ↓Iv.xt_3, ↓Iv.xt_4, ↓Iv.xt_5, ↓Iv.xl_0, ↓Iv.xl_1, ↓Iv.xl_2, ↓Iv.xl_3, ↓Iv.xl_4, ↓Iv.o_addT, ↓Iv.b_divmod, ↓bnd_of parts_shift, ↓bnd_of size_noise, ↓b_sum1, Bool.not_true, Bool.not_false, decide_true, decide_false, eq_self, List.cons_append, List.nil_append]
  rfl
/-- the step of a noise -/
abbrev stepD (t l dx dz : Int) : D := .tup [.str "noise", .int t, .int l, .int dx, .int dz]
theorem key_step {t l dx dz : Int} : D.kt (stepD t l dx dz) = some (.tup [.text "noise", .num t, .num l, .num dx, .num dz]) := rfl
theorem keep2 {h : AH} {m n : Nat} {t : Bool} {ks vs : List D} (es : List D) (_ : Unit) : ∀ c ns ds q, q < h.length → ((h.set m (.dct t ks vs)).set n (.lst es))[q]? = some (.ins c ns ds) → h[q]? = some (.ins c ns ds) := by
  intro c ns ds q hq he
  by_cases z1 : n = q
  · subst z1
    rw [List.getElem?_set_self (by simpa using hq)] at he
    cases he
  · rw [List.getElem?_set_ne z1] at he
    by_cases z2 : m = q
    · subst z2
      rw [List.getElem?_set_self hq] at he
      cases he
    · rwa [List.getElem?_set_ne z2] at he
theorem run_put0 {k n m : Nat} {t l dx dz : Int} {h : AH} (hn : h[n]? = some (.lst [])) (hm : h[m]? = some (.dct true [] [])) : run T (k + 1) f_put [.ref n, .ref m, stepD t l dx dz] h = some (.int 0, (h.set m (.dct true [stepD t l dx dz] [.int 0])).set n (.lst [stepD t l dx dz])) := by
  rw [run_eq (fn := t_put.fn) rfl rfl]
  show bnd (semSs _ b_put [some (.ref n), some (.ref m), some (stepD t l dx dz)]) (endK .cut h) _ = _
  unfold b_put
  have hk : keyOk true (stepD t l dx dz) = true := by simp only [keyOk, if_true, key_step, Option.isSome_some]
  have hb : keyB true (stepD t l dx dz) (stepD t l dx dz) = true := by simp only [keyB, if_true, key_step, decide_true]
  have hne : m ≠ n := by rintro rfl; rw [hn] at hm; cases hm
  have h1 : dputK true [] (stepD t l dx dz) = [stepD t l dx dz] := rfl
  have h2 : dputV true [] [] (stepD t l dx dz) (.int 0) = [.int 0] := rfl
  have hn2 : (h.set m (.dct true [stepD t l dx dz] [.int 0]))[n]? = some (.lst []) := by rw [List.getElem?_set_ne hne]; exact hn
  have hlm : m < h.length := (List.getElem?_eq_some_iff.mp hm).1
  have hm2 : ((h.set m (.dct true [stepD t l dx dz] [.int 0])).set n (.lst [stepD t l dx dz]))[m]? = some (.dct true [stepD t l dx dz] [.int 0]) := by rw [List.getElem?_set_ne (Ne.symm hne), List.getElem?_set_self hlm]
  have hd : dgetD true [stepD t l dx dz] [.int 0] (stepD t l dx dz) = some (.int 0) := by simp only [dgetD, hb, if_true]
  have hz : (0 : Nat) < sizeMax := by decide
  have hl : ∀ {κ : D → M D}, biK .len [.ref n] κ h = κ (.int 0) h := b_lenR hn
  simp -implicitDefEqProofs (disch := first | omega | decide +kernel | exact rfl | (simp only [List.length_cons, List.length_nil]; decide +kernel)) only [↓Iv.slotK_0, ↓Iv.slotK_s, ↓Iv.setK_0, ↓Iv.setK_s, ↓Iv.nthK_0, ↓Iv.nthK_s, ↓Iv.permK_0, ↓Iv.permK_s, ↓Iv.e_v, ↓Iv.e_c, ↓Iv.e_tup, ↓Iv.e_lstv, ↓Iv.e_alloc, ↓Iv.e_bin, ↓Iv.e_neg, ↓Iv.e_cmp, ↓Iv.e_chain, ↓Iv.e_and, ↓Iv.e_or, ↓Iv.e_notK, ↓Iv.notK_T, ↓Iv.notK_F, ↓Iv.e_ite, ↓Iv.e_idx, ↓Iv.e_call, ↓Iv.e_bi, ↓Iv.es_nil, ↓Iv.es_cons, ↓Iv.f_disp, ↓Iv.new_3, ↓Iv.new_0, ↓Iv.sz_0, ↓Iv.sz_1, ↓Iv.sz_2, ↓Iv.sz_3, ↓Iv.sz_4, ↓Iv.sz_5, ↓Iv.sz_6, ↓Iv.sz_7, ↓Iv.sz_8, ↓Iv.sz_9, ↓Iv.sz_10, ↓Iv.sz_11, ↓Iv.sz_12, ↓Iv.sz_13, ↓Iv.sz_14, ↓Iv.t_nm, ↓Iv.t_tup, ↓Iv.t_lst, ↓Iv.t_sub, ↓Iv.ts_nil, ↓Iv.ts_cons, ↓Iv.ss_nil, ↓Iv.ss_cons, ↓Iv.seqK_rt, ↓Iv.seqK_nx, ↓Iv.s_asg, ↓Iv.s_aug, ↓Iv.s_expr, ↓Iv.s_ret, ↓Iv.s_retN, ↓Iv.s_pass, ↓Iv.s_ite, ↓Iv.s_for, ↓Iv.i_range1, ↓Iv.i_range2, ↓Iv.i_seq, ↓Iv.rgK_is, ↓Iv.rgK2_is, ↓Iv.itK_lst, ↓Iv.itK_tup, ↓Iv.o_add, ↓Iv.o_sub, ↓Iv.o_mul_l, ↓Iv.o_mul_r, ↓Iv.md600, ↓Iv.o_mod, ↓Iv.o_fdiv_s, ↓Iv.o_shl, ↓Iv.o_neg, ↓Iv.c_lt, ↓Iv.c_le, ↓Iv.c_gt, ↓Iv.c_ge, ↓Iv.c_eqI, ↓Iv.c_neI, ↓Iv.bl_K, ↓Iv.b_lenL, ↓Iv.b_lenT, ↓Iv.b_abs, ↓Iv.b_min2, ↓Iv.b_max2, ↓Iv.b_bits, ↓Iv.b_isaI_i, ↓Iv.b_isaI_b, ↓Iv.b_isaB_i, ↓Iv.b_isaB_b, ↓Iv.x_pick2, ↓Iv.x_pick3, ↓Iv.x_pick4, ↓Iv.x_pick5, ↓Iv.iteB_T, ↓Iv.iteB_F, ↓Iv.iteB_dT, ↓Iv.iteB_dF, ↓Iv.iteB_nT, ↓Iv.iteB_nF, ↓Iv.bodyF_is, ↓Iv.end_i, ↓Iv.end_b, ↓Iv.end_s, ↓Iv.end_iS, ↓Iv.end_iL, ↓Iv.end_own, ↓Iv.end_n, ↓Iv.end_r, ↓Iv.end_puI, ↓Iv.end_puB, ↓Iv.end_puT, ↓Iv.pw6, ↓Iv.pw9, ↓Iv.pw12, ↓Iv.pw18, ↓Iv.pw24, ↓Iv.pw30, ↓Iv.pw60, ↓Iv.pw600, ↓Iv.md600, ↓Iv.x_p0, ↓Iv.x_p1, ↓Iv.x_p2, ↓Iv.st_p0, ↓Iv.st_p2, ↓Iv.e_kidx, ↓Iv.e_kget, ↓Iv.e_dnew, ↓Iv.e_dfin, ↓Iv.kidx_hit, ↓Iv.kidx_miss, ↓Iv.c_strT, ↓Iv.c_strF, ↓Iv.c_nstrT, ↓Iv.c_nstrF, ↓Iv.c_isNs, ↓Iv.c_isNi, ↓Iv.c_isNt, ↓Iv.c_isNn, ↓Iv.b_isaT_t, ↓Iv.b_isaS_s, ↓Iv.b_lenS, ↓Iv.e_slice, ↓Iv.f_slc, ↓Iv.f_cat, ↓Iv.f_lst1, ↓Iv.f_comp, ↓Iv.turnC_k, ↓Iv.wipeK_0, ↓Iv.wipeK_s, ↓Iv.unsetK_0, ↓Iv.unsetK_s, ↓Iv.p_nm, ↓Iv.p_tup, ↓Iv.ps_0, ↓Iv.ps_s, ↓Iv.addK_n, ↓Iv.addK_s, ↓Iv.ifs_nil, ↓Iv.ifs_one, ↓Iv.optK_some, ↓Iv.partK_i, ↓Iv.s_app, ↓Iv.s_setF, ↓Iv.s_setA, ↓Iv.s_dext, ↓Iv.dctK_fin, ↓Iv.chkK_T, ↓Iv.o_aug_add, ↓Iv.o_aug_sub, ↓Iv.b_int1, ↓Iv.b_int1b, ↓Iv.b_tup1, ↓Iv.b_tup1t, ↓Iv.comp_nil, ↓Iv.comp_k, ↓Iv.i_zipS, ↓Iv.i_enumS, ↓Iv.xt_0, ↓Iv.xt_1, ↓Iv.xt_2, ↓Iv.xt_3, ↓Iv.xt_4, ↓Iv.xt_5, ↓Iv.xl_0, ↓Iv.xl_1, ↓Iv.xl_2, ↓Iv.xl_3, ↓Iv.xl_4, ↓Iv.o_addT, ↓Iv.b_divmod, ↓notin_dref hm hk, dgetD, Option.isSome_none, ↓hl, ↓put_dref (v := .int 0) hm hk hz rfl rfl, h1, h2, ↓isL_is hn2, ↓app_ref (v := stepD t l dx dz) hn2 rfl hz, ↓x_dref hm2 hk hd, Bool.not_true, Bool.not_false, decide_true, decide_false, eq_self, List.cons_append, List.nil_append]
  exact end_rf rfl (by simp) (fun q c ns ds hq he => keep2 _ () c ns ds q hq he)
theorem into_noise {k n m : Nat} {t l dx dz : Int} {h : AH} (hn : h[n]? = some (.lst [])) (hm : h[m]? = some (.dct true [] [])) : run T (k + 2) f_steps_into [.ref n, .ref m, noiseD t l, .tup [.int dx, .int dz], .dct false [] []] h = some (.int 0, (h.set m (.dct true [stepD t l dx dz] [.int 0])).set n (.lst [stepD t l dx dz])) := by
  rw [run_eq (fn := t_steps_into.fn) rfl rfl]
  show bnd (semSs _ b_steps_into [some (.ref n), some (.ref m), some (noiseD t l), some (.tup [.int dx, .int dz]), some (.dct false [] []), none, none, none, none, none, none, none]) (endK .cut h) _ = _
  unfold b_steps_into
  have hk : ∀ c ns ds q, q < h.length → ((h.set m (.dct true [stepD t l dx dz] [.int 0])).set n (.lst [stepD t l dx dz]))[q]? = some (.ins c ns ds) → h[q]? = some (.ins c ns ds) := keep2 _ ()
  simp -implicitDefEqProofs (disch := first | omega | decide +kernel | exact rfl | (simp only [List.length_cons, List.length_nil]; decide +kernel)) only [↓Iv.slotK_0, ↓Iv.slotK_s, ↓Iv.setK_0, ↓Iv.setK_s, ↓Iv.nthK_0, ↓Iv.nthK_s, ↓Iv.permK_0, ↓Iv.permK_s, ↓Iv.e_v, ↓Iv.e_c, ↓Iv.e_tup, ↓Iv.e_lstv, ↓Iv.e_alloc, ↓Iv.e_bin, ↓Iv.e_neg, ↓Iv.e_cmp, ↓Iv.e_chain, ↓Iv.e_and, ↓Iv.e_or, ↓Iv.e_notK, ↓Iv.notK_T, ↓Iv.notK_F, ↓Iv.e_ite, ↓Iv.e_idx, ↓Iv.e_call, ↓Iv.e_bi, ↓Iv.es_nil, ↓Iv.es_cons, ↓Iv.f_disp, ↓Iv.new_3, ↓Iv.new_0, ↓Iv.sz_0, ↓Iv.sz_1, ↓Iv.sz_2, ↓Iv.sz_3, ↓Iv.sz_4, ↓Iv.sz_5, ↓Iv.sz_6, ↓Iv.sz_7, ↓Iv.sz_8, ↓Iv.sz_9, ↓Iv.sz_10, ↓Iv.sz_11, ↓Iv.sz_12, ↓Iv.sz_13, ↓Iv.sz_14, ↓Iv.t_nm, ↓Iv.t_tup, ↓Iv.t_lst, ↓Iv.t_sub, ↓Iv.ts_nil, ↓Iv.ts_cons, ↓Iv.ss_nil, ↓Iv.ss_cons, ↓Iv.seqK_rt, ↓Iv.seqK_nx, ↓Iv.s_asg, ↓Iv.s_aug, ↓Iv.s_expr, ↓Iv.s_ret, ↓Iv.s_retN, ↓Iv.s_pass, ↓Iv.s_ite, ↓Iv.s_for, ↓Iv.i_range1, ↓Iv.i_range2, ↓Iv.i_seq, ↓Iv.rgK_is, ↓Iv.rgK2_is, ↓Iv.itK_lst, ↓Iv.itK_tup, ↓Iv.o_add, ↓Iv.o_sub, ↓Iv.o_mul_l, ↓Iv.o_mul_r, ↓Iv.md600, ↓Iv.o_mod, ↓Iv.o_fdiv_s, ↓Iv.o_shl, ↓Iv.o_neg, ↓Iv.c_lt, ↓Iv.c_le, ↓Iv.c_gt, ↓Iv.c_ge, ↓Iv.c_eqI, ↓Iv.c_neI, ↓Iv.bl_K, ↓Iv.b_lenL, ↓Iv.b_lenT, ↓Iv.b_abs, ↓Iv.b_min2, ↓Iv.b_max2, ↓Iv.b_bits, ↓Iv.b_isaI_i, ↓Iv.b_isaI_b, ↓Iv.b_isaB_i, ↓Iv.b_isaB_b, ↓Iv.x_pick2, ↓Iv.x_pick3, ↓Iv.x_pick4, ↓Iv.x_pick5, ↓Iv.iteB_T, ↓Iv.iteB_F, ↓Iv.iteB_dT, ↓Iv.iteB_dF, ↓Iv.iteB_nT, ↓Iv.iteB_nF, ↓Iv.bodyF_is, ↓Iv.end_i, ↓Iv.end_b, ↓Iv.end_s, ↓Iv.end_iS, ↓Iv.end_iL, ↓Iv.end_own, ↓Iv.end_n, ↓Iv.end_r, ↓Iv.end_puI, ↓Iv.end_puB, ↓Iv.end_puT, ↓Iv.pw6, ↓Iv.pw9, ↓Iv.pw12, ↓Iv.pw18, ↓Iv.pw24, ↓Iv.pw30, ↓Iv.pw60, ↓Iv.pw600, ↓Iv.md600, ↓Iv.x_p0, ↓Iv.x_p1, ↓Iv.x_p2, ↓Iv.st_p0, ↓Iv.st_p2, ↓Iv.e_kidx, ↓Iv.e_kget, ↓Iv.e_dnew, ↓Iv.e_dfin, ↓Iv.kidx_hit, ↓Iv.kidx_miss, ↓Iv.c_strT, ↓Iv.c_strF, ↓Iv.c_nstrT, ↓Iv.c_nstrF, ↓Iv.c_isNs, ↓Iv.c_isNi, ↓Iv.c_isNt, ↓Iv.c_isNn, ↓Iv.b_isaT_t, ↓Iv.b_isaS_s, ↓Iv.b_lenS, ↓Iv.e_slice, ↓Iv.f_slc, ↓Iv.f_cat, ↓Iv.f_lst1, ↓Iv.f_comp, ↓Iv.turnC_k, ↓Iv.wipeK_0, ↓Iv.wipeK_s, ↓Iv.unsetK_0, ↓Iv.unsetK_s, ↓Iv.p_nm, ↓Iv.p_tup, ↓Iv.ps_0, ↓Iv.ps_s, ↓Iv.addK_n, ↓Iv.addK_s, ↓Iv.ifs_nil, ↓Iv.ifs_one, ↓Iv.optK_some, ↓Iv.partK_i, ↓Iv.s_app, ↓Iv.s_setF, ↓Iv.s_setA, ↓Iv.s_dext, ↓Iv.dctK_fin, ↓Iv.chkK_T, ↓Iv.o_aug_add, ↓Iv.o_aug_sub, ↓Iv.b_int1, ↓Iv.b_int1b, ↓Iv.b_tup1, ↓Iv.b_tup1t, ↓Iv.comp_nil, ↓Iv.comp_k, ↓Iv.i_zipS, ↓Iv.i_enumS, ↓Iv.xt_0, ↓Iv.xt_1, ↓Iv.xt_2, ↓Iv.xt_3, ↓Iv.xt_4, ↓Iv.xt_5, ↓Iv.xl_0, ↓Iv.xl_1, ↓Iv.xl_2, ↓Iv.xl_3, ↓Iv.xl_4, ↓Iv.o_addT, ↓Iv.b_divmod, ↓bnd_of (run_put0 hn hm), Bool.not_true, Bool.not_false, decide_true, decide_false, eq_self, List.cons_append, List.nil_append]
  exact end_rf rfl (by simp) (fun q c ns ds hq he => hk c ns ds q hq he)
theorem into_shift {k n m : Nat} {a b t l dx dz : Int} {h : AH} (hn : h[n]? = some (.lst [])) (hm : h[m]? = some (.dct true [] [])) : run T (k + 3) f_steps_into [.ref n, .ref m, shiftD a b (noiseD t l), .tup [.int dx, .int dz], .dct false [] []] h = some (.int 0, (h.set m (.dct true [stepD t l (dx + a) (dz + b)] [.int 0])).set n (.lst [stepD t l (dx + a) (dz + b)])) := by
  rw [run_eq (fn := t_steps_into.fn) rfl rfl]
  show bnd (semSs _ b_steps_into [some (.ref n), some (.ref m), some (shiftD a b (noiseD t l)), some (.tup [.int dx, .int dz]), some (.dct false [] []), none, none, none, none, none, none, none]) (endK .cut h) _ = _
  unfold b_steps_into
  simp -implicitDefEqProofs (disch := first | omega | decide +kernel | exact rfl | (simp only [List.length_cons, List.length_nil]; decide +kernel)) only [↓Iv.slotK_0, ↓Iv.slotK_s, ↓Iv.setK_0, ↓Iv.setK_s, ↓Iv.nthK_0, ↓Iv.nthK_s, ↓Iv.permK_0, ↓Iv.permK_s, ↓Iv.e_v, ↓Iv.e_c, ↓Iv.e_tup, ↓Iv.e_lstv, ↓Iv.e_alloc, ↓Iv.e_bin, ↓Iv.e_neg, ↓Iv.e_cmp, ↓Iv.e_chain, ↓Iv.e_and, ↓Iv.e_or, ↓Iv.e_notK, ↓Iv.notK_T, ↓Iv.notK_F, ↓Iv.e_ite, ↓Iv.e_idx, ↓Iv.e_call, ↓Iv.e_bi, ↓Iv.es_nil, ↓Iv.es_cons, ↓Iv.f_disp, ↓Iv.new_3, ↓Iv.new_0, ↓Iv.sz_0, ↓Iv.sz_1, ↓Iv.sz_2, ↓Iv.sz_3, ↓Iv.sz_4, ↓Iv.sz_5, ↓Iv.sz_6, ↓Iv.sz_7, ↓Iv.sz_8, ↓Iv.sz_9, ↓Iv.sz_10, ↓Iv.sz_11, ↓Iv.sz_12, ↓Iv.sz_13, ↓Iv.sz_14, ↓Iv.t_nm, ↓Iv.t_tup, ↓Iv.t_lst, ↓Iv.t_sub, ↓Iv.ts_nil, ↓Iv.ts_cons, ↓Iv.ss_nil, ↓Iv.ss_cons, ↓Iv.seqK_rt, ↓Iv.seqK_nx, ↓Iv.s_asg, ↓Iv.s_aug, ↓Iv.s_expr, ↓Iv.s_ret, ↓Iv.s_retN, ↓Iv.s_pass, ↓Iv.s_ite, ↓Iv.s_for, ↓Iv.i_range1, ↓Iv.i_range2, ↓Iv.i_seq, ↓Iv.rgK_is, ↓Iv.rgK2_is, ↓Iv.itK_lst, ↓Iv.itK_tup, ↓Iv.o_add, ↓Iv.o_sub, ↓Iv.o_mul_l, ↓Iv.o_mul_r, ↓Iv.md600, ↓Iv.o_mod, ↓Iv.o_fdiv_s, ↓Iv.o_shl, ↓Iv.o_neg, ↓Iv.c_lt, ↓Iv.c_le, ↓Iv.c_gt, ↓Iv.c_ge, ↓Iv.c_eqI, ↓Iv.c_neI, ↓Iv.bl_K, ↓Iv.b_lenL, ↓Iv.b_lenT, ↓Iv.b_abs, ↓Iv.b_min2, ↓Iv.b_max2, ↓Iv.b_bits, ↓Iv.b_isaI_i, ↓Iv.b_isaI_b, ↓Iv.b_isaB_i, ↓Iv.b_isaB_b, ↓Iv.x_pick2, ↓Iv.x_pick3, ↓Iv.x_pick4, ↓Iv.x_pick5, ↓Iv.iteB_T, ↓Iv.iteB_F, ↓Iv.iteB_dT, ↓Iv.iteB_dF, ↓Iv.iteB_nT, ↓Iv.iteB_nF, ↓Iv.bodyF_is, ↓Iv.end_i, ↓Iv.end_b, ↓Iv.end_s, ↓Iv.end_iS, ↓Iv.end_iL, ↓Iv.end_own, ↓Iv.end_n, ↓Iv.end_r, ↓Iv.end_puI, ↓Iv.end_puB, ↓Iv.end_puT, ↓Iv.pw6, ↓Iv.pw9, ↓Iv.pw12, ↓Iv.pw18, ↓Iv.pw24, ↓Iv.pw30, ↓Iv.pw60, ↓Iv.pw600, ↓Iv.md600, ↓Iv.x_p0, ↓Iv.x_p1, ↓Iv.x_p2, ↓Iv.st_p0, ↓Iv.st_p2, ↓Iv.e_kidx, ↓Iv.e_kget, ↓Iv.e_dnew, ↓Iv.e_dfin, ↓Iv.kidx_hit, ↓Iv.kidx_miss, ↓Iv.c_strT, ↓Iv.c_strF, ↓Iv.c_nstrT, ↓Iv.c_nstrF, ↓Iv.c_isNs, ↓Iv.c_isNi, ↓Iv.c_isNt, ↓Iv.c_isNn, ↓Iv.b_isaT_t, ↓Iv.b_isaS_s, ↓Iv.b_lenS, ↓Iv.e_slice, ↓Iv.f_slc, ↓Iv.f_cat, ↓Iv.f_lst1, ↓Iv.f_comp, ↓Iv.turnC_k, ↓Iv.wipeK_0, ↓Iv.wipeK_s, ↓Iv.unsetK_0, ↓Iv.unsetK_s, ↓Iv.p_nm, ↓Iv.p_tup, ↓Iv.ps_0, ↓Iv.ps_s, ↓Iv.addK_n, ↓Iv.addK_s, ↓Iv.ifs_nil, ↓Iv.ifs_one, ↓Iv.optK_some, ↓Iv.partK_i, ↓Iv.s_app, ↓Iv.s_setF, ↓Iv.s_setA, ↓Iv.s_dext, ↓Iv.dctK_fin, ↓Iv.chkK_T, ↓Iv.o_aug_add, ↓Iv.o_aug_sub, ↓Iv.b_int1, ↓Iv.b_int1b, ↓Iv.b_tup1, ↓Iv.b_tup1t, ↓Iv.comp_nil, ↓Iv.comp_k, ↓Iv.i_zipS, ↓Iv.i_enumS, ↓Iv.xt_0, ↓Iv.xt_1, ↓Iv.xt_2, ↓Iv.xt_3, ↓Iv.xt_4, ↓Iv.xt_5, ↓Iv.xl_0, ↓Iv.xl_1, ↓Iv.xl_2, ↓Iv.xl_3, ↓Iv.xl_4, ↓Iv.o_addT, ↓Iv.b_divmod, ↓bnd_of (into_noise hn hm), Bool.not_true, Bool.not_false, decide_true, decide_false, eq_self, List.cons_append, List.nil_append]
  exact end_rf rfl (by simp) (fun q c ns ds hq he => keep2 _ () c ns ds q hq he)
theorem in_noise {k : Nat} {t l : Int} {h : AH} : run T (k + 3) f_steps_in [noiseD t l] h = some (.lst [stepD t l 0 0], h) := by
  rw [run_eq (fn := t_steps_in.fn) rfl rfl]
  show bnd (semSs _ b_steps_in [some (noiseD t l), none]) (endK .cut h) _ = _
  unfold b_steps_in
  have e := into_noise (k := k) (n := h.length) (m := (h ++ [AO.lst []]).length) (t := t) (l := l) (dx := 0) (dz := 0) (h := h ++ [AO.lst []] ++ [AO.dct true [] []]) (by simp) (by simp)
  simp -implicitDefEqProofs (disch := first | omega | decide +kernel | exact rfl | (simp only [List.length_cons, List.length_nil]; decide +kernel)) only [↓Iv.slotK_0, ↓Iv.slotK_s, ↓Iv.setK_0, ↓Iv.setK_s, ↓Iv.nthK_0, ↓Iv.nthK_s, ↓Iv.permK_0, ↓Iv.permK_s, ↓Iv.e_v, ↓Iv.e_c, ↓Iv.e_tup, ↓Iv.e_lstv, ↓Iv.e_alloc, ↓Iv.e_bin, ↓Iv.e_neg, ↓Iv.e_cmp, ↓Iv.e_chain, ↓Iv.e_and, ↓Iv.e_or, ↓Iv.e_notK, ↓Iv.notK_T, ↓Iv.notK_F, ↓Iv.e_ite, ↓Iv.e_idx, ↓Iv.e_call, ↓Iv.e_bi, ↓Iv.es_nil, ↓Iv.es_cons, ↓Iv.f_disp, ↓Iv.new_3, ↓Iv.new_0, ↓Iv.sz_0, ↓Iv.sz_1, ↓Iv.sz_2, ↓Iv.sz_3, ↓Iv.sz_4, ↓Iv.sz_5, ↓Iv.sz_6, ↓Iv.sz_7, ↓Iv.sz_8, ↓Iv.sz_9, ↓Iv.sz_10, ↓Iv.sz_11, ↓Iv.sz_12, ↓Iv.sz_13, ↓Iv.sz_14, ↓Iv.t_nm, ↓Iv.t_tup, ↓Iv.t_lst, ↓Iv.t_sub, ↓Iv.ts_nil, ↓Iv.ts_cons, ↓Iv.ss_nil, ↓Iv.ss_cons, ↓Iv.seqK_rt, ↓Iv.seqK_nx, ↓Iv.s_asg, ↓Iv.s_aug, ↓Iv.s_expr, ↓Iv.s_ret, ↓Iv.s_retN, ↓Iv.s_pass, ↓Iv.s_ite, ↓Iv.s_for, ↓Iv.i_range1, ↓Iv.i_range2, ↓Iv.i_seq, ↓Iv.rgK_is, ↓Iv.rgK2_is, ↓Iv.itK_lst, ↓Iv.itK_tup, ↓Iv.o_add, ↓Iv.o_sub, ↓Iv.o_mul_l, ↓Iv.o_mul_r, ↓Iv.md600, ↓Iv.o_mod, ↓Iv.o_fdiv_s, ↓Iv.o_shl, ↓Iv.o_neg, ↓Iv.c_lt, ↓Iv.c_le, ↓Iv.c_gt, ↓Iv.c_ge, ↓Iv.c_eqI, ↓Iv.c_neI, ↓Iv.bl_K, ↓Iv.b_lenL, ↓Iv.b_lenT, ↓Iv.b_abs, ↓Iv.b_min2, ↓Iv.b_max2, ↓Iv.b_bits, ↓Iv.b_isaI_i, ↓Iv.b_isaI_b, ↓Iv.b_isaB_i, ↓Iv.b_isaB_b, ↓Iv.x_pick2, ↓Iv.x_pick3, ↓Iv.x_pick4, ↓Iv.x_pick5, ↓Iv.iteB_T, ↓Iv.iteB_F, ↓Iv.iteB_dT, ↓Iv.iteB_dF, ↓Iv.iteB_nT, ↓Iv.iteB_nF, ↓Iv.bodyF_is, ↓Iv.end_i, ↓Iv.end_b, ↓Iv.end_s, ↓Iv.end_iS, ↓Iv.end_iL, ↓Iv.end_own, ↓Iv.end_n, ↓Iv.end_r, ↓Iv.end_puI, ↓Iv.end_puB, ↓Iv.end_puT, ↓Iv.pw6, ↓Iv.pw9, ↓Iv.pw12, ↓Iv.pw18, ↓Iv.pw24, ↓Iv.pw30, ↓Iv.pw60, ↓Iv.pw600, ↓Iv.md600, ↓Iv.x_p0, ↓Iv.x_p1, ↓Iv.x_p2, ↓Iv.st_p0, ↓Iv.st_p2, ↓Iv.e_kidx, ↓Iv.e_kget, ↓Iv.e_dnew, ↓Iv.e_dfin, ↓Iv.kidx_hit, ↓Iv.kidx_miss, ↓Iv.c_strT, ↓Iv.c_strF, ↓Iv.c_nstrT, ↓Iv.c_nstrF, ↓Iv.c_isNs, ↓Iv.c_isNi, ↓Iv.c_isNt, ↓Iv.c_isNn, ↓Iv.b_isaT_t, ↓Iv.b_isaS_s, ↓Iv.b_lenS, ↓Iv.e_slice, ↓Iv.f_slc, ↓Iv.f_cat, ↓Iv.f_lst1, ↓Iv.f_comp, ↓Iv.turnC_k, ↓Iv.wipeK_0, ↓Iv.wipeK_s, ↓Iv.unsetK_0, ↓Iv.unsetK_s, ↓Iv.p_nm, ↓Iv.p_tup, ↓Iv.ps_0, ↓Iv.ps_s, ↓Iv.addK_n, ↓Iv.addK_s, ↓Iv.ifs_nil, ↓Iv.ifs_one, ↓Iv.optK_some, ↓Iv.partK_i, ↓Iv.s_app, ↓Iv.s_setF, ↓Iv.s_setA, ↓Iv.s_dext, ↓Iv.dctK_fin, ↓Iv.chkK_T, ↓Iv.o_aug_add, ↓Iv.o_aug_sub, ↓Iv.b_int1, ↓Iv.b_int1b, ↓Iv.b_tup1, ↓Iv.b_tup1t, ↓Iv.comp_nil, ↓Iv.comp_k, ↓Iv.i_zipS, ↓Iv.i_enumS, ↓Iv.xt_0, ↓Iv.xt_1, ↓Iv.xt_2, ↓Iv.xt_3, ↓Iv.xt_4, ↓Iv.xt_5, ↓Iv.xl_0, ↓Iv.xl_1, ↓Iv.xl_2, ↓Iv.xl_3, ↓Iv.xl_4, ↓Iv.o_addT, ↓Iv.b_divmod, ↓bnd_of e, Bool.not_true, Bool.not_false, decide_true, decide_false, eq_self, List.cons_append, List.nil_append]
  exact end_lstG rfl (by simp [List.set_append]) (by simp [List.set_append])
theorem in_shift {k : Nat} {a b t l : Int} {h : AH} : run T (k + 4) f_steps_in [shiftD a b (noiseD t l)] h = some (.lst [stepD t l (0 + a) (0 + b)], h) := by
  rw [run_eq (fn := t_steps_in.fn) rfl rfl]
  show bnd (semSs _ b_steps_in [some (shiftD a b (noiseD t l)), none]) (endK .cut h) _ = _
  unfold b_steps_in
  have e := into_shift (k := k) (n := h.length) (m := (h ++ [AO.lst []]).length) (a := a) (b := b) (t := t) (l := l) (dx := 0) (dz := 0) (h := h ++ [AO.lst []] ++ [AO.dct true [] []]) (by simp) (by simp)
  simp -implicitDefEqProofs (disch := first | omega | decide +kernel | exact rfl | (simp only [List.length_cons, List.length_nil]; decide +kernel)) only [↓Iv.slotK_0, ↓Iv.slotK_s, ↓Iv.setK_0, ↓Iv.setK_s, ↓Iv.nthK_0, ↓Iv.nthK_s, ↓Iv.permK_0, ↓Iv.permK_s, ↓Iv.e_v, ↓Iv.e_c, ↓Iv.e_tup, ↓Iv.e_lstv, ↓Iv.e_alloc, ↓Iv.e_bin, ↓Iv.e_neg, ↓Iv.e_cmp, ↓Iv.e_chain, ↓Iv.e_and, ↓Iv.e_or, ↓Iv.e_notK, ↓Iv.notK_T, ↓Iv.notK_F, ↓Iv.e_ite, ↓Iv.e_idx, ↓Iv.e_call, ↓Iv.e_bi, ↓Iv.es_nil, ↓Iv.es_cons, ↓Iv.f_disp, ↓Iv.new_3, ↓Iv.new_0, ↓Iv.sz_0, ↓Iv.sz_1, ↓Iv.sz_2, ↓Iv.sz_3, ↓Iv.sz_4, ↓Iv.sz_5, ↓Iv.sz_6, ↓Iv.sz_7, ↓Iv.sz_8, ↓Iv.sz_9, ↓Iv.sz_10, ↓Iv.sz_11, ↓Iv.sz_12, ↓Iv.sz_13, ↓Iv.sz_14, ↓Iv.t_nm, ↓Iv.t_tup, ↓Iv.t_lst, ↓Iv.t_sub, ↓Iv.ts_nil, ↓Iv.ts_cons, ↓Iv.ss_nil, ↓Iv.ss_cons, ↓Iv.seqK_rt, ↓Iv.seqK_nx, ↓Iv.s_asg, ↓Iv.s_aug, ↓Iv.s_expr, ↓Iv.s_ret, ↓Iv.s_retN, ↓Iv.s_pass, ↓Iv.s_ite, ↓Iv.s_for, ↓Iv.i_range1, ↓Iv.i_range2, ↓Iv.i_seq, ↓Iv.rgK_is, ↓Iv.rgK2_is, ↓Iv.itK_lst, ↓Iv.itK_tup, ↓Iv.o_add, ↓Iv.o_sub, ↓Iv.o_mul_l, ↓Iv.o_mul_r, ↓Iv.md600, ↓Iv.o_mod, ↓Iv.o_fdiv_s, ↓Iv.o_shl, ↓Iv.o_neg, ↓Iv.c_lt, ↓Iv.c_le, ↓Iv.c_gt, ↓Iv.c_ge, ↓Iv.c_eqI, ↓Iv.c_neI, ↓Iv.bl_K, ↓Iv.b_lenL, ↓Iv.b_lenT, ↓Iv.b_abs, ↓Iv.b_min2, ↓Iv.b_max2, ↓Iv.b_bits, ↓Iv.b_isaI_i, ↓Iv.b_isaI_b, ↓Iv.b_isaB_i, ↓Iv.b_isaB_b, ↓Iv.x_pick2, ↓Iv.x_pick3, ↓Iv.x_pick4, ↓Iv.x_pick5, ↓Iv.iteB_T, ↓Iv.iteB_F, ↓Iv.iteB_dT, ↓Iv.iteB_dF, ↓Iv.iteB_nT, ↓Iv.iteB_nF, ↓Iv.bodyF_is, ↓Iv.end_i, ↓Iv.end_b, ↓Iv.end_s, ↓Iv.end_iS, ↓Iv.end_iL, ↓Iv.end_own, ↓Iv.end_n, ↓Iv.end_r, ↓Iv.end_puI, ↓Iv.end_puB, ↓Iv.end_puT, ↓Iv.pw6, ↓Iv.pw9, ↓Iv.pw12, ↓Iv.pw18, ↓Iv.pw24, ↓Iv.pw30, ↓Iv.pw60, ↓Iv.pw600, ↓Iv.md600, ↓Iv.x_p0, ↓Iv.x_p1, ↓Iv.x_p2, ↓Iv.st_p0, ↓Iv.st_p2, ↓Iv.e_kidx, ↓Iv.e_kget, ↓Iv.e_dnew, ↓Iv.e_dfin, ↓Iv.kidx_hit, ↓Iv.kidx_miss, ↓Iv.c_strT, ↓Iv.c_strF, ↓Iv.c_nstrT, ↓Iv.c_nstrF, ↓Iv.c_isNs, ↓Iv.c_isNi, ↓Iv.c_isNt, ↓Iv.c_isNn, ↓Iv.b_isaT_t, ↓Iv.b_isaS_s, ↓Iv.b_lenS, ↓Iv.e_slice, ↓Iv.f_slc, ↓Iv.f_cat, ↓Iv.f_lst1, ↓Iv.f_comp, ↓Iv.turnC_k, ↓Iv.wipeK_0, ↓Iv.wipeK_s, ↓Iv.unsetK_0, ↓Iv.unsetK_s, ↓Iv.p_nm, ↓Iv.p_tup, ↓Iv.ps_0, ↓Iv.ps_s, ↓Iv.addK_n, ↓Iv.addK_s, ↓Iv.ifs_nil, ↓Iv.ifs_one, ↓Iv.optK_some, ↓Iv.partK_i, ↓Iv.s_app, ↓Iv.s_setF, ↓Iv.s_setA, ↓Iv.s_dext, ↓Iv.dctK_fin, ↓Iv.chkK_T, ↓Iv.o_aug_add, ↓Iv.o_aug_sub, ↓Iv.b_int1, ↓Iv.b_int1b, ↓Iv.b_tup1, ↓Iv.b_tup1t, ↓Iv.comp_nil, ↓Iv.comp_k, ↓Iv.i_zipS, ↓Iv.i_enumS, ↓Iv.xt_0, ↓Iv.xt_1, ↓Iv.xt_2, ↓Iv.xt_3, ↓Iv.xt_4, ↓Iv.xt_5, ↓Iv.xl_0, ↓Iv.xl_1, ↓Iv.xl_2, ↓Iv.xl_3, ↓Iv.xl_4, ↓Iv.o_addT, ↓Iv.b_divmod, ↓bnd_of e, Bool.not_true, Bool.not_false, decide_true, decide_false, eq_self, List.cons_append, List.nil_append]
  exact end_lstG rfl (by simp [List.set_append]) (by simp [List.set_append])
abbrev landD : D := .tup [.int (-1000000), .int (-1000000), .int 1000000, .int 1000000]
theorem manyW {l : Int} (l0 : 0 ≤ l) (l1 : l ≤ 8) (d : Int) : 7000 ≤ (1000000 + d) / wid l - (-1000000 + d) / wid l + 1 ∧ (1000000 + d) / wid l - (-1000000 + d) / wid l + 1 ≤ 2000002 := by
  have hb := wid_b l0 l1
  generalize wid l = w at *
  have h1 := Int.mul_ediv_add_emod (1000000 + d) w
  have h2 := Int.mul_ediv_add_emod (-1000000 + d) w
  have h3 := Int.emod_nonneg (1000000 + d) (b := w) (by omega)
  have h4 := Int.emod_lt_of_pos (1000000 + d) (b := w) (by omega)
  have h5 := Int.emod_nonneg (-1000000 + d) (b := w) (by omega)
  have h6 := Int.emod_lt_of_pos (-1000000 + d) (b := w) (by omega)
  generalize (1000000 + d) / w = A at *
  generalize (-1000000 + d) / w = B at *
  have e : w * (A - B) = w * A - w * B := Int.mul_sub ..
  refine ⟨?_, ?_⟩
  · by_cases c : 7000 ≤ A - B + 1
    · exact c
    · have := Int.mul_le_mul_of_nonneg_left (c := w) (show A - B ≤ 6998 by omega) (by omega)
      omega
  · by_cases c : A - B + 1 ≤ 2000002
    · exact c
    · have := Int.mul_le_mul_of_nonneg_left (c := w) (show 2000002 ≤ A - B by omega) (by omega)
      have h7 := Int.mul_le_mul_of_nonneg_right (c := 2000002) hb.1 (by decide)
      omega
theorem range_noise {k : Nat} {t l dx dz : Int} {h : AH} (l0 : 0 ≤ l) (l1 : l ≤ 8) : run T (k + 1) f_noise_range [.int 0, stepD t l dx dz, landD] h = some (.tup [.int 0, .int 65535], h) := by
  rw [run_eq (fn := t_noise_range.fn) rfl rfl]
  show bnd (semSs _ b_noise_range [some (.int 0), some (stepD t l dx dz), some (landD), none, none, none, none, none, none, none, none, none, none, none, none, none, none, none, none, none, none, none]) (endK .cut h) _ = _
  unfold b_noise_range
  have hb := wid_b l0 l1
  have hw : (1 : Int) * 2 ^ l.toNat = wid l := rfl
  have m1 := manyW l0 l1 dx
  have m2 := manyW l0 l1 dz
  have m3 : 7000 * 7000 ≤ ((1000000 + dx) / wid l - (-1000000 + dx) / wid l + 1) * ((1000000 + dz) / wid l - (-1000000 + dz) / wid l + 1) := Int.mul_le_mul m1.1 m2.1 (by decide) (by omega)
  simp -implicitDefEqProofs (disch := first | omega | decide +kernel | exact rfl | (simp only [List.length_cons, List.length_nil]; decide +kernel)) only [↓Iv.slotK_0, ↓Iv.slotK_s, ↓Iv.setK_0, ↓Iv.setK_s, ↓Iv.nthK_0, ↓Iv.nthK_s, ↓Iv.permK_0, ↓Iv.permK_s, ↓Iv.e_v, ↓Iv.e_c, ↓Iv.e_tup, ↓Iv.e_lstv, ↓Iv.e_alloc, ↓Iv.e_bin, ↓Iv.e_neg, ↓Iv.e_cmp, ↓Iv.e_chain, ↓Iv.e_and, ↓Iv.e_or, ↓Iv.e_notK, ↓Iv.notK_T, ↓Iv.notK_F, ↓Iv.e_ite, ↓Iv.e_idx, ↓Iv.e_call, ↓Iv.e_bi, ↓Iv.es_nil, ↓Iv.es_cons, ↓Iv.f_disp, ↓Iv.new_3, ↓Iv.new_0, ↓Iv.sz_0, ↓Iv.sz_1, ↓Iv.sz_2, ↓Iv.sz_3, ↓Iv.sz_4, ↓Iv.sz_5, ↓Iv.sz_6, ↓Iv.sz_7, ↓Iv.sz_8, ↓Iv.sz_9, ↓Iv.sz_10, ↓Iv.sz_11, ↓Iv.sz_12, ↓Iv.sz_13, ↓Iv.sz_14, ↓Iv.t_nm, ↓Iv.t_tup, ↓Iv.t_lst, ↓Iv.t_sub, ↓Iv.ts_nil, ↓Iv.ts_cons, ↓Iv.ss_nil, ↓Iv.ss_cons, ↓Iv.seqK_rt, ↓Iv.seqK_nx, ↓Iv.s_asg, ↓Iv.s_aug, ↓Iv.s_expr, ↓Iv.s_ret, ↓Iv.s_retN, ↓Iv.s_pass, ↓Iv.s_ite, ↓Iv.s_for, ↓Iv.i_range1, ↓Iv.i_range2, ↓Iv.i_seq, ↓Iv.rgK_is, ↓Iv.rgK2_is, ↓Iv.itK_lst, ↓Iv.itK_tup, ↓Iv.o_add, ↓Iv.o_sub, ↓Iv.o_mul_l, ↓Iv.o_mul_r, ↓Iv.md600, ↓Iv.o_mod, ↓Iv.o_fdiv_s, ↓Iv.o_shl, ↓Iv.o_neg, ↓Iv.c_lt, ↓Iv.c_le, ↓Iv.c_gt, ↓Iv.c_ge, ↓Iv.c_eqI, ↓Iv.c_neI, ↓Iv.bl_K, ↓Iv.b_lenL, ↓Iv.b_lenT, ↓Iv.b_abs, ↓Iv.b_min2, ↓Iv.b_max2, ↓Iv.b_bits, ↓Iv.b_isaI_i, ↓Iv.b_isaI_b, ↓Iv.b_isaB_i, ↓Iv.b_isaB_b, ↓Iv.x_pick2, ↓Iv.x_pick3, ↓Iv.x_pick4, ↓Iv.x_pick5, ↓Iv.iteB_T, ↓Iv.iteB_F, ↓Iv.iteB_dT, ↓Iv.iteB_dF, ↓Iv.iteB_nT, ↓Iv.iteB_nF, ↓Iv.bodyF_is, ↓Iv.end_i, ↓Iv.end_b, ↓Iv.end_s, ↓Iv.end_iS, ↓Iv.end_iL, ↓Iv.end_own, ↓Iv.end_n, ↓Iv.end_r, ↓Iv.end_puI, ↓Iv.end_puB, ↓Iv.end_puT, ↓Iv.pw6, ↓Iv.pw9, ↓Iv.pw12, ↓Iv.pw18, ↓Iv.pw24, ↓Iv.pw30, ↓Iv.pw60, ↓Iv.pw600, ↓Iv.md600, ↓Iv.x_p0, ↓Iv.x_p1, ↓Iv.x_p2, ↓Iv.st_p0, ↓Iv.st_p2, ↓Iv.e_kidx, ↓Iv.e_kget, ↓Iv.e_dnew, ↓Iv.e_dfin, ↓Iv.kidx_hit, ↓Iv.kidx_miss, ↓Iv.c_strT, ↓Iv.c_strF, ↓Iv.c_nstrT, ↓Iv.c_nstrF, ↓Iv.c_isNs, ↓Iv.c_isNi, ↓Iv.c_isNt, ↓Iv.c_isNn, ↓Iv.b_isaT_t, ↓Iv.b_isaS_s, ↓Iv.b_lenS, ↓Iv.e_slice, ↓Iv.f_slc, ↓Iv.f_cat, ↓Iv.f_lst1, ↓Iv.f_comp, ↓Iv.turnC_k, ↓Iv.wipeK_0, ↓Iv.wipeK_s, ↓Iv.unsetK_0, ↓Iv.unsetK_s, ↓Iv.p_nm, ↓Iv.p_tup, ↓Iv.ps_0, ↓Iv.ps_s, ↓Iv.addK_n, ↓Iv.addK_s, ↓Iv.ifs_nil, ↓Iv.ifs_one, ↓Iv.optK_some, ↓Iv.partK_i, ↓Iv.s_app, ↓Iv.s_setF, ↓Iv.s_setA, ↓Iv.s_dext, ↓Iv.dctK_fin, ↓Iv.chkK_T, ↓Iv.o_aug_add, ↓Iv.o_aug_sub, ↓Iv.b_int1, ↓Iv.b_int1b, ↓Iv.b_tup1, ↓Iv.b_tup1t, ↓Iv.comp_nil, ↓Iv.comp_k, ↓Iv.i_zipS, ↓Iv.i_enumS, ↓Iv.xt_0, ↓Iv.xt_1, ↓Iv.xt_2, ↓Iv.xt_3, ↓Iv.xt_4, ↓Iv.xt_5, ↓Iv.xl_0, ↓Iv.xl_1, ↓Iv.xl_2, ↓Iv.xl_3, ↓Iv.xl_4, ↓Iv.o_addT, ↓Iv.b_divmod, hw, Bool.not_true, Bool.not_false, decide_true, decide_false, eq_self, List.cons_append, List.nil_append]
theorem ranges_noise {k : Nat} {t l dx dz : Int} {h : AH} (l0 : 0 ≤ l) (l1 : l ≤ 8) : run T (k + 2) f_ranges_of [.lst [stepD t l dx dz], .int 0, landD] h = some (.lst [.tup [.int 0, .int 65535]], h) := by
  rw [run_eq (fn := t_ranges_of.fn) rfl rfl]
  show bnd (semSs _ b_ranges_of [some (.lst [stepD t l dx dz]), some (.int 0), some (landD), none, none, none, none, none, none, none]) (endK .cut h) _ = _
  unfold b_ranges_of
  have hn : (h ++ [AO.lst []])[h.length]? = some (.lst []) := by simp
  have hz : ([] : List D).length < sizeMax := by decide
  simp -implicitDefEqProofs (disch := first | omega | decide +kernel | exact rfl | (simp only [List.length_cons, List.length_nil]; decide +kernel)) only [↓Iv.slotK_0, ↓Iv.slotK_s, ↓Iv.setK_0, ↓Iv.setK_s, ↓Iv.nthK_0, ↓Iv.nthK_s, ↓Iv.permK_0, ↓Iv.permK_s, ↓Iv.e_v, ↓Iv.e_c, ↓Iv.e_tup, ↓Iv.e_lstv, ↓Iv.e_alloc, ↓Iv.e_bin, ↓Iv.e_neg, ↓Iv.e_cmp, ↓Iv.e_chain, ↓Iv.e_and, ↓Iv.e_or, ↓Iv.e_notK, ↓Iv.notK_T, ↓Iv.notK_F, ↓Iv.e_ite, ↓Iv.e_idx, ↓Iv.e_call, ↓Iv.e_bi, ↓Iv.es_nil, ↓Iv.es_cons, ↓Iv.f_disp, ↓Iv.new_3, ↓Iv.new_0, ↓Iv.sz_0, ↓Iv.sz_1, ↓Iv.sz_2, ↓Iv.sz_3, ↓Iv.sz_4, ↓Iv.sz_5, ↓Iv.sz_6, ↓Iv.sz_7, ↓Iv.sz_8, ↓Iv.sz_9, ↓Iv.sz_10, ↓Iv.sz_11, ↓Iv.sz_12, ↓Iv.sz_13, ↓Iv.sz_14, ↓Iv.t_nm, ↓Iv.t_tup, ↓Iv.t_lst, ↓Iv.t_sub, ↓Iv.ts_nil, ↓Iv.ts_cons, ↓Iv.ss_nil, ↓Iv.ss_cons, ↓Iv.seqK_rt, ↓Iv.seqK_nx, ↓Iv.s_asg, ↓Iv.s_aug, ↓Iv.s_expr, ↓Iv.s_ret, ↓Iv.s_retN, ↓Iv.s_pass, ↓Iv.s_ite, ↓Iv.s_for, ↓Iv.i_range1, ↓Iv.i_range2, ↓Iv.i_seq, ↓Iv.rgK_is, ↓Iv.rgK2_is, ↓Iv.itK_lst, ↓Iv.itK_tup, ↓Iv.o_add, ↓Iv.o_sub, ↓Iv.o_mul_l, ↓Iv.o_mul_r, ↓Iv.md600, ↓Iv.o_mod, ↓Iv.o_fdiv_s, ↓Iv.o_shl, ↓Iv.o_neg, ↓Iv.c_lt, ↓Iv.c_le, ↓Iv.c_gt, ↓Iv.c_ge, ↓Iv.c_eqI, ↓Iv.c_neI, ↓Iv.bl_K, ↓Iv.b_lenL, ↓Iv.b_lenT, ↓Iv.b_abs, ↓Iv.b_min2, ↓Iv.b_max2, ↓Iv.b_bits, ↓Iv.b_isaI_i, ↓Iv.b_isaI_b, ↓Iv.b_isaB_i, ↓Iv.b_isaB_b, ↓Iv.x_pick2, ↓Iv.x_pick3, ↓Iv.x_pick4, ↓Iv.x_pick5, ↓Iv.iteB_T, ↓Iv.iteB_F, ↓Iv.iteB_dT, ↓Iv.iteB_dF, ↓Iv.iteB_nT, ↓Iv.iteB_nF, ↓Iv.bodyF_is, ↓Iv.end_i, ↓Iv.end_b, ↓Iv.end_s, ↓Iv.end_iS, ↓Iv.end_iL, ↓Iv.end_own, ↓Iv.end_n, ↓Iv.end_r, ↓Iv.end_puI, ↓Iv.end_puB, ↓Iv.end_puT, ↓Iv.pw6, ↓Iv.pw9, ↓Iv.pw12, ↓Iv.pw18, ↓Iv.pw24, ↓Iv.pw30, ↓Iv.pw60, ↓Iv.pw600, ↓Iv.md600, ↓Iv.x_p0, ↓Iv.x_p1, ↓Iv.x_p2, ↓Iv.st_p0, ↓Iv.st_p2, ↓Iv.e_kidx, ↓Iv.e_kget, ↓Iv.e_dnew, ↓Iv.e_dfin, ↓Iv.kidx_hit, ↓Iv.kidx_miss, ↓Iv.c_strT, ↓Iv.c_strF, ↓Iv.c_nstrT, ↓Iv.c_nstrF, ↓Iv.c_isNs, ↓Iv.c_isNi, ↓Iv.c_isNt, ↓Iv.c_isNn, ↓Iv.b_isaT_t, ↓Iv.b_isaS_s, ↓Iv.b_lenS, ↓Iv.e_slice, ↓Iv.f_slc, ↓Iv.f_cat, ↓Iv.f_lst1, ↓Iv.f_comp, ↓Iv.turnC_k, ↓Iv.wipeK_0, ↓Iv.wipeK_s, ↓Iv.unsetK_0, ↓Iv.unsetK_s, ↓Iv.p_nm, ↓Iv.p_tup, ↓Iv.ps_0, ↓Iv.ps_s, ↓Iv.addK_n, ↓Iv.addK_s, ↓Iv.ifs_nil, ↓Iv.ifs_one, ↓Iv.optK_some, ↓Iv.partK_i, ↓Iv.s_app, ↓Iv.s_setF, ↓Iv.s_setA, ↓Iv.s_dext, ↓Iv.dctK_fin, ↓Iv.chkK_T, ↓Iv.o_aug_add, ↓Iv.o_aug_sub, ↓Iv.b_int1, ↓Iv.b_int1b, ↓Iv.b_tup1, ↓Iv.b_tup1t, ↓Iv.comp_nil, ↓Iv.comp_k, ↓Iv.i_zipS, ↓Iv.i_enumS, ↓Iv.xt_0, ↓Iv.xt_1, ↓Iv.xt_2, ↓Iv.xt_3, ↓Iv.xt_4, ↓Iv.xt_5, ↓Iv.xl_0, ↓Iv.xl_1, ↓Iv.xl_2, ↓Iv.xl_3, ↓Iv.xl_4, ↓Iv.o_addT, ↓Iv.b_divmod, ↓for_1, ↓for_0, ↓loopK_nx, ↓isL_is hn, ↓bnd_of (range_noise l0 l1), ↓app_ref (v := .tup [.int 0, .int 65535]) hn rfl hz, Bool.not_true, Bool.not_false, decide_true, decide_false, eq_self, List.cons_append, List.nil_append]
  exact end_lstG rfl (by simp [List.set_append]) (by simp [List.set_append])
theorem rules_noise {k : Nat} {t l : Int} {h : AH} (t0 : 0 ≤ t) (t1 : t ≤ 1000000000) (l0 : 0 ≤ l) (l1 : l ≤ 8) : run T (k + 4) f_must_rules [noiseD t l] h = some (.non, h) := by
  rw [run_eq (fn := t_must_rules.fn) rfl rfl]
  show bnd (semSs _ b_must_rules [some (noiseD t l), none, none]) (endK .cut h) _ = _
  unfold b_must_rules
  simp -implicitDefEqProofs (disch := first | omega | decide +kernel | exact rfl | (simp only [List.length_cons, List.length_nil]; decide +kernel)) only [↓Iv.slotK_0, ↓Iv.slotK_s, ↓Iv.setK_0, ↓Iv.setK_s, ↓Iv.nthK_0, ↓Iv.nthK_s, ↓Iv.permK_0, ↓Iv.permK_s, ↓Iv.e_v, ↓Iv.e_c, ↓Iv.e_tup, ↓Iv.e_lstv, ↓Iv.e_alloc, ↓Iv.e_bin, ↓Iv.e_neg, ↓Iv.e_cmp, ↓Iv.e_chain, ↓Iv.e_and, ↓Iv.e_or, ↓Iv.e_notK, ↓Iv.notK_T, ↓Iv.notK_F, ↓Iv.e_ite, ↓Iv.e_idx, ↓Iv.e_call, ↓Iv.e_bi, ↓Iv.es_nil, ↓Iv.es_cons, ↓Iv.f_disp, ↓Iv.new_3, ↓Iv.new_0, ↓Iv.sz_0, ↓Iv.sz_1, ↓Iv.sz_2, ↓Iv.sz_3, ↓Iv.sz_4, ↓Iv.sz_5, ↓Iv.sz_6, ↓Iv.sz_7, ↓Iv.sz_8, ↓Iv.sz_9, ↓Iv.sz_10, ↓Iv.sz_11, ↓Iv.sz_12, ↓Iv.sz_13, ↓Iv.sz_14, ↓Iv.t_nm, ↓Iv.t_tup, ↓Iv.t_lst, ↓Iv.t_sub, ↓Iv.ts_nil, ↓Iv.ts_cons, ↓Iv.ss_nil, ↓Iv.ss_cons, ↓Iv.seqK_rt, ↓Iv.seqK_nx, ↓Iv.s_asg, ↓Iv.s_aug, ↓Iv.s_expr, ↓Iv.s_ret, ↓Iv.s_retN, ↓Iv.s_pass, ↓Iv.s_ite, ↓Iv.s_for, ↓Iv.i_range1, ↓Iv.i_range2, ↓Iv.i_seq, ↓Iv.rgK_is, ↓Iv.rgK2_is, ↓Iv.itK_lst, ↓Iv.itK_tup, ↓Iv.o_add, ↓Iv.o_sub, ↓Iv.o_mul_l, ↓Iv.o_mul_r, ↓Iv.md600, ↓Iv.o_mod, ↓Iv.o_fdiv_s, ↓Iv.o_shl, ↓Iv.o_neg, ↓Iv.c_lt, ↓Iv.c_le, ↓Iv.c_gt, ↓Iv.c_ge, ↓Iv.c_eqI, ↓Iv.c_neI, ↓Iv.bl_K, ↓Iv.b_lenL, ↓Iv.b_lenT, ↓Iv.b_abs, ↓Iv.b_min2, ↓Iv.b_max2, ↓Iv.b_bits, ↓Iv.b_isaI_i, ↓Iv.b_isaI_b, ↓Iv.b_isaB_i, ↓Iv.b_isaB_b, ↓Iv.x_pick2, ↓Iv.x_pick3, ↓Iv.x_pick4, ↓Iv.x_pick5, ↓Iv.iteB_T, ↓Iv.iteB_F, ↓Iv.iteB_dT, ↓Iv.iteB_dF, ↓Iv.iteB_nT, ↓Iv.iteB_nF, ↓Iv.bodyF_is, ↓Iv.end_i, ↓Iv.end_b, ↓Iv.end_s, ↓Iv.end_iS, ↓Iv.end_iL, ↓Iv.end_own, ↓Iv.end_n, ↓Iv.end_r, ↓Iv.end_puI, ↓Iv.end_puB, ↓Iv.end_puT, ↓Iv.pw6, ↓Iv.pw9, ↓Iv.pw12, ↓Iv.pw18, ↓Iv.pw24, ↓Iv.pw30, ↓Iv.pw60, ↓Iv.pw600, ↓Iv.md600, ↓Iv.x_p0, ↓Iv.x_p1, ↓Iv.x_p2, ↓Iv.st_p0, ↓Iv.st_p2, ↓Iv.e_kidx, ↓Iv.e_kget, ↓Iv.e_dnew, ↓Iv.e_dfin, ↓Iv.kidx_hit, ↓Iv.kidx_miss, ↓Iv.c_strT, ↓Iv.c_strF, ↓Iv.c_nstrT, ↓Iv.c_nstrF, ↓Iv.c_isNs, ↓Iv.c_isNi, ↓Iv.c_isNt, ↓Iv.c_isNn, ↓Iv.b_isaT_t, ↓Iv.b_isaS_s, ↓Iv.b_lenS, ↓Iv.e_slice, ↓Iv.f_slc, ↓Iv.f_cat, ↓Iv.f_lst1, ↓Iv.f_comp, ↓Iv.turnC_k, ↓Iv.wipeK_0, ↓Iv.wipeK_s, ↓Iv.unsetK_0, ↓Iv.unsetK_s, ↓Iv.p_nm, ↓Iv.p_tup, ↓Iv.ps_0, ↓Iv.ps_s, ↓Iv.addK_n, ↓Iv.addK_s, ↓Iv.ifs_nil, ↓Iv.ifs_one, ↓Iv.optK_some, ↓Iv.partK_i, ↓Iv.s_app, ↓Iv.s_setF, ↓Iv.s_setA, ↓Iv.s_dext, ↓Iv.dctK_fin, ↓Iv.chkK_T, ↓Iv.o_aug_add, ↓Iv.o_aug_sub, ↓Iv.b_int1, ↓Iv.b_int1b, ↓Iv.b_tup1, ↓Iv.b_tup1t, ↓Iv.comp_nil, ↓Iv.comp_k, ↓Iv.i_zipS, ↓Iv.i_enumS, ↓Iv.xt_0, ↓Iv.xt_1, ↓Iv.xt_2, ↓Iv.xt_3, ↓Iv.xt_4, ↓Iv.xt_5, ↓Iv.xl_0, ↓Iv.xl_1, ↓Iv.xl_2, ↓Iv.xl_3, ↓Iv.xl_4, ↓Iv.o_addT, ↓Iv.b_divmod, ↓bnd_of (field_noise (k := k) (t := t) (l := l) (p := .nil) (h := h) t0 t1 l0 l1), ↓bnd_of size_noise, ↓bnd_of in_noise, ↓bnd_of (ranges_noise l0 l1), ↓for_1, ↓for_0, ↓loopK_nx, Bool.not_true, Bool.not_false, decide_true, decide_false, eq_self, List.cons_append, List.nil_append]
theorem rules_shift {k : Nat} {a b t l : Int} {h : AH} (t0 : 0 ≤ t) (t1 : t ≤ 1000000000) (l0 : 0 ≤ l) (l1 : l ≤ 8) (a0 : -1000 ≤ a) (a1 : a ≤ 1000) (b0 : -1000 ≤ b) (b1 : b ≤ 1000) : run T (k + 6) f_must_rules [shiftD a b (noiseD t l)] h = some (.non, h) := by
  rw [run_eq (fn := t_must_rules.fn) rfl rfl]
  show bnd (semSs _ b_must_rules [some (shiftD a b (noiseD t l)), none, none]) (endK .cut h) _ = _
  unfold b_must_rules
  simp -implicitDefEqProofs (disch := first | omega | decide +kernel | exact rfl | (simp only [List.length_cons, List.length_nil]; decide +kernel)) only [↓Iv.slotK_0, ↓Iv.slotK_s, ↓Iv.setK_0, ↓Iv.setK_s, ↓Iv.nthK_0, ↓Iv.nthK_s, ↓Iv.permK_0, ↓Iv.permK_s, ↓Iv.e_v, ↓Iv.e_c, ↓Iv.e_tup, ↓Iv.e_lstv, ↓Iv.e_alloc, ↓Iv.e_bin, ↓Iv.e_neg, ↓Iv.e_cmp, ↓Iv.e_chain, ↓Iv.e_and, ↓Iv.e_or, ↓Iv.e_notK, ↓Iv.notK_T, ↓Iv.notK_F, ↓Iv.e_ite, ↓Iv.e_idx, ↓Iv.e_call, ↓Iv.e_bi, ↓Iv.es_nil, ↓Iv.es_cons, ↓Iv.f_disp, ↓Iv.new_3, ↓Iv.new_0, ↓Iv.sz_0, ↓Iv.sz_1, ↓Iv.sz_2, ↓Iv.sz_3, ↓Iv.sz_4, ↓Iv.sz_5, ↓Iv.sz_6, ↓Iv.sz_7, ↓Iv.sz_8, ↓Iv.sz_9, ↓Iv.sz_10, ↓Iv.sz_11, ↓Iv.sz_12, ↓Iv.sz_13, ↓Iv.sz_14, ↓Iv.t_nm, ↓Iv.t_tup, ↓Iv.t_lst, ↓Iv.t_sub, ↓Iv.ts_nil, ↓Iv.ts_cons, ↓Iv.ss_nil, ↓Iv.ss_cons, ↓Iv.seqK_rt, ↓Iv.seqK_nx, ↓Iv.s_asg, ↓Iv.s_aug, ↓Iv.s_expr, ↓Iv.s_ret, ↓Iv.s_retN, ↓Iv.s_pass, ↓Iv.s_ite, ↓Iv.s_for, ↓Iv.i_range1, ↓Iv.i_range2, ↓Iv.i_seq, ↓Iv.rgK_is, ↓Iv.rgK2_is, ↓Iv.itK_lst, ↓Iv.itK_tup, ↓Iv.o_add, ↓Iv.o_sub, ↓Iv.o_mul_l, ↓Iv.o_mul_r, ↓Iv.md600, ↓Iv.o_mod, ↓Iv.o_fdiv_s, ↓Iv.o_shl, ↓Iv.o_neg, ↓Iv.c_lt, ↓Iv.c_le, ↓Iv.c_gt, ↓Iv.c_ge, ↓Iv.c_eqI, ↓Iv.c_neI, ↓Iv.bl_K, ↓Iv.b_lenL, ↓Iv.b_lenT, ↓Iv.b_abs, ↓Iv.b_min2, ↓Iv.b_max2, ↓Iv.b_bits, ↓Iv.b_isaI_i, ↓Iv.b_isaI_b, ↓Iv.b_isaB_i, ↓Iv.b_isaB_b, ↓Iv.x_pick2, ↓Iv.x_pick3, ↓Iv.x_pick4, ↓Iv.x_pick5, ↓Iv.iteB_T, ↓Iv.iteB_F, ↓Iv.iteB_dT, ↓Iv.iteB_dF, ↓Iv.iteB_nT, ↓Iv.iteB_nF, ↓Iv.bodyF_is, ↓Iv.end_i, ↓Iv.end_b, ↓Iv.end_s, ↓Iv.end_iS, ↓Iv.end_iL, ↓Iv.end_own, ↓Iv.end_n, ↓Iv.end_r, ↓Iv.end_puI, ↓Iv.end_puB, ↓Iv.end_puT, ↓Iv.pw6, ↓Iv.pw9, ↓Iv.pw12, ↓Iv.pw18, ↓Iv.pw24, ↓Iv.pw30, ↓Iv.pw60, ↓Iv.pw600, ↓Iv.md600, ↓Iv.x_p0, ↓Iv.x_p1, ↓Iv.x_p2, ↓Iv.st_p0, ↓Iv.st_p2, ↓Iv.e_kidx, ↓Iv.e_kget, ↓Iv.e_dnew, ↓Iv.e_dfin, ↓Iv.kidx_hit, ↓Iv.kidx_miss, ↓Iv.c_strT, ↓Iv.c_strF, ↓Iv.c_nstrT, ↓Iv.c_nstrF, ↓Iv.c_isNs, ↓Iv.c_isNi, ↓Iv.c_isNt, ↓Iv.c_isNn, ↓Iv.b_isaT_t, ↓Iv.b_isaS_s, ↓Iv.b_lenS, ↓Iv.e_slice, ↓Iv.f_slc, ↓Iv.f_cat, ↓Iv.f_lst1, ↓Iv.f_comp, ↓Iv.turnC_k, ↓Iv.wipeK_0, ↓Iv.wipeK_s, ↓Iv.unsetK_0, ↓Iv.unsetK_s, ↓Iv.p_nm, ↓Iv.p_tup, ↓Iv.ps_0, ↓Iv.ps_s, ↓Iv.addK_n, ↓Iv.addK_s, ↓Iv.ifs_nil, ↓Iv.ifs_one, ↓Iv.optK_some, ↓Iv.partK_i, ↓Iv.s_app, ↓Iv.s_setF, ↓Iv.s_setA, ↓Iv.s_dext, ↓Iv.dctK_fin, ↓Iv.chkK_T, ↓Iv.o_aug_add, ↓Iv.o_aug_sub, ↓Iv.b_int1, ↓Iv.b_int1b, ↓Iv.b_tup1, ↓Iv.b_tup1t, ↓Iv.comp_nil, ↓Iv.comp_k, ↓Iv.i_zipS, ↓Iv.i_enumS, ↓Iv.xt_0, ↓Iv.xt_1, ↓Iv.xt_2, ↓Iv.xt_3, ↓Iv.xt_4, ↓Iv.xt_5, ↓Iv.xl_0, ↓Iv.xl_1, ↓Iv.xl_2, ↓Iv.xl_3, ↓Iv.xl_4, ↓Iv.o_addT, ↓Iv.b_divmod, ↓bnd_of (field_shift (k := k) (a := a) (b := b) (t := t) (l := l) (p := .nil) (h := h) t0 t1 l0 l1 a0 a1 b0 b1 (by decide)), ↓bnd_of size_shift, ↓bnd_of in_shift, ↓bnd_of (ranges_noise l0 l1), ↓for_1, ↓for_0, ↓loopK_nx, Bool.not_true, Bool.not_false, decide_true, decide_false, eq_self, List.cons_append, List.nil_append]
theorem steps_noise {k : Nat} {t l : Int} {h : AH} (t0 : 0 ≤ t) (t1 : t ≤ 1000000000) (l0 : 0 ≤ l) (l1 : l ≤ 8) : run T (k + 5) f_steps_of [noiseD t l] h = some (.lst [stepD t l 0 0], h) := by
  rw [run_eq (fn := t_steps_of.fn) rfl rfl]
  show bnd (semSs _ b_steps_of [some (noiseD t l)]) (endK .cut h) _ = _
  unfold b_steps_of
  simp -implicitDefEqProofs (disch := first | omega | decide +kernel | exact rfl | (simp only [List.length_cons, List.length_nil]; decide +kernel)) only [↓Iv.slotK_0, ↓Iv.slotK_s, ↓Iv.setK_0, ↓Iv.setK_s, ↓Iv.nthK_0, ↓Iv.nthK_s, ↓Iv.permK_0, ↓Iv.permK_s, ↓Iv.e_v, ↓Iv.e_c, ↓Iv.e_tup, ↓Iv.e_lstv, ↓Iv.e_alloc, ↓Iv.e_bin, ↓Iv.e_neg, ↓Iv.e_cmp, ↓Iv.e_chain, ↓Iv.e_and, ↓Iv.e_or, ↓Iv.e_notK, ↓Iv.notK_T, ↓Iv.notK_F, ↓Iv.e_ite, ↓Iv.e_idx, ↓Iv.e_call, ↓Iv.e_bi, ↓Iv.es_nil, ↓Iv.es_cons, ↓Iv.f_disp, ↓Iv.new_3, ↓Iv.new_0, ↓Iv.sz_0, ↓Iv.sz_1, ↓Iv.sz_2, ↓Iv.sz_3, ↓Iv.sz_4, ↓Iv.sz_5, ↓Iv.sz_6, ↓Iv.sz_7, ↓Iv.sz_8, ↓Iv.sz_9, ↓Iv.sz_10, ↓Iv.sz_11, ↓Iv.sz_12, ↓Iv.sz_13, ↓Iv.sz_14, ↓Iv.t_nm, ↓Iv.t_tup, ↓Iv.t_lst, ↓Iv.t_sub, ↓Iv.ts_nil, ↓Iv.ts_cons, ↓Iv.ss_nil, ↓Iv.ss_cons, ↓Iv.seqK_rt, ↓Iv.seqK_nx, ↓Iv.s_asg, ↓Iv.s_aug, ↓Iv.s_expr, ↓Iv.s_ret, ↓Iv.s_retN, ↓Iv.s_pass, ↓Iv.s_ite, ↓Iv.s_for, ↓Iv.i_range1, ↓Iv.i_range2, ↓Iv.i_seq, ↓Iv.rgK_is, ↓Iv.rgK2_is, ↓Iv.itK_lst, ↓Iv.itK_tup, ↓Iv.o_add, ↓Iv.o_sub, ↓Iv.o_mul_l, ↓Iv.o_mul_r, ↓Iv.md600, ↓Iv.o_mod, ↓Iv.o_fdiv_s, ↓Iv.o_shl, ↓Iv.o_neg, ↓Iv.c_lt, ↓Iv.c_le, ↓Iv.c_gt, ↓Iv.c_ge, ↓Iv.c_eqI, ↓Iv.c_neI, ↓Iv.bl_K, ↓Iv.b_lenL, ↓Iv.b_lenT, ↓Iv.b_abs, ↓Iv.b_min2, ↓Iv.b_max2, ↓Iv.b_bits, ↓Iv.b_isaI_i, ↓Iv.b_isaI_b, ↓Iv.b_isaB_i, ↓Iv.b_isaB_b, ↓Iv.x_pick2, ↓Iv.x_pick3, ↓Iv.x_pick4, ↓Iv.x_pick5, ↓Iv.iteB_T, ↓Iv.iteB_F, ↓Iv.iteB_dT, ↓Iv.iteB_dF, ↓Iv.iteB_nT, ↓Iv.iteB_nF, ↓Iv.bodyF_is, ↓Iv.end_i, ↓Iv.end_b, ↓Iv.end_s, ↓Iv.end_iS, ↓Iv.end_iL, ↓Iv.end_own, ↓Iv.end_n, ↓Iv.end_r, ↓Iv.end_puI, ↓Iv.end_puB, ↓Iv.end_puT, ↓Iv.pw6, ↓Iv.pw9, ↓Iv.pw12, ↓Iv.pw18, ↓Iv.pw24, ↓Iv.pw30, ↓Iv.pw60, ↓Iv.pw600, ↓Iv.md600, ↓Iv.x_p0, ↓Iv.x_p1, ↓Iv.x_p2, ↓Iv.st_p0, ↓Iv.st_p2, ↓Iv.e_kidx, ↓Iv.e_kget, ↓Iv.e_dnew, ↓Iv.e_dfin, ↓Iv.kidx_hit, ↓Iv.kidx_miss, ↓Iv.c_strT, ↓Iv.c_strF, ↓Iv.c_nstrT, ↓Iv.c_nstrF, ↓Iv.c_isNs, ↓Iv.c_isNi, ↓Iv.c_isNt, ↓Iv.c_isNn, ↓Iv.b_isaT_t, ↓Iv.b_isaS_s, ↓Iv.b_lenS, ↓Iv.e_slice, ↓Iv.f_slc, ↓Iv.f_cat, ↓Iv.f_lst1, ↓Iv.f_comp, ↓Iv.turnC_k, ↓Iv.wipeK_0, ↓Iv.wipeK_s, ↓Iv.unsetK_0, ↓Iv.unsetK_s, ↓Iv.p_nm, ↓Iv.p_tup, ↓Iv.ps_0, ↓Iv.ps_s, ↓Iv.addK_n, ↓Iv.addK_s, ↓Iv.ifs_nil, ↓Iv.ifs_one, ↓Iv.optK_some, ↓Iv.partK_i, ↓Iv.s_app, ↓Iv.s_setF, ↓Iv.s_setA, ↓Iv.s_dext, ↓Iv.dctK_fin, ↓Iv.chkK_T, ↓Iv.o_aug_add, ↓Iv.o_aug_sub, ↓Iv.b_int1, ↓Iv.b_int1b, ↓Iv.b_tup1, ↓Iv.b_tup1t, ↓Iv.comp_nil, ↓Iv.comp_k, ↓Iv.i_zipS, ↓Iv.i_enumS, ↓Iv.xt_0, ↓Iv.xt_1, ↓Iv.xt_2, ↓Iv.xt_3, ↓Iv.xt_4, ↓Iv.xt_5, ↓Iv.xl_0, ↓Iv.xl_1, ↓Iv.xl_2, ↓Iv.xl_3, ↓Iv.xl_4, ↓Iv.o_addT, ↓Iv.b_divmod, ↓bnd_of (rules_noise t0 t1 l0 l1), ↓bnd_of in_noise, Bool.not_true, Bool.not_false, decide_true, decide_false, eq_self, List.cons_append, List.nil_append]
  exact end_r rfl
theorem run_step {k : Nat} {s t l dx dz x z : Int} {h : AH} (l0 : 0 ≤ l) (l1 : l ≤ 8) : run T (k + 3) f_run_steps [.lst [stepD t l dx dz], .int s, .int x, .int z] h = some (.int (noiseV s t l (x + dx) (z + dz)), h) := by
  rw [run_eq (fn := t_run_steps.fn) rfl rfl]
  show bnd (semSs _ b_run_steps [some (.lst [stepD t l dx dz]), some (.int s), some (.int x), some (.int z), none, none, none]) (endK .cut h) _ = _
  unfold b_run_steps
  have hn : (h ++ [AO.lst []])[h.length]? = some (.lst []) := by simp
  have hz : ([] : List D).length < sizeMax := by decide
  have hn2 : ((h ++ [AO.lst []]).set h.length (.lst ([] ++ [.int (noiseV s t l (x + dx) (z + dz))])))[h.length]? = some (.lst [.int (noiseV s t l (x + dx) (z + dz))]) := by simp
  have hx : ∀ {κ : D → M D}, idxK (.ref h.length) (.int (-1)) κ ((h ++ [AO.lst []]).set h.length (.lst ([] ++ [.int (noiseV s t l (x + dx) (z + dz))]))) = κ (.int (noiseV s t l (x + dx) (z + dz))) ((h ++ [AO.lst []]).set h.length (.lst ([] ++ [.int (noiseV s t l (x + dx) (z + dz))]))) := x_m1 (ds := []) hn2
  simp -implicitDefEqProofs (disch := first | omega | decide +kernel | exact rfl | (simp only [List.length_cons, List.length_nil]; decide +kernel)) only [↓Iv.slotK_0, ↓Iv.slotK_s, ↓Iv.setK_0, ↓Iv.setK_s, ↓Iv.nthK_0, ↓Iv.nthK_s, ↓Iv.permK_0, ↓Iv.permK_s, ↓Iv.e_v, ↓Iv.e_c, ↓Iv.e_tup, ↓Iv.e_lstv, ↓Iv.e_alloc, ↓Iv.e_bin, ↓Iv.e_neg, ↓Iv.e_cmp, ↓Iv.e_chain, ↓Iv.e_and, ↓Iv.e_or, ↓Iv.e_notK, ↓Iv.notK_T, ↓Iv.notK_F, ↓Iv.e_ite, ↓Iv.e_idx, ↓Iv.e_call, ↓Iv.e_bi, ↓Iv.es_nil, ↓Iv.es_cons, ↓Iv.f_disp, ↓Iv.new_3, ↓Iv.new_0, ↓Iv.sz_0, ↓Iv.sz_1, ↓Iv.sz_2, ↓Iv.sz_3, ↓Iv.sz_4, ↓Iv.sz_5, ↓Iv.sz_6, ↓Iv.sz_7, ↓Iv.sz_8, ↓Iv.sz_9, ↓Iv.sz_10, ↓Iv.sz_11, ↓Iv.sz_12, ↓Iv.sz_13, ↓Iv.sz_14, ↓Iv.t_nm, ↓Iv.t_tup, ↓Iv.t_lst, ↓Iv.t_sub, ↓Iv.ts_nil, ↓Iv.ts_cons, ↓Iv.ss_nil, ↓Iv.ss_cons, ↓Iv.seqK_rt, ↓Iv.seqK_nx, ↓Iv.s_asg, ↓Iv.s_aug, ↓Iv.s_expr, ↓Iv.s_ret, ↓Iv.s_retN, ↓Iv.s_pass, ↓Iv.s_ite, ↓Iv.s_for, ↓Iv.i_range1, ↓Iv.i_range2, ↓Iv.i_seq, ↓Iv.rgK_is, ↓Iv.rgK2_is, ↓Iv.itK_lst, ↓Iv.itK_tup, ↓Iv.o_add, ↓Iv.o_sub, ↓Iv.o_mul_l, ↓Iv.o_mul_r, ↓Iv.md600, ↓Iv.o_mod, ↓Iv.o_fdiv_s, ↓Iv.o_shl, ↓Iv.o_neg, ↓Iv.c_lt, ↓Iv.c_le, ↓Iv.c_gt, ↓Iv.c_ge, ↓Iv.c_eqI, ↓Iv.c_neI, ↓Iv.bl_K, ↓Iv.b_lenL, ↓Iv.b_lenT, ↓Iv.b_abs, ↓Iv.b_min2, ↓Iv.b_max2, ↓Iv.b_bits, ↓Iv.b_isaI_i, ↓Iv.b_isaI_b, ↓Iv.b_isaB_i, ↓Iv.b_isaB_b, ↓Iv.x_pick2, ↓Iv.x_pick3, ↓Iv.x_pick4, ↓Iv.x_pick5, ↓Iv.iteB_T, ↓Iv.iteB_F, ↓Iv.iteB_dT, ↓Iv.iteB_dF, ↓Iv.iteB_nT, ↓Iv.iteB_nF, ↓Iv.bodyF_is, ↓Iv.end_i, ↓Iv.end_b, ↓Iv.end_s, ↓Iv.end_iS, ↓Iv.end_iL, ↓Iv.end_own, ↓Iv.end_n, ↓Iv.end_r, ↓Iv.end_puI, ↓Iv.end_puB, ↓Iv.end_puT, ↓Iv.pw6, ↓Iv.pw9, ↓Iv.pw12, ↓Iv.pw18, ↓Iv.pw24, ↓Iv.pw30, ↓Iv.pw60, ↓Iv.pw600, ↓Iv.md600, ↓Iv.x_p0, ↓Iv.x_p1, ↓Iv.x_p2, ↓Iv.st_p0, ↓Iv.st_p2, ↓Iv.e_kidx, ↓Iv.e_kget, ↓Iv.e_dnew, ↓Iv.e_dfin, ↓Iv.kidx_hit, ↓Iv.kidx_miss, ↓Iv.c_strT, ↓Iv.c_strF, ↓Iv.c_nstrT, ↓Iv.c_nstrF, ↓Iv.c_isNs, ↓Iv.c_isNi, ↓Iv.c_isNt, ↓Iv.c_isNn, ↓Iv.b_isaT_t, ↓Iv.b_isaS_s, ↓Iv.b_lenS, ↓Iv.e_slice, ↓Iv.f_slc, ↓Iv.f_cat, ↓Iv.f_lst1, ↓Iv.f_comp, ↓Iv.turnC_k, ↓Iv.wipeK_0, ↓Iv.wipeK_s, ↓Iv.unsetK_0, ↓Iv.unsetK_s, ↓Iv.p_nm, ↓Iv.p_tup, ↓Iv.ps_0, ↓Iv.ps_s, ↓Iv.addK_n, ↓Iv.addK_s, ↓Iv.ifs_nil, ↓Iv.ifs_one, ↓Iv.optK_some, ↓Iv.partK_i, ↓Iv.s_app, ↓Iv.s_setF, ↓Iv.s_setA, ↓Iv.s_dext, ↓Iv.dctK_fin, ↓Iv.chkK_T, ↓Iv.o_aug_add, ↓Iv.o_aug_sub, ↓Iv.b_int1, ↓Iv.b_int1b, ↓Iv.b_tup1, ↓Iv.b_tup1t, ↓Iv.comp_nil, ↓Iv.comp_k, ↓Iv.i_zipS, ↓Iv.i_enumS, ↓Iv.xt_0, ↓Iv.xt_1, ↓Iv.xt_2, ↓Iv.xt_3, ↓Iv.xt_4, ↓Iv.xt_5, ↓Iv.xl_0, ↓Iv.xl_1, ↓Iv.xl_2, ↓Iv.xl_3, ↓Iv.xl_4, ↓Iv.o_addT, ↓Iv.b_divmod, ↓for_1, ↓for_0, ↓loopK_nx, ↓isL_is hn, ↓bnd_of (run_noise_at l0 l1), ↓app_ref (v := .int (noiseV s t l (x + dx) (z + dz))) hn rfl hz, ↓hx, Bool.not_true, Bool.not_false, decide_true, decide_false, eq_self, List.cons_append, List.nil_append]
  exact end_G rfl (by simp [List.set_append])
theorem run_point {k : Nat} {x z : Int} {h : AH} (x0 : x.natAbs ≤ 1000000) (z0 : z.natAbs ≤ 1000000) : run T (k + 1) f_must_point [.int x, .int z] h = some (.non, h) := by
  rw [run_eq (fn := t_must_point.fn) rfl rfl]
  show bnd (semSs _ b_must_point [some (.int x), some (.int z)]) (endK .cut h) _ = _
  unfold b_must_point
  simp -implicitDefEqProofs (disch := first | omega | decide +kernel | exact rfl | (simp only [List.length_cons, List.length_nil]; decide +kernel)) only [↓Iv.slotK_0, ↓Iv.slotK_s, ↓Iv.setK_0, ↓Iv.setK_s, ↓Iv.nthK_0, ↓Iv.nthK_s, ↓Iv.permK_0, ↓Iv.permK_s, ↓Iv.e_v, ↓Iv.e_c, ↓Iv.e_tup, ↓Iv.e_lstv, ↓Iv.e_alloc, ↓Iv.e_bin, ↓Iv.e_neg, ↓Iv.e_cmp, ↓Iv.e_chain, ↓Iv.e_and, ↓Iv.e_or, ↓Iv.e_notK, ↓Iv.notK_T, ↓Iv.notK_F, ↓Iv.e_ite, ↓Iv.e_idx, ↓Iv.e_call, ↓Iv.e_bi, ↓Iv.es_nil, ↓Iv.es_cons, ↓Iv.f_disp, ↓Iv.new_3, ↓Iv.new_0, ↓Iv.sz_0, ↓Iv.sz_1, ↓Iv.sz_2, ↓Iv.sz_3, ↓Iv.sz_4, ↓Iv.sz_5, ↓Iv.sz_6, ↓Iv.sz_7, ↓Iv.sz_8, ↓Iv.sz_9, ↓Iv.sz_10, ↓Iv.sz_11, ↓Iv.sz_12, ↓Iv.sz_13, ↓Iv.sz_14, ↓Iv.t_nm, ↓Iv.t_tup, ↓Iv.t_lst, ↓Iv.t_sub, ↓Iv.ts_nil, ↓Iv.ts_cons, ↓Iv.ss_nil, ↓Iv.ss_cons, ↓Iv.seqK_rt, ↓Iv.seqK_nx, ↓Iv.s_asg, ↓Iv.s_aug, ↓Iv.s_expr, ↓Iv.s_ret, ↓Iv.s_retN, ↓Iv.s_pass, ↓Iv.s_ite, ↓Iv.s_for, ↓Iv.i_range1, ↓Iv.i_range2, ↓Iv.i_seq, ↓Iv.rgK_is, ↓Iv.rgK2_is, ↓Iv.itK_lst, ↓Iv.itK_tup, ↓Iv.o_add, ↓Iv.o_sub, ↓Iv.o_mul_l, ↓Iv.o_mul_r, ↓Iv.md600, ↓Iv.o_mod, ↓Iv.o_fdiv_s, ↓Iv.o_shl, ↓Iv.o_neg, ↓Iv.c_lt, ↓Iv.c_le, ↓Iv.c_gt, ↓Iv.c_ge, ↓Iv.c_eqI, ↓Iv.c_neI, ↓Iv.bl_K, ↓Iv.b_lenL, ↓Iv.b_lenT, ↓Iv.b_abs, ↓Iv.b_min2, ↓Iv.b_max2, ↓Iv.b_bits, ↓Iv.b_isaI_i, ↓Iv.b_isaI_b, ↓Iv.b_isaB_i, ↓Iv.b_isaB_b, ↓Iv.x_pick2, ↓Iv.x_pick3, ↓Iv.x_pick4, ↓Iv.x_pick5, ↓Iv.iteB_T, ↓Iv.iteB_F, ↓Iv.iteB_dT, ↓Iv.iteB_dF, ↓Iv.iteB_nT, ↓Iv.iteB_nF, ↓Iv.bodyF_is, ↓Iv.end_i, ↓Iv.end_b, ↓Iv.end_s, ↓Iv.end_iS, ↓Iv.end_iL, ↓Iv.end_own, ↓Iv.end_n, ↓Iv.end_r, ↓Iv.end_puI, ↓Iv.end_puB, ↓Iv.end_puT, ↓Iv.pw6, ↓Iv.pw9, ↓Iv.pw12, ↓Iv.pw18, ↓Iv.pw24, ↓Iv.pw30, ↓Iv.pw60, ↓Iv.pw600, ↓Iv.md600, ↓Iv.x_p0, ↓Iv.x_p1, ↓Iv.x_p2, ↓Iv.st_p0, ↓Iv.st_p2, ↓Iv.e_kidx, ↓Iv.e_kget, ↓Iv.e_dnew, ↓Iv.e_dfin, ↓Iv.kidx_hit, ↓Iv.kidx_miss, ↓Iv.c_strT, ↓Iv.c_strF, ↓Iv.c_nstrT, ↓Iv.c_nstrF, ↓Iv.c_isNs, ↓Iv.c_isNi, ↓Iv.c_isNt, ↓Iv.c_isNn, ↓Iv.b_isaT_t, ↓Iv.b_isaS_s, ↓Iv.b_lenS, ↓Iv.e_slice, ↓Iv.f_slc, ↓Iv.f_cat, ↓Iv.f_lst1, ↓Iv.f_comp, ↓Iv.turnC_k, ↓Iv.wipeK_0, ↓Iv.wipeK_s, ↓Iv.unsetK_0, ↓Iv.unsetK_s, ↓Iv.p_nm, ↓Iv.p_tup, ↓Iv.ps_0, ↓Iv.ps_s, ↓Iv.addK_n, ↓Iv.addK_s, ↓Iv.ifs_nil, ↓Iv.ifs_one, ↓Iv.optK_some, ↓Iv.partK_i, ↓Iv.s_app, ↓Iv.s_setF, ↓Iv.s_setA, ↓Iv.s_dext, ↓Iv.dctK_fin, ↓Iv.chkK_T, ↓Iv.o_aug_add, ↓Iv.o_aug_sub, ↓Iv.b_int1, ↓Iv.b_int1b, ↓Iv.b_tup1, ↓Iv.b_tup1t, ↓Iv.comp_nil, ↓Iv.comp_k, ↓Iv.i_zipS, ↓Iv.i_enumS, ↓Iv.xt_0, ↓Iv.xt_1, ↓Iv.xt_2, ↓Iv.xt_3, ↓Iv.xt_4, ↓Iv.xt_5, ↓Iv.xl_0, ↓Iv.xl_1, ↓Iv.xl_2, ↓Iv.xl_3, ↓Iv.xl_4, ↓Iv.o_addT, ↓Iv.b_divmod, Bool.not_true, Bool.not_false, decide_true, decide_false, eq_self, List.cons_append, List.nil_append]
theorem value_noise {k : Nat} {s t l x z : Int} {h : AH} (t0 : 0 ≤ t) (t1 : t ≤ 1000000000) (l0 : 0 ≤ l) (l1 : l ≤ 8) (x0 : x.natAbs ≤ 1000000) (z0 : z.natAbs ≤ 1000000) : run T (k + 6) f_value_at [noiseD t l, .int s, .int x, .int z] h = some (.int (noiseV s t l x z), h) := by
  rw [run_eq (fn := t_value_at.fn) rfl rfl]
  show bnd (semSs _ b_value_at [some (noiseD t l), some (.int s), some (.int x), some (.int z)]) (endK .cut h) _ = _
  unfold b_value_at
  simp -implicitDefEqProofs (disch := first | omega | decide +kernel | exact rfl | (simp only [List.length_cons, List.length_nil]; decide +kernel)) only [↓Iv.slotK_0, ↓Iv.slotK_s, ↓Iv.setK_0, ↓Iv.setK_s, ↓Iv.nthK_0, ↓Iv.nthK_s, ↓Iv.permK_0, ↓Iv.permK_s, ↓Iv.e_v, ↓Iv.e_c, ↓Iv.e_tup, ↓Iv.e_lstv, ↓Iv.e_alloc, ↓Iv.e_bin, ↓Iv.e_neg, ↓Iv.e_cmp, ↓Iv.e_chain, ↓Iv.e_and, ↓Iv.e_or, ↓Iv.e_notK, ↓Iv.notK_T, ↓Iv.notK_F, ↓Iv.e_ite, ↓Iv.e_idx, ↓Iv.e_call, ↓Iv.e_bi, ↓Iv.es_nil, ↓Iv.es_cons, ↓Iv.f_disp, ↓Iv.new_3, ↓Iv.new_0, ↓Iv.sz_0, ↓Iv.sz_1, ↓Iv.sz_2, ↓Iv.sz_3, ↓Iv.sz_4, ↓Iv.sz_5, ↓Iv.sz_6, ↓Iv.sz_7, ↓Iv.sz_8, ↓Iv.sz_9, ↓Iv.sz_10, ↓Iv.sz_11, ↓Iv.sz_12, ↓Iv.sz_13, ↓Iv.sz_14, ↓Iv.t_nm, ↓Iv.t_tup, ↓Iv.t_lst, ↓Iv.t_sub, ↓Iv.ts_nil, ↓Iv.ts_cons, ↓Iv.ss_nil, ↓Iv.ss_cons, ↓Iv.seqK_rt, ↓Iv.seqK_nx, ↓Iv.s_asg, ↓Iv.s_aug, ↓Iv.s_expr, ↓Iv.s_ret, ↓Iv.s_retN, ↓Iv.s_pass, ↓Iv.s_ite, ↓Iv.s_for, ↓Iv.i_range1, ↓Iv.i_range2, ↓Iv.i_seq, ↓Iv.rgK_is, ↓Iv.rgK2_is, ↓Iv.itK_lst, ↓Iv.itK_tup, ↓Iv.o_add, ↓Iv.o_sub, ↓Iv.o_mul_l, ↓Iv.o_mul_r, ↓Iv.md600, ↓Iv.o_mod, ↓Iv.o_fdiv_s, ↓Iv.o_shl, ↓Iv.o_neg, ↓Iv.c_lt, ↓Iv.c_le, ↓Iv.c_gt, ↓Iv.c_ge, ↓Iv.c_eqI, ↓Iv.c_neI, ↓Iv.bl_K, ↓Iv.b_lenL, ↓Iv.b_lenT, ↓Iv.b_abs, ↓Iv.b_min2, ↓Iv.b_max2, ↓Iv.b_bits, ↓Iv.b_isaI_i, ↓Iv.b_isaI_b, ↓Iv.b_isaB_i, ↓Iv.b_isaB_b, ↓Iv.x_pick2, ↓Iv.x_pick3, ↓Iv.x_pick4, ↓Iv.x_pick5, ↓Iv.iteB_T, ↓Iv.iteB_F, ↓Iv.iteB_dT, ↓Iv.iteB_dF, ↓Iv.iteB_nT, ↓Iv.iteB_nF, ↓Iv.bodyF_is, ↓Iv.end_i, ↓Iv.end_b, ↓Iv.end_s, ↓Iv.end_iS, ↓Iv.end_iL, ↓Iv.end_own, ↓Iv.end_n, ↓Iv.end_r, ↓Iv.end_puI, ↓Iv.end_puB, ↓Iv.end_puT, ↓Iv.pw6, ↓Iv.pw9, ↓Iv.pw12, ↓Iv.pw18, ↓Iv.pw24, ↓Iv.pw30, ↓Iv.pw60, ↓Iv.pw600, ↓Iv.md600, ↓Iv.x_p0, ↓Iv.x_p1, ↓Iv.x_p2, ↓Iv.st_p0, ↓Iv.st_p2, ↓Iv.e_kidx, ↓Iv.e_kget, ↓Iv.e_dnew, ↓Iv.e_dfin, ↓Iv.kidx_hit, ↓Iv.kidx_miss, ↓Iv.c_strT, ↓Iv.c_strF, ↓Iv.c_nstrT, ↓Iv.c_nstrF, ↓Iv.c_isNs, ↓Iv.c_isNi, ↓Iv.c_isNt, ↓Iv.c_isNn, ↓Iv.b_isaT_t, ↓Iv.b_isaS_s, ↓Iv.b_lenS, ↓Iv.e_slice, ↓Iv.f_slc, ↓Iv.f_cat, ↓Iv.f_lst1, ↓Iv.f_comp, ↓Iv.turnC_k, ↓Iv.wipeK_0, ↓Iv.wipeK_s, ↓Iv.unsetK_0, ↓Iv.unsetK_s, ↓Iv.p_nm, ↓Iv.p_tup, ↓Iv.ps_0, ↓Iv.ps_s, ↓Iv.addK_n, ↓Iv.addK_s, ↓Iv.ifs_nil, ↓Iv.ifs_one, ↓Iv.optK_some, ↓Iv.partK_i, ↓Iv.s_app, ↓Iv.s_setF, ↓Iv.s_setA, ↓Iv.s_dext, ↓Iv.dctK_fin, ↓Iv.chkK_T, ↓Iv.o_aug_add, ↓Iv.o_aug_sub, ↓Iv.b_int1, ↓Iv.b_int1b, ↓Iv.b_tup1, ↓Iv.b_tup1t, ↓Iv.comp_nil, ↓Iv.comp_k, ↓Iv.i_zipS, ↓Iv.i_enumS, ↓Iv.xt_0, ↓Iv.xt_1, ↓Iv.xt_2, ↓Iv.xt_3, ↓Iv.xt_4, ↓Iv.xt_5, ↓Iv.xl_0, ↓Iv.xl_1, ↓Iv.xl_2, ↓Iv.xl_3, ↓Iv.xl_4, ↓Iv.o_addT, ↓Iv.b_divmod, ↓bnd_of (rules_noise t0 t1 l0 l1), ↓bnd_of (run_point x0 z0), ↓bnd_of in_noise, ↓bnd_of (run_step l0 l1), Int.add_zero, Bool.not_true, Bool.not_false, decide_true, decide_false, eq_self, List.cons_append, List.nil_append]
theorem value_shift {k : Nat} {a b s t l x z : Int} {h : AH} (t0 : 0 ≤ t) (t1 : t ≤ 1000000000) (l0 : 0 ≤ l) (l1 : l ≤ 8) (a0 : -1000 ≤ a) (a1 : a ≤ 1000) (b0 : -1000 ≤ b) (b1 : b ≤ 1000) (x0 : x.natAbs ≤ 1000000) (z0 : z.natAbs ≤ 1000000) : run T (k + 7) f_value_at [shiftD a b (noiseD t l), .int s, .int x, .int z] h = some (.int (noiseV s t l (x + a) (z + b)), h) := by
  rw [run_eq (fn := t_value_at.fn) rfl rfl]
  show bnd (semSs _ b_value_at [some (shiftD a b (noiseD t l)), some (.int s), some (.int x), some (.int z)]) (endK .cut h) _ = _
  unfold b_value_at
  simp -implicitDefEqProofs (disch := first | omega | decide +kernel | exact rfl | (simp only [List.length_cons, List.length_nil]; decide +kernel)) only [↓Iv.slotK_0, ↓Iv.slotK_s, ↓Iv.setK_0, ↓Iv.setK_s, ↓Iv.nthK_0, ↓Iv.nthK_s, ↓Iv.permK_0, ↓Iv.permK_s, ↓Iv.e_v, ↓Iv.e_c, ↓Iv.e_tup, ↓Iv.e_lstv, ↓Iv.e_alloc, ↓Iv.e_bin, ↓Iv.e_neg, ↓Iv.e_cmp, ↓Iv.e_chain, ↓Iv.e_and, ↓Iv.e_or, ↓Iv.e_notK, ↓Iv.notK_T, ↓Iv.notK_F, ↓Iv.e_ite, ↓Iv.e_idx, ↓Iv.e_call, ↓Iv.e_bi, ↓Iv.es_nil, ↓Iv.es_cons, ↓Iv.f_disp, ↓Iv.new_3, ↓Iv.new_0, ↓Iv.sz_0, ↓Iv.sz_1, ↓Iv.sz_2, ↓Iv.sz_3, ↓Iv.sz_4, ↓Iv.sz_5, ↓Iv.sz_6, ↓Iv.sz_7, ↓Iv.sz_8, ↓Iv.sz_9, ↓Iv.sz_10, ↓Iv.sz_11, ↓Iv.sz_12, ↓Iv.sz_13, ↓Iv.sz_14, ↓Iv.t_nm, ↓Iv.t_tup, ↓Iv.t_lst, ↓Iv.t_sub, ↓Iv.ts_nil, ↓Iv.ts_cons, ↓Iv.ss_nil, ↓Iv.ss_cons, ↓Iv.seqK_rt, ↓Iv.seqK_nx, ↓Iv.s_asg, ↓Iv.s_aug, ↓Iv.s_expr, ↓Iv.s_ret, ↓Iv.s_retN, ↓Iv.s_pass, ↓Iv.s_ite, ↓Iv.s_for, ↓Iv.i_range1, ↓Iv.i_range2, ↓Iv.i_seq, ↓Iv.rgK_is, ↓Iv.rgK2_is, ↓Iv.itK_lst, ↓Iv.itK_tup, ↓Iv.o_add, ↓Iv.o_sub, ↓Iv.o_mul_l, ↓Iv.o_mul_r, ↓Iv.md600, ↓Iv.o_mod, ↓Iv.o_fdiv_s, ↓Iv.o_shl, ↓Iv.o_neg, ↓Iv.c_lt, ↓Iv.c_le, ↓Iv.c_gt, ↓Iv.c_ge, ↓Iv.c_eqI, ↓Iv.c_neI, ↓Iv.bl_K, ↓Iv.b_lenL, ↓Iv.b_lenT, ↓Iv.b_abs, ↓Iv.b_min2, ↓Iv.b_max2, ↓Iv.b_bits, ↓Iv.b_isaI_i, ↓Iv.b_isaI_b, ↓Iv.b_isaB_i, ↓Iv.b_isaB_b, ↓Iv.x_pick2, ↓Iv.x_pick3, ↓Iv.x_pick4, ↓Iv.x_pick5, ↓Iv.iteB_T, ↓Iv.iteB_F, ↓Iv.iteB_dT, ↓Iv.iteB_dF, ↓Iv.iteB_nT, ↓Iv.iteB_nF, ↓Iv.bodyF_is, ↓Iv.end_i, ↓Iv.end_b, ↓Iv.end_s, ↓Iv.end_iS, ↓Iv.end_iL, ↓Iv.end_own, ↓Iv.end_n, ↓Iv.end_r, ↓Iv.end_puI, ↓Iv.end_puB, ↓Iv.end_puT, ↓Iv.pw6, ↓Iv.pw9, ↓Iv.pw12, ↓Iv.pw18, ↓Iv.pw24, ↓Iv.pw30, ↓Iv.pw60, ↓Iv.pw600, ↓Iv.md600, ↓Iv.x_p0, ↓Iv.x_p1, ↓Iv.x_p2, ↓Iv.st_p0, ↓Iv.st_p2, ↓Iv.e_kidx, ↓Iv.e_kget, ↓Iv.e_dnew, ↓Iv.e_dfin, ↓Iv.kidx_hit, ↓Iv.kidx_miss, ↓Iv.c_strT, ↓Iv.c_strF, ↓Iv.c_nstrT, ↓Iv.c_nstrF, ↓Iv.c_isNs, ↓Iv.c_isNi, ↓Iv.c_isNt, ↓Iv.c_isNn, ↓Iv.b_isaT_t, ↓Iv.b_isaS_s, ↓Iv.b_lenS, ↓Iv.e_slice, ↓Iv.f_slc, ↓Iv.f_cat, ↓Iv.f_lst1, ↓Iv.f_comp, ↓Iv.turnC_k, ↓Iv.wipeK_0, ↓Iv.wipeK_s, ↓Iv.unsetK_0, ↓Iv.unsetK_s, ↓Iv.p_nm, ↓Iv.p_tup, ↓Iv.ps_0, ↓Iv.ps_s, ↓Iv.addK_n, ↓Iv.addK_s, ↓Iv.ifs_nil, ↓Iv.ifs_one, ↓Iv.optK_some, ↓Iv.partK_i, ↓Iv.s_app, ↓Iv.s_setF, ↓Iv.s_setA, ↓Iv.s_dext, ↓Iv.dctK_fin, ↓Iv.chkK_T, ↓Iv.o_aug_add, ↓Iv.o_aug_sub, ↓Iv.b_int1, ↓Iv.b_int1b, ↓Iv.b_tup1, ↓Iv.b_tup1t, ↓Iv.comp_nil, ↓Iv.comp_k, ↓Iv.i_zipS, ↓Iv.i_enumS, ↓Iv.xt_0, ↓Iv.xt_1, ↓Iv.xt_2, ↓Iv.xt_3, ↓Iv.xt_4, ↓Iv.xt_5, ↓Iv.xl_0, ↓Iv.xl_1, ↓Iv.xl_2, ↓Iv.xl_3, ↓Iv.xl_4, ↓Iv.o_addT, ↓Iv.b_divmod, ↓bnd_of (rules_shift t0 t1 l0 l1 a0 a1 b0 b1), ↓bnd_of (run_point x0 z0), ↓bnd_of in_shift, ↓bnd_of (run_step l0 l1), Int.zero_add, Bool.not_true, Bool.not_false, decide_true, decide_false, eq_self, List.cons_append, List.nil_append]
end Law

set_option maxHeartbeats 1000000
namespace Law
open PySem L2 Iv
/-! ### the law's own defs -/
theorem run_mixed {k : Nat} {c j : Int} {h : AH} (hj : j.natAbs < 2 ^ 64) : run T (k + 1) fL_mixed [.int c, .int j] h = some (.int (mixed c j), h) := by
  rw [run_eq (fn := tL_mixed.fn) rfl rfl]
  show bnd (semSs _ bL_mixed [some (.int c), some (.int j), none]) (endK .cut h) _ = _
  unfold bL_mixed
  simp -implicitDefEqProofs (disch := first | omega | decide +kernel | exact rfl | (simp only [List.length_cons, List.length_nil]; decide +kernel)) only [↓Iv.slotK_0, ↓Iv.slotK_s, ↓Iv.setK_0, ↓Iv.setK_s, ↓Iv.nthK_0, ↓Iv.nthK_s, ↓Iv.permK_0, ↓Iv.permK_s, ↓Iv.e_v, ↓Iv.e_c, ↓Iv.e_tup, ↓Iv.e_lstv, ↓Iv.e_alloc, ↓Iv.e_bin, ↓Iv.e_neg, ↓Iv.e_cmp, ↓Iv.e_chain, ↓Iv.e_and, ↓Iv.e_or, ↓Iv.e_notK, ↓Iv.notK_T, ↓Iv.notK_F, ↓Iv.e_ite, ↓Iv.e_idx, ↓Iv.e_call, ↓Iv.e_bi, ↓Iv.es_nil, ↓Iv.es_cons, ↓Iv.f_disp, ↓Iv.new_3, ↓Iv.new_0, ↓Iv.sz_0, ↓Iv.sz_1, ↓Iv.sz_2, ↓Iv.sz_3, ↓Iv.sz_4, ↓Iv.sz_5, ↓Iv.sz_6, ↓Iv.sz_7, ↓Iv.sz_8, ↓Iv.sz_9, ↓Iv.sz_10, ↓Iv.sz_11, ↓Iv.sz_12, ↓Iv.sz_13, ↓Iv.sz_14, ↓Iv.t_nm, ↓Iv.t_tup, ↓Iv.t_lst, ↓Iv.t_sub, ↓Iv.ts_nil, ↓Iv.ts_cons, ↓Iv.ss_nil, ↓Iv.ss_cons, ↓Iv.seqK_rt, ↓Iv.seqK_nx, ↓Iv.s_asg, ↓Iv.s_aug, ↓Iv.s_expr, ↓Iv.s_ret, ↓Iv.s_retN, ↓Iv.s_pass, ↓Iv.s_ite, ↓Iv.s_for, ↓Iv.i_range1, ↓Iv.i_range2, ↓Iv.i_seq, ↓Iv.rgK_is, ↓Iv.rgK2_is, ↓Iv.itK_lst, ↓Iv.itK_tup, ↓Iv.o_add, ↓Iv.o_sub, ↓Iv.o_mul_l, ↓Iv.o_mul_r, ↓Iv.md600, ↓Iv.o_mod, ↓Iv.o_fdiv_s, ↓Iv.o_shl, ↓Iv.o_neg, ↓Iv.c_lt, ↓Iv.c_le, ↓Iv.c_gt, ↓Iv.c_ge, ↓Iv.c_eqI, ↓Iv.c_neI, ↓Iv.bl_K, ↓Iv.b_lenL, ↓Iv.b_lenT, ↓Iv.b_abs, ↓Iv.b_min2, ↓Iv.b_max2, ↓Iv.b_bits, ↓Iv.b_isaI_i, ↓Iv.b_isaI_b, ↓Iv.b_isaB_i, ↓Iv.b_isaB_b, ↓Iv.x_pick2, ↓Iv.x_pick3, ↓Iv.x_pick4, ↓Iv.x_pick5, ↓Iv.iteB_T, ↓Iv.iteB_F, ↓Iv.iteB_dT, ↓Iv.iteB_dF, ↓Iv.iteB_nT, ↓Iv.iteB_nF, ↓Iv.bodyF_is, ↓Iv.end_i, ↓Iv.end_b, ↓Iv.end_s, ↓Iv.end_iS, ↓Iv.end_iL, ↓Iv.end_own, ↓Iv.end_n, ↓Iv.end_r, ↓Iv.end_puI, ↓Iv.end_puB, ↓Iv.end_puT, ↓Iv.pw6, ↓Iv.pw9, ↓Iv.pw12, ↓Iv.pw18, ↓Iv.pw24, ↓Iv.pw30, ↓Iv.pw60, ↓Iv.pw600, ↓Iv.md600, ↓Iv.x_p0, ↓Iv.x_p1, ↓Iv.x_p2, ↓Iv.st_p0, ↓Iv.st_p2, ↓Iv.e_kidx, ↓Iv.e_kget, ↓Iv.e_dnew, ↓Iv.e_dfin, ↓Iv.kidx_hit, ↓Iv.kidx_miss, ↓Iv.c_strT, ↓Iv.c_strF, ↓Iv.c_nstrT, ↓Iv.c_nstrF, ↓Iv.c_isNs, ↓Iv.c_isNi, ↓Iv.c_isNt, ↓Iv.c_isNn, ↓Iv.b_isaT_t, ↓Iv.b_isaS_s, ↓Iv.b_lenS, ↓Iv.e_slice, ↓Iv.f_slc, ↓Iv.f_cat, ↓Iv.f_lst1, ↓Iv.f_comp, ↓Iv.turnC_k, ↓Iv.wipeK_0, ↓Iv.wipeK_s, ↓Iv.unsetK_0, ↓Iv.unsetK_s, ↓Iv.p_nm, ↓Iv.p_tup, ↓Iv.ps_0, ↓Iv.ps_s, ↓Iv.addK_n, ↓Iv.addK_s, ↓Iv.ifs_nil, ↓Iv.ifs_one, ↓Iv.optK_some, ↓Iv.partK_i, ↓Iv.s_app, ↓Iv.s_setF, ↓Iv.s_setA, ↓Iv.s_dext, ↓Iv.dctK_fin, ↓Iv.chkK_T, ↓Iv.o_aug_add, ↓Iv.o_aug_sub, ↓Iv.b_int1, ↓Iv.b_int1b, ↓Iv.b_tup1, ↓Iv.b_tup1t, ↓Iv.comp_nil, ↓Iv.comp_k, ↓Iv.i_zipS, ↓Iv.i_enumS, ↓Iv.xt_0, ↓Iv.xt_1, ↓Iv.xt_2, ↓Iv.xt_3, ↓Iv.xt_4, ↓Iv.xt_5, ↓Iv.xl_0, ↓Iv.xl_1, ↓Iv.xl_2, ↓Iv.xl_3, ↓Iv.xl_4, ↓Iv.o_addT, ↓Iv.b_divmod, Bool.not_true, Bool.not_false, decide_true, decide_false, eq_self, List.cons_append, List.nil_append]
  rfl
theorem run_at {k : Nat} {ns : List Int} {n : Nat} {h : AH} : run T (k + 1) fL_at [.lst (ns.map .int), .int n] h = some (.int (ns.getD n 0), h) := by
  rw [run_eq (fn := tL_at.fn) rfl rfl]
  show bnd (semSs _ bL_at [some (.lst (ns.map .int)), some (.int n)]) (endK .cut h) _ = _
  unfold bL_at
  simp -implicitDefEqProofs (disch := first | omega | decide +kernel | exact rfl | (simp only [List.length_cons, List.length_nil]; decide +kernel)) only [↓Iv.slotK_0, ↓Iv.slotK_s, ↓Iv.setK_0, ↓Iv.setK_s, ↓Iv.nthK_0, ↓Iv.nthK_s, ↓Iv.permK_0, ↓Iv.permK_s, ↓Iv.e_v, ↓Iv.e_c, ↓Iv.e_tup, ↓Iv.e_lstv, ↓Iv.e_alloc, ↓Iv.e_bin, ↓Iv.e_neg, ↓Iv.e_cmp, ↓Iv.e_chain, ↓Iv.e_and, ↓Iv.e_or, ↓Iv.e_notK, ↓Iv.notK_T, ↓Iv.notK_F, ↓Iv.e_ite, ↓Iv.e_idx, ↓Iv.e_call, ↓Iv.e_bi, ↓Iv.es_nil, ↓Iv.es_cons, ↓Iv.f_disp, ↓Iv.new_3, ↓Iv.new_0, ↓Iv.sz_0, ↓Iv.sz_1, ↓Iv.sz_2, ↓Iv.sz_3, ↓Iv.sz_4, ↓Iv.sz_5, ↓Iv.sz_6, ↓Iv.sz_7, ↓Iv.sz_8, ↓Iv.sz_9, ↓Iv.sz_10, ↓Iv.sz_11, ↓Iv.sz_12, ↓Iv.sz_13, ↓Iv.sz_14, ↓Iv.t_nm, ↓Iv.t_tup, ↓Iv.t_lst, ↓Iv.t_sub, ↓Iv.ts_nil, ↓Iv.ts_cons, ↓Iv.ss_nil, ↓Iv.ss_cons, ↓Iv.seqK_rt, ↓Iv.seqK_nx, ↓Iv.s_asg, ↓Iv.s_aug, ↓Iv.s_expr, ↓Iv.s_ret, ↓Iv.s_retN, ↓Iv.s_pass, ↓Iv.s_ite, ↓Iv.s_for, ↓Iv.i_range1, ↓Iv.i_range2, ↓Iv.i_seq, ↓Iv.rgK_is, ↓Iv.rgK2_is, ↓Iv.itK_lst, ↓Iv.itK_tup, ↓Iv.o_add, ↓Iv.o_sub, ↓Iv.o_mul_l, ↓Iv.o_mul_r, ↓Iv.md600, ↓Iv.o_mod, ↓Iv.o_fdiv_s, ↓Iv.o_shl, ↓Iv.o_neg, ↓Iv.c_lt, ↓Iv.c_le, ↓Iv.c_gt, ↓Iv.c_ge, ↓Iv.c_eqI, ↓Iv.c_neI, ↓Iv.bl_K, ↓Iv.b_lenL, ↓Iv.b_lenT, ↓Iv.b_abs, ↓Iv.b_min2, ↓Iv.b_max2, ↓Iv.b_bits, ↓Iv.b_isaI_i, ↓Iv.b_isaI_b, ↓Iv.b_isaB_i, ↓Iv.b_isaB_b, ↓Iv.x_pick2, ↓Iv.x_pick3, ↓Iv.x_pick4, ↓Iv.x_pick5, ↓Iv.iteB_T, ↓Iv.iteB_F, ↓Iv.iteB_dT, ↓Iv.iteB_dF, ↓Iv.iteB_nT, ↓Iv.iteB_nF, ↓Iv.bodyF_is, ↓Iv.end_i, ↓Iv.end_b, ↓Iv.end_s, ↓Iv.end_iS, ↓Iv.end_iL, ↓Iv.end_own, ↓Iv.end_n, ↓Iv.end_r, ↓Iv.end_puI, ↓Iv.end_puB, ↓Iv.end_puT, ↓Iv.pw6, ↓Iv.pw9, ↓Iv.pw12, ↓Iv.pw18, ↓Iv.pw24, ↓Iv.pw30, ↓Iv.pw60, ↓Iv.pw600, ↓Iv.md600, ↓Iv.x_p0, ↓Iv.x_p1, ↓Iv.x_p2, ↓Iv.st_p0, ↓Iv.st_p2, ↓Iv.e_kidx, ↓Iv.e_kget, ↓Iv.e_dnew, ↓Iv.e_dfin, ↓Iv.kidx_hit, ↓Iv.kidx_miss, ↓Iv.c_strT, ↓Iv.c_strF, ↓Iv.c_nstrT, ↓Iv.c_nstrF, ↓Iv.c_isNs, ↓Iv.c_isNi, ↓Iv.c_isNt, ↓Iv.c_isNn, ↓Iv.b_isaT_t, ↓Iv.b_isaS_s, ↓Iv.b_lenS, ↓Iv.e_slice, ↓Iv.f_slc, ↓Iv.f_cat, ↓Iv.f_lst1, ↓Iv.f_comp, ↓Iv.turnC_k, ↓Iv.wipeK_0, ↓Iv.wipeK_s, ↓Iv.unsetK_0, ↓Iv.unsetK_s, ↓Iv.p_nm, ↓Iv.p_tup, ↓Iv.ps_0, ↓Iv.ps_s, ↓Iv.addK_n, ↓Iv.addK_s, ↓Iv.ifs_nil, ↓Iv.ifs_one, ↓Iv.optK_some, ↓Iv.partK_i, ↓Iv.s_app, ↓Iv.s_setF, ↓Iv.s_setA, ↓Iv.s_dext, ↓Iv.dctK_fin, ↓Iv.chkK_T, ↓Iv.o_aug_add, ↓Iv.o_aug_sub, ↓Iv.b_int1, ↓Iv.b_int1b, ↓Iv.b_tup1, ↓Iv.b_tup1t, ↓Iv.comp_nil, ↓Iv.comp_k, ↓Iv.i_zipS, ↓Iv.i_enumS, ↓Iv.xt_0, ↓Iv.xt_1, ↓Iv.xt_2, ↓Iv.xt_3, ↓Iv.xt_4, ↓Iv.xt_5, ↓Iv.xl_0, ↓Iv.xl_1, ↓Iv.xl_2, ↓Iv.xl_3, ↓Iv.xl_4, ↓Iv.o_addT, ↓Iv.b_divmod, Bool.not_true, Bool.not_false, decide_true, decide_false, eq_self, List.cons_append, List.nil_append]
  by_cases hc : n < ns.length
  · rw [iteB_t (by simpa using hc)]
    simp -implicitDefEqProofs (disch := first | omega | decide +kernel | exact rfl | (simp only [List.length_cons, List.length_nil]; decide +kernel)) only [↓Iv.slotK_0, ↓Iv.slotK_s, ↓Iv.setK_0, ↓Iv.setK_s, ↓Iv.nthK_0, ↓Iv.nthK_s, ↓Iv.permK_0, ↓Iv.permK_s, ↓Iv.e_v, ↓Iv.e_c, ↓Iv.e_tup, ↓Iv.e_lstv, ↓Iv.e_alloc, ↓Iv.e_bin, ↓Iv.e_neg, ↓Iv.e_cmp, ↓Iv.e_chain, ↓Iv.e_and, ↓Iv.e_or, ↓Iv.e_notK, ↓Iv.notK_T, ↓Iv.notK_F, ↓Iv.e_ite, ↓Iv.e_idx, ↓Iv.e_call, ↓Iv.e_bi, ↓Iv.es_nil, ↓Iv.es_cons, ↓Iv.f_disp, ↓Iv.new_3, ↓Iv.new_0, ↓Iv.sz_0, ↓Iv.sz_1, ↓Iv.sz_2, ↓Iv.sz_3, ↓Iv.sz_4, ↓Iv.sz_5, ↓Iv.sz_6, ↓Iv.sz_7, ↓Iv.sz_8, ↓Iv.sz_9, ↓Iv.sz_10, ↓Iv.sz_11, ↓Iv.sz_12, ↓Iv.sz_13, ↓Iv.sz_14, ↓Iv.t_nm, ↓Iv.t_tup, ↓Iv.t_lst, ↓Iv.t_sub, ↓Iv.ts_nil, ↓Iv.ts_cons, ↓Iv.ss_nil, ↓Iv.ss_cons, ↓Iv.seqK_rt, ↓Iv.seqK_nx, ↓Iv.s_asg, ↓Iv.s_aug, ↓Iv.s_expr, ↓Iv.s_ret, ↓Iv.s_retN, ↓Iv.s_pass, ↓Iv.s_ite, ↓Iv.s_for, ↓Iv.i_range1, ↓Iv.i_range2, ↓Iv.i_seq, ↓Iv.rgK_is, ↓Iv.rgK2_is, ↓Iv.itK_lst, ↓Iv.itK_tup, ↓Iv.o_add, ↓Iv.o_sub, ↓Iv.o_mul_l, ↓Iv.o_mul_r, ↓Iv.md600, ↓Iv.o_mod, ↓Iv.o_fdiv_s, ↓Iv.o_shl, ↓Iv.o_neg, ↓Iv.c_lt, ↓Iv.c_le, ↓Iv.c_gt, ↓Iv.c_ge, ↓Iv.c_eqI, ↓Iv.c_neI, ↓Iv.bl_K, ↓Iv.b_lenL, ↓Iv.b_lenT, ↓Iv.b_abs, ↓Iv.b_min2, ↓Iv.b_max2, ↓Iv.b_bits, ↓Iv.b_isaI_i, ↓Iv.b_isaI_b, ↓Iv.b_isaB_i, ↓Iv.b_isaB_b, ↓Iv.x_pick2, ↓Iv.x_pick3, ↓Iv.x_pick4, ↓Iv.x_pick5, ↓Iv.iteB_T, ↓Iv.iteB_F, ↓Iv.iteB_dT, ↓Iv.iteB_dF, ↓Iv.iteB_nT, ↓Iv.iteB_nF, ↓Iv.bodyF_is, ↓Iv.end_i, ↓Iv.end_b, ↓Iv.end_s, ↓Iv.end_iS, ↓Iv.end_iL, ↓Iv.end_own, ↓Iv.end_n, ↓Iv.end_r, ↓Iv.end_puI, ↓Iv.end_puB, ↓Iv.end_puT, ↓Iv.pw6, ↓Iv.pw9, ↓Iv.pw12, ↓Iv.pw18, ↓Iv.pw24, ↓Iv.pw30, ↓Iv.pw60, ↓Iv.pw600, ↓Iv.md600, ↓Iv.x_p0, ↓Iv.x_p1, ↓Iv.x_p2, ↓Iv.st_p0, ↓Iv.st_p2, ↓Iv.e_kidx, ↓Iv.e_kget, ↓Iv.e_dnew, ↓Iv.e_dfin, ↓Iv.kidx_hit, ↓Iv.kidx_miss, ↓Iv.c_strT, ↓Iv.c_strF, ↓Iv.c_nstrT, ↓Iv.c_nstrF, ↓Iv.c_isNs, ↓Iv.c_isNi, ↓Iv.c_isNt, ↓Iv.c_isNn, ↓Iv.b_isaT_t, ↓Iv.b_isaS_s, ↓Iv.b_lenS, ↓Iv.e_slice, ↓Iv.f_slc, ↓Iv.f_cat, ↓Iv.f_lst1, ↓Iv.f_comp, ↓Iv.turnC_k, ↓Iv.wipeK_0, ↓Iv.wipeK_s, ↓Iv.unsetK_0, ↓Iv.unsetK_s, ↓Iv.p_nm, ↓Iv.p_tup, ↓Iv.ps_0, ↓Iv.ps_s, ↓Iv.addK_n, ↓Iv.addK_s, ↓Iv.ifs_nil, ↓Iv.ifs_one, ↓Iv.optK_some, ↓Iv.partK_i, ↓Iv.s_app, ↓Iv.s_setF, ↓Iv.s_setA, ↓Iv.s_dext, ↓Iv.dctK_fin, ↓Iv.chkK_T, ↓Iv.o_aug_add, ↓Iv.o_aug_sub, ↓Iv.b_int1, ↓Iv.b_int1b, ↓Iv.b_tup1, ↓Iv.b_tup1t, ↓Iv.comp_nil, ↓Iv.comp_k, ↓Iv.i_zipS, ↓Iv.i_enumS, ↓Iv.xt_0, ↓Iv.xt_1, ↓Iv.xt_2, ↓Iv.xt_3, ↓Iv.xt_4, ↓Iv.xt_5, ↓Iv.xl_0, ↓Iv.xl_1, ↓Iv.xl_2, ↓Iv.xl_3, ↓Iv.xl_4, ↓Iv.o_addT, ↓Iv.b_divmod, Bool.not_true, Bool.not_false, decide_true, decide_false, eq_self, List.cons_append, List.nil_append]
    rw [x_lst (d := .int (ns.getD n 0)) (by rw [List.getElem?_map, List.getElem?_eq_getElem hc]; simp [List.getD_eq_getElem?_getD, hc])]
    simp -implicitDefEqProofs (disch := first | omega | decide +kernel | exact rfl | (simp only [List.length_cons, List.length_nil]; decide +kernel)) only [↓Iv.slotK_0, ↓Iv.slotK_s, ↓Iv.setK_0, ↓Iv.setK_s, ↓Iv.nthK_0, ↓Iv.nthK_s, ↓Iv.permK_0, ↓Iv.permK_s, ↓Iv.e_v, ↓Iv.e_c, ↓Iv.e_tup, ↓Iv.e_lstv, ↓Iv.e_alloc, ↓Iv.e_bin, ↓Iv.e_neg, ↓Iv.e_cmp, ↓Iv.e_chain, ↓Iv.e_and, ↓Iv.e_or, ↓Iv.e_notK, ↓Iv.notK_T, ↓Iv.notK_F, ↓Iv.e_ite, ↓Iv.e_idx, ↓Iv.e_call, ↓Iv.e_bi, ↓Iv.es_nil, ↓Iv.es_cons, ↓Iv.f_disp, ↓Iv.new_3, ↓Iv.new_0, ↓Iv.sz_0, ↓Iv.sz_1, ↓Iv.sz_2, ↓Iv.sz_3, ↓Iv.sz_4, ↓Iv.sz_5, ↓Iv.sz_6, ↓Iv.sz_7, ↓Iv.sz_8, ↓Iv.sz_9, ↓Iv.sz_10, ↓Iv.sz_11, ↓Iv.sz_12, ↓Iv.sz_13, ↓Iv.sz_14, ↓Iv.t_nm, ↓Iv.t_tup, ↓Iv.t_lst, ↓Iv.t_sub, ↓Iv.ts_nil, ↓Iv.ts_cons, ↓Iv.ss_nil, ↓Iv.ss_cons, ↓Iv.seqK_rt, ↓Iv.seqK_nx, ↓Iv.s_asg, ↓Iv.s_aug, ↓Iv.s_expr, ↓Iv.s_ret, ↓Iv.s_retN, ↓Iv.s_pass, ↓Iv.s_ite, ↓Iv.s_for, ↓Iv.i_range1, ↓Iv.i_range2, ↓Iv.i_seq, ↓Iv.rgK_is, ↓Iv.rgK2_is, ↓Iv.itK_lst, ↓Iv.itK_tup, ↓Iv.o_add, ↓Iv.o_sub, ↓Iv.o_mul_l, ↓Iv.o_mul_r, ↓Iv.md600, ↓Iv.o_mod, ↓Iv.o_fdiv_s, ↓Iv.o_shl, ↓Iv.o_neg, ↓Iv.c_lt, ↓Iv.c_le, ↓Iv.c_gt, ↓Iv.c_ge, ↓Iv.c_eqI, ↓Iv.c_neI, ↓Iv.bl_K, ↓Iv.b_lenL, ↓Iv.b_lenT, ↓Iv.b_abs, ↓Iv.b_min2, ↓Iv.b_max2, ↓Iv.b_bits, ↓Iv.b_isaI_i, ↓Iv.b_isaI_b, ↓Iv.b_isaB_i, ↓Iv.b_isaB_b, ↓Iv.x_pick2, ↓Iv.x_pick3, ↓Iv.x_pick4, ↓Iv.x_pick5, ↓Iv.iteB_T, ↓Iv.iteB_F, ↓Iv.iteB_dT, ↓Iv.iteB_dF, ↓Iv.iteB_nT, ↓Iv.iteB_nF, ↓Iv.bodyF_is, ↓Iv.end_i, ↓Iv.end_b, ↓Iv.end_s, ↓Iv.end_iS, ↓Iv.end_iL, ↓Iv.end_own, ↓Iv.end_n, ↓Iv.end_r, ↓Iv.end_puI, ↓Iv.end_puB, ↓Iv.end_puT, ↓Iv.pw6, ↓Iv.pw9, ↓Iv.pw12, ↓Iv.pw18, ↓Iv.pw24, ↓Iv.pw30, ↓Iv.pw60, ↓Iv.pw600, ↓Iv.md600, ↓Iv.x_p0, ↓Iv.x_p1, ↓Iv.x_p2, ↓Iv.st_p0, ↓Iv.st_p2, ↓Iv.e_kidx, ↓Iv.e_kget, ↓Iv.e_dnew, ↓Iv.e_dfin, ↓Iv.kidx_hit, ↓Iv.kidx_miss, ↓Iv.c_strT, ↓Iv.c_strF, ↓Iv.c_nstrT, ↓Iv.c_nstrF, ↓Iv.c_isNs, ↓Iv.c_isNi, ↓Iv.c_isNt, ↓Iv.c_isNn, ↓Iv.b_isaT_t, ↓Iv.b_isaS_s, ↓Iv.b_lenS, ↓Iv.e_slice, ↓Iv.f_slc, ↓Iv.f_cat, ↓Iv.f_lst1, ↓Iv.f_comp, ↓Iv.turnC_k, ↓Iv.wipeK_0, ↓Iv.wipeK_s, ↓Iv.unsetK_0, ↓Iv.unsetK_s, ↓Iv.p_nm, ↓Iv.p_tup, ↓Iv.ps_0, ↓Iv.ps_s, ↓Iv.addK_n, ↓Iv.addK_s, ↓Iv.ifs_nil, ↓Iv.ifs_one, ↓Iv.optK_some, ↓Iv.partK_i, ↓Iv.s_app, ↓Iv.s_setF, ↓Iv.s_setA, ↓Iv.s_dext, ↓Iv.dctK_fin, ↓Iv.chkK_T, ↓Iv.o_aug_add, ↓Iv.o_aug_sub, ↓Iv.b_int1, ↓Iv.b_int1b, ↓Iv.b_tup1, ↓Iv.b_tup1t, ↓Iv.comp_nil, ↓Iv.comp_k, ↓Iv.i_zipS, ↓Iv.i_enumS, ↓Iv.xt_0, ↓Iv.xt_1, ↓Iv.xt_2, ↓Iv.xt_3, ↓Iv.xt_4, ↓Iv.xt_5, ↓Iv.xl_0, ↓Iv.xl_1, ↓Iv.xl_2, ↓Iv.xl_3, ↓Iv.xl_4, ↓Iv.o_addT, ↓Iv.b_divmod, Bool.not_true, Bool.not_false, decide_true, decide_false, eq_self, List.cons_append, List.nil_append]
  · rw [iteB_f (by simpa using hc)]
    simp -implicitDefEqProofs (disch := first | omega | decide +kernel | exact rfl | (simp only [List.length_cons, List.length_nil]; decide +kernel)) only [↓Iv.slotK_0, ↓Iv.slotK_s, ↓Iv.setK_0, ↓Iv.setK_s, ↓Iv.nthK_0, ↓Iv.nthK_s, ↓Iv.permK_0, ↓Iv.permK_s, ↓Iv.e_v, ↓Iv.e_c, ↓Iv.e_tup, ↓Iv.e_lstv, ↓Iv.e_alloc, ↓Iv.e_bin, ↓Iv.e_neg, ↓Iv.e_cmp, ↓Iv.e_chain, ↓Iv.e_and, ↓Iv.e_or, ↓Iv.e_notK, ↓Iv.notK_T, ↓Iv.notK_F, ↓Iv.e_ite, ↓Iv.e_idx, ↓Iv.e_call, ↓Iv.e_bi, ↓Iv.es_nil, ↓Iv.es_cons, ↓Iv.f_disp, ↓Iv.new_3, ↓Iv.new_0, ↓Iv.sz_0, ↓Iv.sz_1, ↓Iv.sz_2, ↓Iv.sz_3, ↓Iv.sz_4, ↓Iv.sz_5, ↓Iv.sz_6, ↓Iv.sz_7, ↓Iv.sz_8, ↓Iv.sz_9, ↓Iv.sz_10, ↓Iv.sz_11, ↓Iv.sz_12, ↓Iv.sz_13, ↓Iv.sz_14, ↓Iv.t_nm, ↓Iv.t_tup, ↓Iv.t_lst, ↓Iv.t_sub, ↓Iv.ts_nil, ↓Iv.ts_cons, ↓Iv.ss_nil, ↓Iv.ss_cons, ↓Iv.seqK_rt, ↓Iv.seqK_nx, ↓Iv.s_asg, ↓Iv.s_aug, ↓Iv.s_expr, ↓Iv.s_ret, ↓Iv.s_retN, ↓Iv.s_pass, ↓Iv.s_ite, ↓Iv.s_for, ↓Iv.i_range1, ↓Iv.i_range2, ↓Iv.i_seq, ↓Iv.rgK_is, ↓Iv.rgK2_is, ↓Iv.itK_lst, ↓Iv.itK_tup, ↓Iv.o_add, ↓Iv.o_sub, ↓Iv.o_mul_l, ↓Iv.o_mul_r, ↓Iv.md600, ↓Iv.o_mod, ↓Iv.o_fdiv_s, ↓Iv.o_shl, ↓Iv.o_neg, ↓Iv.c_lt, ↓Iv.c_le, ↓Iv.c_gt, ↓Iv.c_ge, ↓Iv.c_eqI, ↓Iv.c_neI, ↓Iv.bl_K, ↓Iv.b_lenL, ↓Iv.b_lenT, ↓Iv.b_abs, ↓Iv.b_min2, ↓Iv.b_max2, ↓Iv.b_bits, ↓Iv.b_isaI_i, ↓Iv.b_isaI_b, ↓Iv.b_isaB_i, ↓Iv.b_isaB_b, ↓Iv.x_pick2, ↓Iv.x_pick3, ↓Iv.x_pick4, ↓Iv.x_pick5, ↓Iv.iteB_T, ↓Iv.iteB_F, ↓Iv.iteB_dT, ↓Iv.iteB_dF, ↓Iv.iteB_nT, ↓Iv.iteB_nF, ↓Iv.bodyF_is, ↓Iv.end_i, ↓Iv.end_b, ↓Iv.end_s, ↓Iv.end_iS, ↓Iv.end_iL, ↓Iv.end_own, ↓Iv.end_n, ↓Iv.end_r, ↓Iv.end_puI, ↓Iv.end_puB, ↓Iv.end_puT, ↓Iv.pw6, ↓Iv.pw9, ↓Iv.pw12, ↓Iv.pw18, ↓Iv.pw24, ↓Iv.pw30, ↓Iv.pw60, ↓Iv.pw600, ↓Iv.md600, ↓Iv.x_p0, ↓Iv.x_p1, ↓Iv.x_p2, ↓Iv.st_p0, ↓Iv.st_p2, ↓Iv.e_kidx, ↓Iv.e_kget, ↓Iv.e_dnew, ↓Iv.e_dfin, ↓Iv.kidx_hit, ↓Iv.kidx_miss, ↓Iv.c_strT, ↓Iv.c_strF, ↓Iv.c_nstrT, ↓Iv.c_nstrF, ↓Iv.c_isNs, ↓Iv.c_isNi, ↓Iv.c_isNt, ↓Iv.c_isNn, ↓Iv.b_isaT_t, ↓Iv.b_isaS_s, ↓Iv.b_lenS, ↓Iv.e_slice, ↓Iv.f_slc, ↓Iv.f_cat, ↓Iv.f_lst1, ↓Iv.f_comp, ↓Iv.turnC_k, ↓Iv.wipeK_0, ↓Iv.wipeK_s, ↓Iv.unsetK_0, ↓Iv.unsetK_s, ↓Iv.p_nm, ↓Iv.p_tup, ↓Iv.ps_0, ↓Iv.ps_s, ↓Iv.addK_n, ↓Iv.addK_s, ↓Iv.ifs_nil, ↓Iv.ifs_one, ↓Iv.optK_some, ↓Iv.partK_i, ↓Iv.s_app, ↓Iv.s_setF, ↓Iv.s_setA, ↓Iv.s_dext, ↓Iv.dctK_fin, ↓Iv.chkK_T, ↓Iv.o_aug_add, ↓Iv.o_aug_sub, ↓Iv.b_int1, ↓Iv.b_int1b, ↓Iv.b_tup1, ↓Iv.b_tup1t, ↓Iv.comp_nil, ↓Iv.comp_k, ↓Iv.i_zipS, ↓Iv.i_enumS, ↓Iv.xt_0, ↓Iv.xt_1, ↓Iv.xt_2, ↓Iv.xt_3, ↓Iv.xt_4, ↓Iv.xt_5, ↓Iv.xl_0, ↓Iv.xl_1, ↓Iv.xl_2, ↓Iv.xl_3, ↓Iv.xl_4, ↓Iv.o_addT, ↓Iv.b_divmod, Bool.not_true, Bool.not_false, decide_true, decide_false, eq_self, List.cons_append, List.nil_append]
    rw [List.getD_eq_getElem?_getD, List.getElem?_eq_none (by omega)]
    rfl
theorem run_purse {k : Nat} (ns : List Int) (i : Nat) (h : AH) : ∃ (n : Nat) (h' : AH), n < h'.length ∧ run T (k + 2) fL_purse [.lst (ns.map .int), .int i] h = some (.ref n, h'.set n (purseO (purse0 ns i))) := by
  refine ⟨h.length, h ++ [AO.lst []], by simp, ?_⟩
  rw [run_eq (fn := tL_purse.fn) rfl rfl]
  show bnd (semSs _ bL_purse [some (.lst (ns.map .int)), some (.int i), none]) (endK .own h) _ = _
  unfold bL_purse
  simp -implicitDefEqProofs (disch := first | omega | decide +kernel | exact rfl | (simp only [List.length_cons, List.length_nil]; decide +kernel)) only [↓Iv.slotK_0, ↓Iv.slotK_s, ↓Iv.setK_0, ↓Iv.setK_s, ↓Iv.nthK_0, ↓Iv.nthK_s, ↓Iv.permK_0, ↓Iv.permK_s, ↓Iv.e_v, ↓Iv.e_c, ↓Iv.e_tup, ↓Iv.e_lstv, ↓Iv.e_alloc, ↓Iv.e_bin, ↓Iv.e_neg, ↓Iv.e_cmp, ↓Iv.e_chain, ↓Iv.e_and, ↓Iv.e_or, ↓Iv.e_notK, ↓Iv.notK_T, ↓Iv.notK_F, ↓Iv.e_ite, ↓Iv.e_idx, ↓Iv.e_call, ↓Iv.e_bi, ↓Iv.es_nil, ↓Iv.es_cons, ↓Iv.f_disp, ↓Iv.new_3, ↓Iv.new_0, ↓Iv.sz_0, ↓Iv.sz_1, ↓Iv.sz_2, ↓Iv.sz_3, ↓Iv.sz_4, ↓Iv.sz_5, ↓Iv.sz_6, ↓Iv.sz_7, ↓Iv.sz_8, ↓Iv.sz_9, ↓Iv.sz_10, ↓Iv.sz_11, ↓Iv.sz_12, ↓Iv.sz_13, ↓Iv.sz_14, ↓Iv.t_nm, ↓Iv.t_tup, ↓Iv.t_lst, ↓Iv.t_sub, ↓Iv.ts_nil, ↓Iv.ts_cons, ↓Iv.ss_nil, ↓Iv.ss_cons, ↓Iv.seqK_rt, ↓Iv.seqK_nx, ↓Iv.s_asg, ↓Iv.s_aug, ↓Iv.s_expr, ↓Iv.s_ret, ↓Iv.s_retN, ↓Iv.s_pass, ↓Iv.s_ite, ↓Iv.s_for, ↓Iv.i_range1, ↓Iv.i_range2, ↓Iv.i_seq, ↓Iv.rgK_is, ↓Iv.rgK2_is, ↓Iv.itK_lst, ↓Iv.itK_tup, ↓Iv.o_add, ↓Iv.o_sub, ↓Iv.o_mul_l, ↓Iv.o_mul_r, ↓Iv.md600, ↓Iv.o_mod, ↓Iv.o_fdiv_s, ↓Iv.o_shl, ↓Iv.o_neg, ↓Iv.c_lt, ↓Iv.c_le, ↓Iv.c_gt, ↓Iv.c_ge, ↓Iv.c_eqI, ↓Iv.c_neI, ↓Iv.bl_K, ↓Iv.b_lenL, ↓Iv.b_lenT, ↓Iv.b_abs, ↓Iv.b_min2, ↓Iv.b_max2, ↓Iv.b_bits, ↓Iv.b_isaI_i, ↓Iv.b_isaI_b, ↓Iv.b_isaB_i, ↓Iv.b_isaB_b, ↓Iv.x_pick2, ↓Iv.x_pick3, ↓Iv.x_pick4, ↓Iv.x_pick5, ↓Iv.iteB_T, ↓Iv.iteB_F, ↓Iv.iteB_dT, ↓Iv.iteB_dF, ↓Iv.iteB_nT, ↓Iv.iteB_nF, ↓Iv.bodyF_is, ↓Iv.end_i, ↓Iv.end_b, ↓Iv.end_s, ↓Iv.end_iS, ↓Iv.end_iL, ↓Iv.end_own, ↓Iv.end_n, ↓Iv.end_r, ↓Iv.end_puI, ↓Iv.end_puB, ↓Iv.end_puT, ↓Iv.pw6, ↓Iv.pw9, ↓Iv.pw12, ↓Iv.pw18, ↓Iv.pw24, ↓Iv.pw30, ↓Iv.pw60, ↓Iv.pw600, ↓Iv.md600, ↓Iv.x_p0, ↓Iv.x_p1, ↓Iv.x_p2, ↓Iv.st_p0, ↓Iv.st_p2, ↓Iv.e_kidx, ↓Iv.e_kget, ↓Iv.e_dnew, ↓Iv.e_dfin, ↓Iv.kidx_hit, ↓Iv.kidx_miss, ↓Iv.c_strT, ↓Iv.c_strF, ↓Iv.c_nstrT, ↓Iv.c_nstrF, ↓Iv.c_isNs, ↓Iv.c_isNi, ↓Iv.c_isNt, ↓Iv.c_isNn, ↓Iv.b_isaT_t, ↓Iv.b_isaS_s, ↓Iv.b_lenS, ↓Iv.e_slice, ↓Iv.f_slc, ↓Iv.f_cat, ↓Iv.f_lst1, ↓Iv.f_comp, ↓Iv.turnC_k, ↓Iv.wipeK_0, ↓Iv.wipeK_s, ↓Iv.unsetK_0, ↓Iv.unsetK_s, ↓Iv.p_nm, ↓Iv.p_tup, ↓Iv.ps_0, ↓Iv.ps_s, ↓Iv.addK_n, ↓Iv.addK_s, ↓Iv.ifs_nil, ↓Iv.ifs_one, ↓Iv.optK_some, ↓Iv.partK_i, ↓Iv.s_app, ↓Iv.s_setF, ↓Iv.s_setA, ↓Iv.s_dext, ↓Iv.dctK_fin, ↓Iv.chkK_T, ↓Iv.o_aug_add, ↓Iv.o_aug_sub, ↓Iv.b_int1, ↓Iv.b_int1b, ↓Iv.b_tup1, ↓Iv.b_tup1t, ↓Iv.comp_nil, ↓Iv.comp_k, ↓Iv.i_zipS, ↓Iv.i_enumS, ↓Iv.xt_0, ↓Iv.xt_1, ↓Iv.xt_2, ↓Iv.xt_3, ↓Iv.xt_4, ↓Iv.xt_5, ↓Iv.xl_0, ↓Iv.xl_1, ↓Iv.xl_2, ↓Iv.xl_3, ↓Iv.xl_4, ↓Iv.o_addT, ↓Iv.b_divmod, ↓bnd_of run_at, Bool.not_true, Bool.not_false, decide_true, decide_false, eq_self, List.cons_append, List.nil_append]
  rw [app_set]
  rfl
theorem draw_loop {k : Nat} {n : Nat} {h : AH} {m : Int} {all : List D} {y : Option D} {κ : Fl → M D} (hn : n < h.length) : ∀ (ds : List D) (p : P) (z : Int) (x : Option D), (0 ≤ p.c ∧ p.c + ds.length < 2 ^ 61) →
    ∃ x', bnd (forL all none (bodyF (run T (k + 1)) (.nm 3) [(.asg (.sub (.v 0) (.c (.int 2))) (.bin .add (.idx (.v 0) (.c (.int 2))) (.c (.int 1)))), (.asg (.nm 2) (.bin .add (.bin .mul (.v 2) (.c (.int 2147483587))) (.call 23 [0, 1] [(.idx (.v 0) (.c (.int 1))), (.idx (.v 0) (.c (.int 2)))])))]) ds [some (.ref n), some (.int m), some (.int z), x, y]) κ (h.set n (purseO p)) =
      κ (.nx [some (.ref n), some (.int m), some (.int (turns ds.length p z).2), x', y]) (h.set n (purseO (turns ds.length p z).1))
  | [], p, z, x, _ => ⟨x, rfl⟩
  | d :: ds, p, z, x, hp => by
    obtain ⟨h0, h1⟩ := hp
    obtain ⟨x', e⟩ := draw_loop (κ := κ) (y := y) (m := m) (all := all) (k := k) hn ds (turn p z).1 (turn p z).2 (some d) ⟨by simp only [turn]; omega, by simp only [turn, List.length_cons] at *; omega⟩
    refine ⟨x', ?_⟩
    rw [for_cons]
    have hm : (p.c + 1).natAbs < 2 ^ 64 := by simp only [List.length_cons] at h1; omega
    simp -implicitDefEqProofs (disch := first | omega | decide +kernel | exact rfl | (simp only [List.length_cons, List.length_nil]; decide +kernel)) only [↓Iv.slotK_0, ↓Iv.slotK_s, ↓Iv.setK_0, ↓Iv.setK_s, ↓Iv.nthK_0, ↓Iv.nthK_s, ↓Iv.permK_0, ↓Iv.permK_s, ↓Iv.e_v, ↓Iv.e_c, ↓Iv.e_tup, ↓Iv.e_lstv, ↓Iv.e_alloc, ↓Iv.e_bin, ↓Iv.e_neg, ↓Iv.e_cmp, ↓Iv.e_chain, ↓Iv.e_and, ↓Iv.e_or, ↓Iv.e_notK, ↓Iv.notK_T, ↓Iv.notK_F, ↓Iv.e_ite, ↓Iv.e_idx, ↓Iv.e_call, ↓Iv.e_bi, ↓Iv.es_nil, ↓Iv.es_cons, ↓Iv.f_disp, ↓Iv.new_3, ↓Iv.new_0, ↓Iv.sz_0, ↓Iv.sz_1, ↓Iv.sz_2, ↓Iv.sz_3, ↓Iv.sz_4, ↓Iv.sz_5, ↓Iv.sz_6, ↓Iv.sz_7, ↓Iv.sz_8, ↓Iv.sz_9, ↓Iv.sz_10, ↓Iv.sz_11, ↓Iv.sz_12, ↓Iv.sz_13, ↓Iv.sz_14, ↓Iv.t_nm, ↓Iv.t_tup, ↓Iv.t_lst, ↓Iv.t_sub, ↓Iv.ts_nil, ↓Iv.ts_cons, ↓Iv.ss_nil, ↓Iv.ss_cons, ↓Iv.seqK_rt, ↓Iv.seqK_nx, ↓Iv.s_asg, ↓Iv.s_aug, ↓Iv.s_expr, ↓Iv.s_ret, ↓Iv.s_retN, ↓Iv.s_pass, ↓Iv.s_ite, ↓Iv.s_for, ↓Iv.i_range1, ↓Iv.i_range2, ↓Iv.i_seq, ↓Iv.rgK_is, ↓Iv.rgK2_is, ↓Iv.itK_lst, ↓Iv.itK_tup, ↓Iv.o_add, ↓Iv.o_sub, ↓Iv.o_mul_l, ↓Iv.o_mul_r, ↓Iv.md600, ↓Iv.o_mod, ↓Iv.o_fdiv_s, ↓Iv.o_shl, ↓Iv.o_neg, ↓Iv.c_lt, ↓Iv.c_le, ↓Iv.c_gt, ↓Iv.c_ge, ↓Iv.c_eqI, ↓Iv.c_neI, ↓Iv.bl_K, ↓Iv.b_lenL, ↓Iv.b_lenT, ↓Iv.b_abs, ↓Iv.b_min2, ↓Iv.b_max2, ↓Iv.b_bits, ↓Iv.b_isaI_i, ↓Iv.b_isaI_b, ↓Iv.b_isaB_i, ↓Iv.b_isaB_b, ↓Iv.x_pick2, ↓Iv.x_pick3, ↓Iv.x_pick4, ↓Iv.x_pick5, ↓Iv.iteB_T, ↓Iv.iteB_F, ↓Iv.iteB_dT, ↓Iv.iteB_dF, ↓Iv.iteB_nT, ↓Iv.iteB_nF, ↓Iv.bodyF_is, ↓Iv.end_i, ↓Iv.end_b, ↓Iv.end_s, ↓Iv.end_iS, ↓Iv.end_iL, ↓Iv.end_own, ↓Iv.end_n, ↓Iv.end_r, ↓Iv.end_puI, ↓Iv.end_puB, ↓Iv.end_puT, ↓Iv.pw6, ↓Iv.pw9, ↓Iv.pw12, ↓Iv.pw18, ↓Iv.pw24, ↓Iv.pw30, ↓Iv.pw60, ↓Iv.pw600, ↓Iv.md600, ↓Iv.x_p0, ↓Iv.x_p1, ↓Iv.x_p2, ↓Iv.st_p0, ↓Iv.st_p2, ↓Iv.e_kidx, ↓Iv.e_kget, ↓Iv.e_dnew, ↓Iv.e_dfin, ↓Iv.kidx_hit, ↓Iv.kidx_miss, ↓Iv.c_strT, ↓Iv.c_strF, ↓Iv.c_nstrT, ↓Iv.c_nstrF, ↓Iv.c_isNs, ↓Iv.c_isNi, ↓Iv.c_isNt, ↓Iv.c_isNn, ↓Iv.b_isaT_t, ↓Iv.b_isaS_s, ↓Iv.b_lenS, ↓Iv.e_slice, ↓Iv.f_slc, ↓Iv.f_cat, ↓Iv.f_lst1, ↓Iv.f_comp, ↓Iv.turnC_k, ↓Iv.wipeK_0, ↓Iv.wipeK_s, ↓Iv.unsetK_0, ↓Iv.unsetK_s, ↓Iv.p_nm, ↓Iv.p_tup, ↓Iv.ps_0, ↓Iv.ps_s, ↓Iv.addK_n, ↓Iv.addK_s, ↓Iv.ifs_nil, ↓Iv.ifs_one, ↓Iv.optK_some, ↓Iv.partK_i, ↓Iv.s_app, ↓Iv.s_setF, ↓Iv.s_setA, ↓Iv.s_dext, ↓Iv.dctK_fin, ↓Iv.chkK_T, ↓Iv.o_aug_add, ↓Iv.o_aug_sub, ↓Iv.b_int1, ↓Iv.b_int1b, ↓Iv.b_tup1, ↓Iv.b_tup1t, ↓Iv.comp_nil, ↓Iv.comp_k, ↓Iv.i_zipS, ↓Iv.i_enumS, ↓Iv.xt_0, ↓Iv.xt_1, ↓Iv.xt_2, ↓Iv.xt_3, ↓Iv.xt_4, ↓Iv.xt_5, ↓Iv.xl_0, ↓Iv.xl_1, ↓Iv.xl_2, ↓Iv.xl_3, ↓Iv.xl_4, ↓Iv.o_addT, ↓Iv.b_divmod, ↓x_p0, ↓x_p1, ↓x_p2, ↓st_p0, ↓st_p2, ↓bnd_of (run_mixed hm), Bool.not_true, Bool.not_false, decide_true, decide_false, eq_self, List.cons_append, List.nil_append]
    exact e
theorem run_draw {k : Nat} {n : Nat} {p : P} {m : Int} {h : AH} (hn : n < h.length) (hp : p.ok 1) (h0 : 0 < m) (hm : m.natAbs < 2 ^ 62) :
    run T (k + 2) fL_draw [.ref n, .int m] (h.set n (purseO p)) = some (.int (drawP p m).1, h.set n (purseO (drawP p m).2)) := by
  rw [run_eq (fn := tL_draw.fn) rfl rfl]
  show bnd (semSs _ bL_draw [some (.ref n), some (.int m), none, none, none]) (endK .cut (h.set n (purseO p))) _ = _
  unfold bL_draw
  unfold drawP
  by_cases hc : 0 < p.a
  · rw [if_pos hc]
    simp -implicitDefEqProofs (disch := first | omega | decide +kernel | exact rfl | (simp only [List.length_cons, List.length_nil]; decide +kernel)) only [↓Iv.slotK_0, ↓Iv.slotK_s, ↓Iv.setK_0, ↓Iv.setK_s, ↓Iv.nthK_0, ↓Iv.nthK_s, ↓Iv.permK_0, ↓Iv.permK_s, ↓Iv.e_v, ↓Iv.e_c, ↓Iv.e_tup, ↓Iv.e_lstv, ↓Iv.e_alloc, ↓Iv.e_bin, ↓Iv.e_neg, ↓Iv.e_cmp, ↓Iv.e_chain, ↓Iv.e_and, ↓Iv.e_or, ↓Iv.e_notK, ↓Iv.notK_T, ↓Iv.notK_F, ↓Iv.e_ite, ↓Iv.e_idx, ↓Iv.e_call, ↓Iv.e_bi, ↓Iv.es_nil, ↓Iv.es_cons, ↓Iv.f_disp, ↓Iv.new_3, ↓Iv.new_0, ↓Iv.sz_0, ↓Iv.sz_1, ↓Iv.sz_2, ↓Iv.sz_3, ↓Iv.sz_4, ↓Iv.sz_5, ↓Iv.sz_6, ↓Iv.sz_7, ↓Iv.sz_8, ↓Iv.sz_9, ↓Iv.sz_10, ↓Iv.sz_11, ↓Iv.sz_12, ↓Iv.sz_13, ↓Iv.sz_14, ↓Iv.t_nm, ↓Iv.t_tup, ↓Iv.t_lst, ↓Iv.t_sub, ↓Iv.ts_nil, ↓Iv.ts_cons, ↓Iv.ss_nil, ↓Iv.ss_cons, ↓Iv.seqK_rt, ↓Iv.seqK_nx, ↓Iv.s_asg, ↓Iv.s_aug, ↓Iv.s_expr, ↓Iv.s_ret, ↓Iv.s_retN, ↓Iv.s_pass, ↓Iv.s_ite, ↓Iv.s_for, ↓Iv.i_range1, ↓Iv.i_range2, ↓Iv.i_seq, ↓Iv.rgK_is, ↓Iv.rgK2_is, ↓Iv.itK_lst, ↓Iv.itK_tup, ↓Iv.o_add, ↓Iv.o_sub, ↓Iv.o_mul_l, ↓Iv.o_mul_r, ↓Iv.md600, ↓Iv.o_mod, ↓Iv.o_fdiv_s, ↓Iv.o_shl, ↓Iv.o_neg, ↓Iv.c_lt, ↓Iv.c_le, ↓Iv.c_gt, ↓Iv.c_ge, ↓Iv.c_eqI, ↓Iv.c_neI, ↓Iv.bl_K, ↓Iv.b_lenL, ↓Iv.b_lenT, ↓Iv.b_abs, ↓Iv.b_min2, ↓Iv.b_max2, ↓Iv.b_bits, ↓Iv.b_isaI_i, ↓Iv.b_isaI_b, ↓Iv.b_isaB_i, ↓Iv.b_isaB_b, ↓Iv.x_pick2, ↓Iv.x_pick3, ↓Iv.x_pick4, ↓Iv.x_pick5, ↓Iv.iteB_T, ↓Iv.iteB_F, ↓Iv.iteB_dT, ↓Iv.iteB_dF, ↓Iv.iteB_nT, ↓Iv.iteB_nF, ↓Iv.bodyF_is, ↓Iv.end_i, ↓Iv.end_b, ↓Iv.end_s, ↓Iv.end_iS, ↓Iv.end_iL, ↓Iv.end_own, ↓Iv.end_n, ↓Iv.end_r, ↓Iv.end_puI, ↓Iv.end_puB, ↓Iv.end_puT, ↓Iv.pw6, ↓Iv.pw9, ↓Iv.pw12, ↓Iv.pw18, ↓Iv.pw24, ↓Iv.pw30, ↓Iv.pw60, ↓Iv.pw600, ↓Iv.md600, ↓Iv.x_p0, ↓Iv.x_p1, ↓Iv.x_p2, ↓Iv.st_p0, ↓Iv.st_p2, ↓Iv.e_kidx, ↓Iv.e_kget, ↓Iv.e_dnew, ↓Iv.e_dfin, ↓Iv.kidx_hit, ↓Iv.kidx_miss, ↓Iv.c_strT, ↓Iv.c_strF, ↓Iv.c_nstrT, ↓Iv.c_nstrF, ↓Iv.c_isNs, ↓Iv.c_isNi, ↓Iv.c_isNt, ↓Iv.c_isNn, ↓Iv.b_isaT_t, ↓Iv.b_isaS_s, ↓Iv.b_lenS, ↓Iv.e_slice, ↓Iv.f_slc, ↓Iv.f_cat, ↓Iv.f_lst1, ↓Iv.f_comp, ↓Iv.turnC_k, ↓Iv.wipeK_0, ↓Iv.wipeK_s, ↓Iv.unsetK_0, ↓Iv.unsetK_s, ↓Iv.p_nm, ↓Iv.p_tup, ↓Iv.ps_0, ↓Iv.ps_s, ↓Iv.addK_n, ↓Iv.addK_s, ↓Iv.ifs_nil, ↓Iv.ifs_one, ↓Iv.optK_some, ↓Iv.partK_i, ↓Iv.s_app, ↓Iv.s_setF, ↓Iv.s_setA, ↓Iv.s_dext, ↓Iv.dctK_fin, ↓Iv.chkK_T, ↓Iv.o_aug_add, ↓Iv.o_aug_sub, ↓Iv.b_int1, ↓Iv.b_int1b, ↓Iv.b_tup1, ↓Iv.b_tup1t, ↓Iv.comp_nil, ↓Iv.comp_k, ↓Iv.i_zipS, ↓Iv.i_enumS, ↓Iv.xt_0, ↓Iv.xt_1, ↓Iv.xt_2, ↓Iv.xt_3, ↓Iv.xt_4, ↓Iv.xt_5, ↓Iv.xl_0, ↓Iv.xl_1, ↓Iv.xl_2, ↓Iv.xl_3, ↓Iv.xl_4, ↓Iv.o_addT, ↓Iv.b_divmod, ↓x_p0, ↓st_p0, ↓iteB_t (decide_eq_true hc), Bool.not_true, Bool.not_false, decide_true, decide_false, eq_self, List.cons_append, List.nil_append]
  · rw [if_neg hc]
    simp -implicitDefEqProofs (disch := first | omega | decide +kernel | exact rfl | (simp only [List.length_cons, List.length_nil]; decide +kernel)) only [↓Iv.slotK_0, ↓Iv.slotK_s, ↓Iv.setK_0, ↓Iv.setK_s, ↓Iv.nthK_0, ↓Iv.nthK_s, ↓Iv.permK_0, ↓Iv.permK_s, ↓Iv.e_v, ↓Iv.e_c, ↓Iv.e_tup, ↓Iv.e_lstv, ↓Iv.e_alloc, ↓Iv.e_bin, ↓Iv.e_neg, ↓Iv.e_cmp, ↓Iv.e_chain, ↓Iv.e_and, ↓Iv.e_or, ↓Iv.e_notK, ↓Iv.notK_T, ↓Iv.notK_F, ↓Iv.e_ite, ↓Iv.e_idx, ↓Iv.e_call, ↓Iv.e_bi, ↓Iv.es_nil, ↓Iv.es_cons, ↓Iv.f_disp, ↓Iv.new_3, ↓Iv.new_0, ↓Iv.sz_0, ↓Iv.sz_1, ↓Iv.sz_2, ↓Iv.sz_3, ↓Iv.sz_4, ↓Iv.sz_5, ↓Iv.sz_6, ↓Iv.sz_7, ↓Iv.sz_8, ↓Iv.sz_9, ↓Iv.sz_10, ↓Iv.sz_11, ↓Iv.sz_12, ↓Iv.sz_13, ↓Iv.sz_14, ↓Iv.t_nm, ↓Iv.t_tup, ↓Iv.t_lst, ↓Iv.t_sub, ↓Iv.ts_nil, ↓Iv.ts_cons, ↓Iv.ss_nil, ↓Iv.ss_cons, ↓Iv.seqK_rt, ↓Iv.seqK_nx, ↓Iv.s_asg, ↓Iv.s_aug, ↓Iv.s_expr, ↓Iv.s_ret, ↓Iv.s_retN, ↓Iv.s_pass, ↓Iv.s_ite, ↓Iv.s_for, ↓Iv.i_range1, ↓Iv.i_range2, ↓Iv.i_seq, ↓Iv.rgK_is, ↓Iv.rgK2_is, ↓Iv.itK_lst, ↓Iv.itK_tup, ↓Iv.o_add, ↓Iv.o_sub, ↓Iv.o_mul_l, ↓Iv.o_mul_r, ↓Iv.md600, ↓Iv.o_mod, ↓Iv.o_fdiv_s, ↓Iv.o_shl, ↓Iv.o_neg, ↓Iv.c_lt, ↓Iv.c_le, ↓Iv.c_gt, ↓Iv.c_ge, ↓Iv.c_eqI, ↓Iv.c_neI, ↓Iv.bl_K, ↓Iv.b_lenL, ↓Iv.b_lenT, ↓Iv.b_abs, ↓Iv.b_min2, ↓Iv.b_max2, ↓Iv.b_bits, ↓Iv.b_isaI_i, ↓Iv.b_isaI_b, ↓Iv.b_isaB_i, ↓Iv.b_isaB_b, ↓Iv.x_pick2, ↓Iv.x_pick3, ↓Iv.x_pick4, ↓Iv.x_pick5, ↓Iv.iteB_T, ↓Iv.iteB_F, ↓Iv.iteB_dT, ↓Iv.iteB_dF, ↓Iv.iteB_nT, ↓Iv.iteB_nF, ↓Iv.bodyF_is, ↓Iv.end_i, ↓Iv.end_b, ↓Iv.end_s, ↓Iv.end_iS, ↓Iv.end_iL, ↓Iv.end_own, ↓Iv.end_n, ↓Iv.end_r, ↓Iv.end_puI, ↓Iv.end_puB, ↓Iv.end_puT, ↓Iv.pw6, ↓Iv.pw9, ↓Iv.pw12, ↓Iv.pw18, ↓Iv.pw24, ↓Iv.pw30, ↓Iv.pw60, ↓Iv.pw600, ↓Iv.md600, ↓Iv.x_p0, ↓Iv.x_p1, ↓Iv.x_p2, ↓Iv.st_p0, ↓Iv.st_p2, ↓Iv.e_kidx, ↓Iv.e_kget, ↓Iv.e_dnew, ↓Iv.e_dfin, ↓Iv.kidx_hit, ↓Iv.kidx_miss, ↓Iv.c_strT, ↓Iv.c_strF, ↓Iv.c_nstrT, ↓Iv.c_nstrF, ↓Iv.c_isNs, ↓Iv.c_isNi, ↓Iv.c_isNt, ↓Iv.c_isNn, ↓Iv.b_isaT_t, ↓Iv.b_isaS_s, ↓Iv.b_lenS, ↓Iv.e_slice, ↓Iv.f_slc, ↓Iv.f_cat, ↓Iv.f_lst1, ↓Iv.f_comp, ↓Iv.turnC_k, ↓Iv.wipeK_0, ↓Iv.wipeK_s, ↓Iv.unsetK_0, ↓Iv.unsetK_s, ↓Iv.p_nm, ↓Iv.p_tup, ↓Iv.ps_0, ↓Iv.ps_s, ↓Iv.addK_n, ↓Iv.addK_s, ↓Iv.ifs_nil, ↓Iv.ifs_one, ↓Iv.optK_some, ↓Iv.partK_i, ↓Iv.s_app, ↓Iv.s_setF, ↓Iv.s_setA, ↓Iv.s_dext, ↓Iv.dctK_fin, ↓Iv.chkK_T, ↓Iv.o_aug_add, ↓Iv.o_aug_sub, ↓Iv.b_int1, ↓Iv.b_int1b, ↓Iv.b_tup1, ↓Iv.b_tup1t, ↓Iv.comp_nil, ↓Iv.comp_k, ↓Iv.i_zipS, ↓Iv.i_enumS, ↓Iv.xt_0, ↓Iv.xt_1, ↓Iv.xt_2, ↓Iv.xt_3, ↓Iv.xt_4, ↓Iv.xt_5, ↓Iv.xl_0, ↓Iv.xl_1, ↓Iv.xl_2, ↓Iv.xl_3, ↓Iv.xl_4, ↓Iv.o_addT, ↓Iv.b_divmod, ↓x_p0, ↓st_p0, ↓iteB_f (decide_eq_false hc), ↓rng_draw hm, Bool.not_true, Bool.not_false, decide_true, decide_false, eq_self, List.cons_append, List.nil_append]
    obtain ⟨x', e⟩ := draw_loop (k := k) (m := m) (all := rangeL 0 (many m)) (y := none) (κ := seqK (run T (k + 1)) [S.ret (E.bin Bop.mod (E.v 2) (E.v 1))] (endK .cut (h.set n (purseO p)))) hn (rangeL 0 (many m)) p 0 none (by
      have := many_le hm
      exact ⟨hp.1, by have := hp.2; rw [rangeL_len]; omega⟩)
    refine Eq.trans e ?_
    simp -implicitDefEqProofs (disch := first | omega | decide +kernel | exact rfl | (simp only [List.length_cons, List.length_nil]; decide +kernel)) only [↓Iv.slotK_0, ↓Iv.slotK_s, ↓Iv.setK_0, ↓Iv.setK_s, ↓Iv.nthK_0, ↓Iv.nthK_s, ↓Iv.permK_0, ↓Iv.permK_s, ↓Iv.e_v, ↓Iv.e_c, ↓Iv.e_tup, ↓Iv.e_lstv, ↓Iv.e_alloc, ↓Iv.e_bin, ↓Iv.e_neg, ↓Iv.e_cmp, ↓Iv.e_chain, ↓Iv.e_and, ↓Iv.e_or, ↓Iv.e_notK, ↓Iv.notK_T, ↓Iv.notK_F, ↓Iv.e_ite, ↓Iv.e_idx, ↓Iv.e_call, ↓Iv.e_bi, ↓Iv.es_nil, ↓Iv.es_cons, ↓Iv.f_disp, ↓Iv.new_3, ↓Iv.new_0, ↓Iv.sz_0, ↓Iv.sz_1, ↓Iv.sz_2, ↓Iv.sz_3, ↓Iv.sz_4, ↓Iv.sz_5, ↓Iv.sz_6, ↓Iv.sz_7, ↓Iv.sz_8, ↓Iv.sz_9, ↓Iv.sz_10, ↓Iv.sz_11, ↓Iv.sz_12, ↓Iv.sz_13, ↓Iv.sz_14, ↓Iv.t_nm, ↓Iv.t_tup, ↓Iv.t_lst, ↓Iv.t_sub, ↓Iv.ts_nil, ↓Iv.ts_cons, ↓Iv.ss_nil, ↓Iv.ss_cons, ↓Iv.seqK_rt, ↓Iv.seqK_nx, ↓Iv.s_asg, ↓Iv.s_aug, ↓Iv.s_expr, ↓Iv.s_ret, ↓Iv.s_retN, ↓Iv.s_pass, ↓Iv.s_ite, ↓Iv.s_for, ↓Iv.i_range1, ↓Iv.i_range2, ↓Iv.i_seq, ↓Iv.rgK_is, ↓Iv.rgK2_is, ↓Iv.itK_lst, ↓Iv.itK_tup, ↓Iv.o_add, ↓Iv.o_sub, ↓Iv.o_mul_l, ↓Iv.o_mul_r, ↓Iv.md600, ↓Iv.o_mod, ↓Iv.o_fdiv_s, ↓Iv.o_shl, ↓Iv.o_neg, ↓Iv.c_lt, ↓Iv.c_le, ↓Iv.c_gt, ↓Iv.c_ge, ↓Iv.c_eqI, ↓Iv.c_neI, ↓Iv.bl_K, ↓Iv.b_lenL, ↓Iv.b_lenT, ↓Iv.b_abs, ↓Iv.b_min2, ↓Iv.b_max2, ↓Iv.b_bits, ↓Iv.b_isaI_i, ↓Iv.b_isaI_b, ↓Iv.b_isaB_i, ↓Iv.b_isaB_b, ↓Iv.x_pick2, ↓Iv.x_pick3, ↓Iv.x_pick4, ↓Iv.x_pick5, ↓Iv.iteB_T, ↓Iv.iteB_F, ↓Iv.iteB_dT, ↓Iv.iteB_dF, ↓Iv.iteB_nT, ↓Iv.iteB_nF, ↓Iv.bodyF_is, ↓Iv.end_i, ↓Iv.end_b, ↓Iv.end_s, ↓Iv.end_iS, ↓Iv.end_iL, ↓Iv.end_own, ↓Iv.end_n, ↓Iv.end_r, ↓Iv.end_puI, ↓Iv.end_puB, ↓Iv.end_puT, ↓Iv.pw6, ↓Iv.pw9, ↓Iv.pw12, ↓Iv.pw18, ↓Iv.pw24, ↓Iv.pw30, ↓Iv.pw60, ↓Iv.pw600, ↓Iv.md600, ↓Iv.x_p0, ↓Iv.x_p1, ↓Iv.x_p2, ↓Iv.st_p0, ↓Iv.st_p2, ↓Iv.e_kidx, ↓Iv.e_kget, ↓Iv.e_dnew, ↓Iv.e_dfin, ↓Iv.kidx_hit, ↓Iv.kidx_miss, ↓Iv.c_strT, ↓Iv.c_strF, ↓Iv.c_nstrT, ↓Iv.c_nstrF, ↓Iv.c_isNs, ↓Iv.c_isNi, ↓Iv.c_isNt, ↓Iv.c_isNn, ↓Iv.b_isaT_t, ↓Iv.b_isaS_s, ↓Iv.b_lenS, ↓Iv.e_slice, ↓Iv.f_slc, ↓Iv.f_cat, ↓Iv.f_lst1, ↓Iv.f_comp, ↓Iv.turnC_k, ↓Iv.wipeK_0, ↓Iv.wipeK_s, ↓Iv.unsetK_0, ↓Iv.unsetK_s, ↓Iv.p_nm, ↓Iv.p_tup, ↓Iv.ps_0, ↓Iv.ps_s, ↓Iv.addK_n, ↓Iv.addK_s, ↓Iv.ifs_nil, ↓Iv.ifs_one, ↓Iv.optK_some, ↓Iv.partK_i, ↓Iv.s_app, ↓Iv.s_setF, ↓Iv.s_setA, ↓Iv.s_dext, ↓Iv.dctK_fin, ↓Iv.chkK_T, ↓Iv.o_aug_add, ↓Iv.o_aug_sub, ↓Iv.b_int1, ↓Iv.b_int1b, ↓Iv.b_tup1, ↓Iv.b_tup1t, ↓Iv.comp_nil, ↓Iv.comp_k, ↓Iv.i_zipS, ↓Iv.i_enumS, ↓Iv.xt_0, ↓Iv.xt_1, ↓Iv.xt_2, ↓Iv.xt_3, ↓Iv.xt_4, ↓Iv.xt_5, ↓Iv.xl_0, ↓Iv.xl_1, ↓Iv.xl_2, ↓Iv.xl_3, ↓Iv.xl_4, ↓Iv.o_addT, ↓Iv.b_divmod, Bool.not_true, Bool.not_false, decide_true, decide_false, eq_self, List.cons_append, List.nil_append]
    rw [rangeL_len]
theorem run_whole {k : Nat} {i : Int} {h : AH} : run T (k + 1) fL_whole [.int i] h = some (.bl true, h) := by
  rw [run_eq (fn := tL_whole.fn) rfl rfl]
  show bnd (semSs _ bL_whole [some (.int i)]) (endK .cut h) _ = _
  unfold bL_whole
  simp -implicitDefEqProofs (disch := first | omega | decide +kernel | exact rfl | (simp only [List.length_cons, List.length_nil]; decide +kernel)) only [↓Iv.slotK_0, ↓Iv.slotK_s, ↓Iv.setK_0, ↓Iv.setK_s, ↓Iv.nthK_0, ↓Iv.nthK_s, ↓Iv.permK_0, ↓Iv.permK_s, ↓Iv.e_v, ↓Iv.e_c, ↓Iv.e_tup, ↓Iv.e_lstv, ↓Iv.e_alloc, ↓Iv.e_bin, ↓Iv.e_neg, ↓Iv.e_cmp, ↓Iv.e_chain, ↓Iv.e_and, ↓Iv.e_or, ↓Iv.e_notK, ↓Iv.notK_T, ↓Iv.notK_F, ↓Iv.e_ite, ↓Iv.e_idx, ↓Iv.e_call, ↓Iv.e_bi, ↓Iv.es_nil, ↓Iv.es_cons, ↓Iv.f_disp, ↓Iv.new_3, ↓Iv.new_0, ↓Iv.sz_0, ↓Iv.sz_1, ↓Iv.sz_2, ↓Iv.sz_3, ↓Iv.sz_4, ↓Iv.sz_5, ↓Iv.sz_6, ↓Iv.sz_7, ↓Iv.sz_8, ↓Iv.sz_9, ↓Iv.sz_10, ↓Iv.sz_11, ↓Iv.sz_12, ↓Iv.sz_13, ↓Iv.sz_14, ↓Iv.t_nm, ↓Iv.t_tup, ↓Iv.t_lst, ↓Iv.t_sub, ↓Iv.ts_nil, ↓Iv.ts_cons, ↓Iv.ss_nil, ↓Iv.ss_cons, ↓Iv.seqK_rt, ↓Iv.seqK_nx, ↓Iv.s_asg, ↓Iv.s_aug, ↓Iv.s_expr, ↓Iv.s_ret, ↓Iv.s_retN, ↓Iv.s_pass, ↓Iv.s_ite, ↓Iv.s_for, ↓Iv.i_range1, ↓Iv.i_range2, ↓Iv.i_seq, ↓Iv.rgK_is, ↓Iv.rgK2_is, ↓Iv.itK_lst, ↓Iv.itK_tup, ↓Iv.o_add, ↓Iv.o_sub, ↓Iv.o_mul_l, ↓Iv.o_mul_r, ↓Iv.md600, ↓Iv.o_mod, ↓Iv.o_fdiv_s, ↓Iv.o_shl, ↓Iv.o_neg, ↓Iv.c_lt, ↓Iv.c_le, ↓Iv.c_gt, ↓Iv.c_ge, ↓Iv.c_eqI, ↓Iv.c_neI, ↓Iv.bl_K, ↓Iv.b_lenL, ↓Iv.b_lenT, ↓Iv.b_abs, ↓Iv.b_min2, ↓Iv.b_max2, ↓Iv.b_bits, ↓Iv.b_isaI_i, ↓Iv.b_isaI_b, ↓Iv.b_isaB_i, ↓Iv.b_isaB_b, ↓Iv.x_pick2, ↓Iv.x_pick3, ↓Iv.x_pick4, ↓Iv.x_pick5, ↓Iv.iteB_T, ↓Iv.iteB_F, ↓Iv.iteB_dT, ↓Iv.iteB_dF, ↓Iv.iteB_nT, ↓Iv.iteB_nF, ↓Iv.bodyF_is, ↓Iv.end_i, ↓Iv.end_b, ↓Iv.end_s, ↓Iv.end_iS, ↓Iv.end_iL, ↓Iv.end_own, ↓Iv.end_n, ↓Iv.end_r, ↓Iv.end_puI, ↓Iv.end_puB, ↓Iv.end_puT, ↓Iv.pw6, ↓Iv.pw9, ↓Iv.pw12, ↓Iv.pw18, ↓Iv.pw24, ↓Iv.pw30, ↓Iv.pw60, ↓Iv.pw600, ↓Iv.md600, ↓Iv.x_p0, ↓Iv.x_p1, ↓Iv.x_p2, ↓Iv.st_p0, ↓Iv.st_p2, ↓Iv.e_kidx, ↓Iv.e_kget, ↓Iv.e_dnew, ↓Iv.e_dfin, ↓Iv.kidx_hit, ↓Iv.kidx_miss, ↓Iv.c_strT, ↓Iv.c_strF, ↓Iv.c_nstrT, ↓Iv.c_nstrF, ↓Iv.c_isNs, ↓Iv.c_isNi, ↓Iv.c_isNt, ↓Iv.c_isNn, ↓Iv.b_isaT_t, ↓Iv.b_isaS_s, ↓Iv.b_lenS, ↓Iv.e_slice, ↓Iv.f_slc, ↓Iv.f_cat, ↓Iv.f_lst1, ↓Iv.f_comp, ↓Iv.turnC_k, ↓Iv.wipeK_0, ↓Iv.wipeK_s, ↓Iv.unsetK_0, ↓Iv.unsetK_s, ↓Iv.p_nm, ↓Iv.p_tup, ↓Iv.ps_0, ↓Iv.ps_s, ↓Iv.addK_n, ↓Iv.addK_s, ↓Iv.ifs_nil, ↓Iv.ifs_one, ↓Iv.optK_some, ↓Iv.partK_i, ↓Iv.s_app, ↓Iv.s_setF, ↓Iv.s_setA, ↓Iv.s_dext, ↓Iv.dctK_fin, ↓Iv.chkK_T, ↓Iv.o_aug_add, ↓Iv.o_aug_sub, ↓Iv.b_int1, ↓Iv.b_int1b, ↓Iv.b_tup1, ↓Iv.b_tup1t, ↓Iv.comp_nil, ↓Iv.comp_k, ↓Iv.i_zipS, ↓Iv.i_enumS, ↓Iv.xt_0, ↓Iv.xt_1, ↓Iv.xt_2, ↓Iv.xt_3, ↓Iv.xt_4, ↓Iv.xt_5, ↓Iv.xl_0, ↓Iv.xl_1, ↓Iv.xl_2, ↓Iv.xl_3, ↓Iv.xl_4, ↓Iv.o_addT, ↓Iv.b_divmod, Bool.not_true, Bool.not_false, decide_true, decide_false, eq_self, List.cons_append, List.nil_append]
def grainV (p : P) : Int × P := (pick [0, 1, 1000000000, (drawP p 1000000000).1] (drawP (drawP p 1000000000).2 4).1, (drawP (drawP p 1000000000).2 4).2)
theorem run_grain {k : Nat} {n : Nat} {p : P} {h : AH} (hn : n < h.length) (hp : p.ok 2) :
    run T (k + 3) fL_grain [.ref n] (h.set n (purseO p)) = some (.int (grainV p).1, h.set n (purseO (grainV p).2)) := by
  rw [run_eq (fn := tL_grain.fn) rfl rfl]
  show bnd (semSs _ bL_grain [some (.ref n)]) (endK .cut (h.set n (purseO p))) _ = _
  unfold bL_grain
  have e1 := run_draw (k := k) (h := h) hn (hp.weak (k := 1) (by decide)) (m := 1000000000) (by decide) (by decide)
  have e2 := run_draw (k := k) (h := h) hn (draw_ok hp (m := 1000000000) (by decide)) (m := 4) (by decide) (by decide)
  have b1 := draw_lo (drawP p 1000000000).2 (m := 4) (by decide)
  have b2 := draw_hi (drawP p 1000000000).2 (m := 4) (by decide)
  simp -implicitDefEqProofs (disch := first | omega | decide +kernel | exact rfl | (simp only [List.length_cons, List.length_nil]; decide +kernel)) only [↓Iv.slotK_0, ↓Iv.slotK_s, ↓Iv.setK_0, ↓Iv.setK_s, ↓Iv.nthK_0, ↓Iv.nthK_s, ↓Iv.permK_0, ↓Iv.permK_s, ↓Iv.e_v, ↓Iv.e_c, ↓Iv.e_tup, ↓Iv.e_lstv, ↓Iv.e_alloc, ↓Iv.e_bin, ↓Iv.e_neg, ↓Iv.e_cmp, ↓Iv.e_chain, ↓Iv.e_and, ↓Iv.e_or, ↓Iv.e_notK, ↓Iv.notK_T, ↓Iv.notK_F, ↓Iv.e_ite, ↓Iv.e_idx, ↓Iv.e_call, ↓Iv.e_bi, ↓Iv.es_nil, ↓Iv.es_cons, ↓Iv.f_disp, ↓Iv.new_3, ↓Iv.new_0, ↓Iv.sz_0, ↓Iv.sz_1, ↓Iv.sz_2, ↓Iv.sz_3, ↓Iv.sz_4, ↓Iv.sz_5, ↓Iv.sz_6, ↓Iv.sz_7, ↓Iv.sz_8, ↓Iv.sz_9, ↓Iv.sz_10, ↓Iv.sz_11, ↓Iv.sz_12, ↓Iv.sz_13, ↓Iv.sz_14, ↓Iv.t_nm, ↓Iv.t_tup, ↓Iv.t_lst, ↓Iv.t_sub, ↓Iv.ts_nil, ↓Iv.ts_cons, ↓Iv.ss_nil, ↓Iv.ss_cons, ↓Iv.seqK_rt, ↓Iv.seqK_nx, ↓Iv.s_asg, ↓Iv.s_aug, ↓Iv.s_expr, ↓Iv.s_ret, ↓Iv.s_retN, ↓Iv.s_pass, ↓Iv.s_ite, ↓Iv.s_for, ↓Iv.i_range1, ↓Iv.i_range2, ↓Iv.i_seq, ↓Iv.rgK_is, ↓Iv.rgK2_is, ↓Iv.itK_lst, ↓Iv.itK_tup, ↓Iv.o_add, ↓Iv.o_sub, ↓Iv.o_mul_l, ↓Iv.o_mul_r, ↓Iv.md600, ↓Iv.o_mod, ↓Iv.o_fdiv_s, ↓Iv.o_shl, ↓Iv.o_neg, ↓Iv.c_lt, ↓Iv.c_le, ↓Iv.c_gt, ↓Iv.c_ge, ↓Iv.c_eqI, ↓Iv.c_neI, ↓Iv.bl_K, ↓Iv.b_lenL, ↓Iv.b_lenT, ↓Iv.b_abs, ↓Iv.b_min2, ↓Iv.b_max2, ↓Iv.b_bits, ↓Iv.b_isaI_i, ↓Iv.b_isaI_b, ↓Iv.b_isaB_i, ↓Iv.b_isaB_b, ↓Iv.x_pick2, ↓Iv.x_pick3, ↓Iv.x_pick4, ↓Iv.x_pick5, ↓Iv.iteB_T, ↓Iv.iteB_F, ↓Iv.iteB_dT, ↓Iv.iteB_dF, ↓Iv.iteB_nT, ↓Iv.iteB_nF, ↓Iv.bodyF_is, ↓Iv.end_i, ↓Iv.end_b, ↓Iv.end_s, ↓Iv.end_iS, ↓Iv.end_iL, ↓Iv.end_own, ↓Iv.end_n, ↓Iv.end_r, ↓Iv.end_puI, ↓Iv.end_puB, ↓Iv.end_puT, ↓Iv.pw6, ↓Iv.pw9, ↓Iv.pw12, ↓Iv.pw18, ↓Iv.pw24, ↓Iv.pw30, ↓Iv.pw60, ↓Iv.pw600, ↓Iv.md600, ↓Iv.x_p0, ↓Iv.x_p1, ↓Iv.x_p2, ↓Iv.st_p0, ↓Iv.st_p2, ↓Iv.e_kidx, ↓Iv.e_kget, ↓Iv.e_dnew, ↓Iv.e_dfin, ↓Iv.kidx_hit, ↓Iv.kidx_miss, ↓Iv.c_strT, ↓Iv.c_strF, ↓Iv.c_nstrT, ↓Iv.c_nstrF, ↓Iv.c_isNs, ↓Iv.c_isNi, ↓Iv.c_isNt, ↓Iv.c_isNn, ↓Iv.b_isaT_t, ↓Iv.b_isaS_s, ↓Iv.b_lenS, ↓Iv.e_slice, ↓Iv.f_slc, ↓Iv.f_cat, ↓Iv.f_lst1, ↓Iv.f_comp, ↓Iv.turnC_k, ↓Iv.wipeK_0, ↓Iv.wipeK_s, ↓Iv.unsetK_0, ↓Iv.unsetK_s, ↓Iv.p_nm, ↓Iv.p_tup, ↓Iv.ps_0, ↓Iv.ps_s, ↓Iv.addK_n, ↓Iv.addK_s, ↓Iv.ifs_nil, ↓Iv.ifs_one, ↓Iv.optK_some, ↓Iv.partK_i, ↓Iv.s_app, ↓Iv.s_setF, ↓Iv.s_setA, ↓Iv.s_dext, ↓Iv.dctK_fin, ↓Iv.chkK_T, ↓Iv.o_aug_add, ↓Iv.o_aug_sub, ↓Iv.b_int1, ↓Iv.b_int1b, ↓Iv.b_tup1, ↓Iv.b_tup1t, ↓Iv.comp_nil, ↓Iv.comp_k, ↓Iv.i_zipS, ↓Iv.i_enumS, ↓Iv.xt_0, ↓Iv.xt_1, ↓Iv.xt_2, ↓Iv.xt_3, ↓Iv.xt_4, ↓Iv.xt_5, ↓Iv.xl_0, ↓Iv.xl_1, ↓Iv.xl_2, ↓Iv.xl_3, ↓Iv.xl_4, ↓Iv.o_addT, ↓Iv.b_divmod, ↓bnd_of e1, ↓bnd_of e2, Bool.not_true, Bool.not_false, decide_true, decide_false, eq_self, List.cons_append, List.nil_append]
  rfl
theorem grain_ok {p : P} {k : Nat} (h : p.ok (k + 2)) : (grainV p).2.ok k := draw_ok (draw_ok h (m := 1000000000) (by decide)) (m := 4) (by decide)
end Law

set_option maxHeartbeats 1000000
namespace Law
open PySem L2 Iv
/-! ### the noise by itself -/
theorem sub_mod_div {x w : Int} (hw : 0 < w) : (x - x % w) / w = x / w := by
  have e : x - x % w = w * (x / w) := by have := Int.mul_ediv_add_emod x w; omega
  rw [e, Int.mul_ediv_cancel_left _ (by omega)]
theorem o_mulK {β : Type} {κ : D → M β} {i s t a b : Int} {h : AH} : binK .mul (.int i) (.int (knotV s t a b)) κ h = κ (.int (i * knotV s t a b)) h := o_mul_r (by have := @knot_ge s t a b; have := @knot_lt s t a b; omega)
theorem run_lnoise {k : Nat} {s t l x z : Int} {h : AH} (h0 : 0 ≤ l) (h1 : l ≤ 8) : run T (k + 2) fL_noise [noiseD t l, .int s, .int x, .int z] h = some (.int (noiseV s t l x z), h) := by
  rw [run_eq (fn := tL_noise.fn) rfl rfl]
  show bnd (semSs _ bL_noise [some (noiseD t l), some (.int s), some (.int x), some (.int z), none, none, none, none, none, none]) (endK .cut h) _ = _
  unfold bL_noise
  have hb := wid_b h0 h1
  have hw : (1 : Int) * 2 ^ l.toNat = wid l := rfl
  have p0 := Int.emod_nonneg x (b := wid l) (by omega)
  have p1 := Int.emod_lt_of_pos x (b := wid l) (by omega)
  have q0 := Int.emod_nonneg z (b := wid l) (by omega)
  have q1 := Int.emod_lt_of_pos z (b := wid l) (by omega)
  have hp : 0 < wid l * wid l := Int.mul_pos (by omega) (by omega)
  have hp2 : wid l * wid l ≤ 256 * 256 := Int.mul_le_mul (by omega) (by omega) (by omega) (by omega)
  simp -implicitDefEqProofs (disch := first | omega | decide +kernel | exact rfl | (simp only [List.length_cons, List.length_nil]; decide +kernel)) only [↓Iv.slotK_0, ↓Iv.slotK_s, ↓Iv.setK_0, ↓Iv.setK_s, ↓Iv.nthK_0, ↓Iv.nthK_s, ↓Iv.permK_0, ↓Iv.permK_s, ↓Iv.e_v, ↓Iv.e_c, ↓Iv.e_tup, ↓Iv.e_lstv, ↓Iv.e_alloc, ↓Iv.e_bin, ↓Iv.e_neg, ↓Iv.e_cmp, ↓Iv.e_chain, ↓Iv.e_and, ↓Iv.e_or, ↓Iv.e_notK, ↓Iv.notK_T, ↓Iv.notK_F, ↓Iv.e_ite, ↓Iv.e_idx, ↓Iv.e_call, ↓Iv.e_bi, ↓Iv.es_nil, ↓Iv.es_cons, ↓Iv.f_disp, ↓Iv.new_3, ↓Iv.new_0, ↓Iv.sz_0, ↓Iv.sz_1, ↓Iv.sz_2, ↓Iv.sz_3, ↓Iv.sz_4, ↓Iv.sz_5, ↓Iv.sz_6, ↓Iv.sz_7, ↓Iv.sz_8, ↓Iv.sz_9, ↓Iv.sz_10, ↓Iv.sz_11, ↓Iv.sz_12, ↓Iv.sz_13, ↓Iv.sz_14, ↓Iv.t_nm, ↓Iv.t_tup, ↓Iv.t_lst, ↓Iv.t_sub, ↓Iv.ts_nil, ↓Iv.ts_cons, ↓Iv.ss_nil, ↓Iv.ss_cons, ↓Iv.seqK_rt, ↓Iv.seqK_nx, ↓Iv.s_asg, ↓Iv.s_aug, ↓Iv.s_expr, ↓Iv.s_ret, ↓Iv.s_retN, ↓Iv.s_pass, ↓Iv.s_ite, ↓Iv.s_for, ↓Iv.i_range1, ↓Iv.i_range2, ↓Iv.i_seq, ↓Iv.rgK_is, ↓Iv.rgK2_is, ↓Iv.itK_lst, ↓Iv.itK_tup, ↓Iv.o_add, ↓Iv.o_sub, ↓Iv.o_mul_l, ↓Iv.o_mul_r, ↓Iv.md600, ↓Iv.o_mod, ↓Iv.o_fdiv_s, ↓Iv.o_shl, ↓Iv.o_neg, ↓Iv.c_lt, ↓Iv.c_le, ↓Iv.c_gt, ↓Iv.c_ge, ↓Iv.c_eqI, ↓Iv.c_neI, ↓Iv.bl_K, ↓Iv.b_lenL, ↓Iv.b_lenT, ↓Iv.b_abs, ↓Iv.b_min2, ↓Iv.b_max2, ↓Iv.b_bits, ↓Iv.b_isaI_i, ↓Iv.b_isaI_b, ↓Iv.b_isaB_i, ↓Iv.b_isaB_b, ↓Iv.x_pick2, ↓Iv.x_pick3, ↓Iv.x_pick4, ↓Iv.x_pick5, ↓Iv.iteB_T, ↓Iv.iteB_F, ↓Iv.iteB_dT, ↓Iv.iteB_dF, ↓Iv.iteB_nT, ↓Iv.iteB_nF, ↓Iv.bodyF_is, ↓Iv.end_i, ↓Iv.end_b, ↓Iv.end_s, ↓Iv.end_iS, ↓Iv.end_iL, ↓Iv.end_own, ↓Iv.end_n, ↓Iv.end_r, ↓Iv.end_puI, ↓Iv.end_puB, ↓Iv.end_puT, ↓Iv.pw6, ↓Iv.pw9, ↓Iv.pw12, ↓Iv.pw18, ↓Iv.pw24, ↓Iv.pw30, ↓Iv.pw60, ↓Iv.pw600, ↓Iv.md600, ↓Iv.x_p0, ↓Iv.x_p1, ↓Iv.x_p2, ↓Iv.st_p0, ↓Iv.st_p2, ↓Iv.e_kidx, ↓Iv.e_kget, ↓Iv.e_dnew, ↓Iv.e_dfin, ↓Iv.kidx_hit, ↓Iv.kidx_miss, ↓Iv.c_strT, ↓Iv.c_strF, ↓Iv.c_nstrT, ↓Iv.c_nstrF, ↓Iv.c_isNs, ↓Iv.c_isNi, ↓Iv.c_isNt, ↓Iv.c_isNn, ↓Iv.b_isaT_t, ↓Iv.b_isaS_s, ↓Iv.b_lenS, ↓Iv.e_slice, ↓Iv.f_slc, ↓Iv.f_cat, ↓Iv.f_lst1, ↓Iv.f_comp, ↓Iv.turnC_k, ↓Iv.wipeK_0, ↓Iv.wipeK_s, ↓Iv.unsetK_0, ↓Iv.unsetK_s, ↓Iv.p_nm, ↓Iv.p_tup, ↓Iv.ps_0, ↓Iv.ps_s, ↓Iv.addK_n, ↓Iv.addK_s, ↓Iv.ifs_nil, ↓Iv.ifs_one, ↓Iv.optK_some, ↓Iv.partK_i, ↓Iv.s_app, ↓Iv.s_setF, ↓Iv.s_setA, ↓Iv.s_dext, ↓Iv.dctK_fin, ↓Iv.chkK_T, ↓Iv.o_aug_add, ↓Iv.o_aug_sub, ↓Iv.b_int1, ↓Iv.b_int1b, ↓Iv.b_tup1, ↓Iv.b_tup1t, ↓Iv.comp_nil, ↓Iv.comp_k, ↓Iv.i_zipS, ↓Iv.i_enumS, ↓Iv.xt_0, ↓Iv.xt_1, ↓Iv.xt_2, ↓Iv.xt_3, ↓Iv.xt_4, ↓Iv.xt_5, ↓Iv.xl_0, ↓Iv.xl_1, ↓Iv.xl_2, ↓Iv.xl_3, ↓Iv.xl_4, ↓Iv.o_addT, ↓Iv.b_divmod, hw, ↓bnd_of run_lknot, ↓o_mulK, Bool.not_true, Bool.not_false, decide_true, decide_false, eq_self, List.cons_append, List.nil_append]
  rw [sub_mod_div (by omega), sub_mod_div (by omega)]
  unfold noiseV noiseW near
  congr 3
  congr 1
  generalize wid l - x % wid l = a
  generalize wid l - z % wid l = b
  rw [Int.mul_add, Int.mul_add]
  ac_rfl
def edge (u v w k : Int) : Int := (u * (w - k) + v * k) / w
theorem edge_0 {u v w : Int} (hw : 0 < w) : edge u v w 0 = u := by
  unfold edge
  rw [Int.sub_zero, Int.mul_zero, Int.add_zero, Int.mul_ediv_cancel _ (by omega)]
theorem edge_w {u v w : Int} (hw : 0 < w) : edge u v w w = v := by
  unfold edge
  rw [Int.sub_self, Int.mul_zero, Int.zero_add, Int.mul_ediv_cancel _ (by omega)]
theorem edge_up {u v w k : Int} (hw : 0 < w) (huv : u ≤ v) : edge u v w k ≤ edge u v w (k + 1) := by
  unfold edge
  refine Int.ediv_le_ediv hw ?_
  have e1 : u * (w - (k + 1)) = u * (w - k) - u := by rw [show w - (k + 1) = w - k - 1 by omega, Int.mul_sub, Int.mul_one]
  have e2 : v * (k + 1) = v * k + v := by rw [Int.mul_add, Int.mul_one]
  omega
theorem edge_down {u v w k : Int} (hw : 0 < w) (huv : v ≤ u) : edge u v w (k + 1) ≤ edge u v w k := by
  unfold edge
  refine Int.ediv_le_ediv hw ?_
  have e1 : u * (w - (k + 1)) = u * (w - k) - u := by rw [show w - (k + 1) = w - k - 1 by omega, Int.mul_sub, Int.mul_one]
  have e2 : v * (k + 1) = v * k + v := by rw [Int.mul_add, Int.mul_one]
  omega
theorem div_at {a w k : Int} (hw : 0 < w) (k0 : 0 ≤ k) (k1 : k < w) : (a * w + k) / w = a ∧ (a * w + k) % w = k := by
  refine ⟨?_, ?_⟩
  · rw [Int.add_comm, Int.add_mul_ediv_right _ _ (by omega), Int.ediv_eq_zero_of_lt k0 k1, Int.zero_add]
  · rw [Int.add_comm, Int.add_mul_emod_self_right, Int.emod_eq_of_lt k0 k1]
theorem sq_div {n w : Int} (hw : 0 < w) : w * n / (w * w) = n / w := Int.mul_ediv_mul_of_pos _ _ hw
theorem noise_x {s t w a b k : Int} (hw : 0 < w) (k0 : 0 ≤ k) (k1 : k < w) : noiseW s t w (a * w + k) (b * w) = edge (knotV s t a b) (knotV s t (a + 1) b) w k := by
  have e := div_at (a := a) hw k0 k1
  have f := div_at (a := b) (k := 0) hw (by omega) hw
  rw [Int.add_zero] at f
  unfold noiseW near edge
  rw [e.1, e.2, f.1, f.2, Int.sub_zero, Int.zero_mul, Int.add_zero, sq_div hw]
  congr 1
  rw [Int.mul_comm (w - k), Int.mul_comm k]
theorem noise_z {s t w a b k : Int} (hw : 0 < w) (k0 : 0 ≤ k) (k1 : k < w) : noiseW s t w (a * w) (b * w + k) = edge (knotV s t a b) (knotV s t a (b + 1)) w k := by
  have e := div_at (a := b) hw k0 k1
  have f := div_at (a := a) (k := 0) hw (by omega) hw
  rw [Int.add_zero] at f
  unfold noiseW near edge
  rw [e.1, e.2, f.1, f.2, Int.sub_zero, Int.zero_mul, Int.zero_mul, Int.add_zero, Int.add_zero]
  have g : (w - k) * (w * knotV s t a b) + k * (w * knotV s t a (b + 1)) = w * (knotV s t a b * (w - k) + knotV s t a (b + 1) * k) := by
    generalize w - k = m
    rw [Int.mul_add]
    ac_rfl
  rw [g, sq_div hw]
theorem noise_k {s t w a b : Int} (hw : 0 < w) : noiseW s t w (a * w) (b * w) = knotV s t a b := by
  have e := noise_x (s := s) (t := t) (a := a) (b := b) (k := 0) hw (by omega) hw
  rw [Int.add_zero, edge_0 hw] at e
  exact e
theorem noise_xw {s t w a b k : Int} (hw : 0 < w) (k0 : 0 ≤ k) (k1 : k ≤ w) : noiseW s t w (a * w + k) (b * w) = edge (knotV s t a b) (knotV s t (a + 1) b) w k := by
  by_cases c : k < w
  · exact noise_x hw k0 c
  · have : k = w := by omega
    subst this
    rw [edge_w hw, show a * k + k = (a + 1) * k by rw [Int.add_mul, Int.one_mul], noise_k hw]
theorem noise_zw {s t w a b k : Int} (hw : 0 < w) (k0 : 0 ≤ k) (k1 : k ≤ w) : noiseW s t w (a * w) (b * w + k) = edge (knotV s t a b) (knotV s t a (b + 1)) w k := by
  by_cases c : k < w
  · exact noise_z hw k0 c
  · have : k = w := by omega
    subst this
    rw [edge_w hw, show b * k + k = (b + 1) * k by rw [Int.add_mul, Int.one_mul], noise_k hw]
theorem noise_half2 {u v m : Int} (hm : 0 < m) : edge u v (2 * m) m = (u + v) / 2 := by
  unfold edge
  have e : u * (2 * m - m) + v * m = m * (u + v) := by
    rw [show 2 * m - m = m by omega, Int.mul_add, Int.mul_comm u, Int.mul_comm v]
  rw [e, Int.mul_comm 2 m, Int.mul_ediv_mul_of_pos _ _ hm]
theorem noise_half4 {s t a b m : Int} (hm : 0 < m) : noiseW s t (2 * m) (a * (2 * m) + m) (b * (2 * m) + m) = (knotV s t a b + (knotV s t (a + 1) b + (knotV s t a (b + 1) + (knotV s t (a + 1) (b + 1) + 0)))) / 4 := by
  have e := div_at (a := a) (w := 2 * m) (k := m) (by omega) (by omega) (by omega)
  have f := div_at (a := b) (w := 2 * m) (k := m) (by omega) (by omega) (by omega)
  unfold noiseW near
  rw [e.1, e.2, f.1, f.2, show 2 * m - m = m by omega]
  have g : m * (m * knotV s t a b + m * knotV s t (a + 1) b) + m * (m * knotV s t a (b + 1) + m * knotV s t (a + 1) (b + 1)) = (m * m) * (knotV s t a b + (knotV s t (a + 1) b + (knotV s t a (b + 1) + (knotV s t (a + 1) (b + 1) + 0)))) := by
    rw [Int.add_zero]
    simp only [Int.mul_add]
    ac_rfl
  have g2 : 2 * m * (2 * m) = (m * m) * 4 := by
    have : (4 : Int) = 2 * 2 := rfl
    rw [this]
    ac_rfl
  rw [g, g2, Int.mul_ediv_mul_of_pos _ _ (Int.mul_pos hm hm)]
end Law

set_option maxHeartbeats 1000000
namespace Law
open PySem L2 Iv
def spanM (p : P) : Int := pick [9, 300, 100000, 1000001] (drawP p 4).1
theorem spanM_b (p : P) : 0 < spanM p ∧ (spanM p).natAbs < 2 ^ 62 := by
  have : spanM p ∈ [9, 300, 100000, 1000001] := pick_mem (draw_lo p (by decide)) (draw_hi p (by decide))
  simp only [List.mem_cons, List.not_mem_nil, or_false] at this
  omega
def one1 (p : P) : Int × P := ((if (drawP (drawP p 4).2 (spanM p)).1 < 1000000 then (drawP (drawP p 4).2 (spanM p)).1 else 1000000) * (1 - 2 * (drawP (drawP (drawP p 4).2 (spanM p)).2 2).1), (drawP (drawP (drawP p 4).2 (spanM p)).2 2).2)
theorem one1_b (p : P) : (one1 p).1.natAbs ≤ 1000000 := by
  have hb := spanM_b p
  have a0 := draw_lo (drawP p 4).2 hb.1
  have b0 := draw_lo (drawP (drawP p 4).2 (spanM p)).2 (m := 2) (by decide)
  have b1 := draw_hi (drawP (drawP p 4).2 (spanM p)).2 (m := 2) (by decide)
  unfold one1
  dsimp only
  have : (drawP (drawP (drawP p 4).2 (spanM p)).2 2).1 = 0 ∨ (drawP (drawP (drawP p 4).2 (spanM p)).2 2).1 = 1 := by omega
  rcases this with e | e <;> rw [e] <;> split <;> omega
theorem one1_ok {p : P} {k : Nat} (h : p.ok (k + 3)) : (one1 p).2.ok k := draw_ok (draw_ok (draw_ok h (m := 4) (by decide)) (spanM_b p).2) (m := 2) (by decide)
theorem run_place {k : Nat} {n : Nat} {p : P} {h : AH} (hn : n < h.length) (hp : p.ok 6) :
    run T (k + 3) fL_place [.ref n] (h.set n (purseO p)) = some (.tup [.int (one1 p).1, .int (one1 (one1 p).2).1], h.set n (purseO (one1 (one1 p).2).2)) := by
  rw [run_eq (fn := tL_place.fn) rfl rfl]
  show bnd (semSs _ bL_place [some (.ref n), none, none, none]) (endK .cut (h.set n (purseO p))) _ = _
  unfold bL_place
  have go : ∀ (p : P) (g : AH), p.ok 3 → n < g.length → run T (k + 2) fL_draw [.ref n, .int 4] (g.set n (purseO p)) = some (.int (drawP p 4).1, g.set n (purseO (drawP p 4).2)) ∧
      run T (k + 2) fL_draw [.ref n, .int (spanM p)] (g.set n (purseO (drawP p 4).2)) = some (.int (drawP (drawP p 4).2 (spanM p)).1, g.set n (purseO (drawP (drawP p 4).2 (spanM p)).2)) ∧
      run T (k + 2) fL_draw [.ref n, .int 2] (g.set n (purseO (drawP (drawP p 4).2 (spanM p)).2)) = some (.int (drawP (drawP (drawP p 4).2 (spanM p)).2 2).1, g.set n (purseO (drawP (drawP (drawP p 4).2 (spanM p)).2 2).2)) := by
    intro p g hp hg
    have hb := spanM_b p
    have o1 := draw_ok hp (m := 4) (by decide)
    have o2 := draw_ok o1 hb.2
    exact ⟨run_draw hg (hp.weak (by decide)) (by decide) (by decide), run_draw hg (o1.weak (by decide)) hb.1 hb.2, run_draw hg o2 (by decide) (by decide)⟩
  have r2 : rangeL 0 (2 : Int).toNat = [.int 0, .int 1] := rfl
  simp -implicitDefEqProofs (disch := first | omega | decide +kernel | exact rfl | (simp only [List.length_cons, List.length_nil]; decide +kernel)) only [↓Iv.slotK_0, ↓Iv.slotK_s, ↓Iv.setK_0, ↓Iv.setK_s, ↓Iv.nthK_0, ↓Iv.nthK_s, ↓Iv.permK_0, ↓Iv.permK_s, ↓Iv.e_v, ↓Iv.e_c, ↓Iv.e_tup, ↓Iv.e_lstv, ↓Iv.e_alloc, ↓Iv.e_bin, ↓Iv.e_neg, ↓Iv.e_cmp, ↓Iv.e_chain, ↓Iv.e_and, ↓Iv.e_or, ↓Iv.e_notK, ↓Iv.notK_T, ↓Iv.notK_F, ↓Iv.e_ite, ↓Iv.e_idx, ↓Iv.e_call, ↓Iv.e_bi, ↓Iv.es_nil, ↓Iv.es_cons, ↓Iv.f_disp, ↓Iv.new_3, ↓Iv.new_0, ↓Iv.sz_0, ↓Iv.sz_1, ↓Iv.sz_2, ↓Iv.sz_3, ↓Iv.sz_4, ↓Iv.sz_5, ↓Iv.sz_6, ↓Iv.sz_7, ↓Iv.sz_8, ↓Iv.sz_9, ↓Iv.sz_10, ↓Iv.sz_11, ↓Iv.sz_12, ↓Iv.sz_13, ↓Iv.sz_14, ↓Iv.t_nm, ↓Iv.t_tup, ↓Iv.t_lst, ↓Iv.t_sub, ↓Iv.ts_nil, ↓Iv.ts_cons, ↓Iv.ss_nil, ↓Iv.ss_cons, ↓Iv.seqK_rt, ↓Iv.seqK_nx, ↓Iv.s_asg, ↓Iv.s_aug, ↓Iv.s_expr, ↓Iv.s_ret, ↓Iv.s_retN, ↓Iv.s_pass, ↓Iv.s_ite, ↓Iv.s_for, ↓Iv.i_range1, ↓Iv.i_range2, ↓Iv.i_seq, ↓Iv.rgK_is, ↓Iv.rgK2_is, ↓Iv.itK_lst, ↓Iv.itK_tup, ↓Iv.o_add, ↓Iv.o_sub, ↓Iv.o_mul_l, ↓Iv.o_mul_r, ↓Iv.md600, ↓Iv.o_mod, ↓Iv.o_fdiv_s, ↓Iv.o_shl, ↓Iv.o_neg, ↓Iv.c_lt, ↓Iv.c_le, ↓Iv.c_gt, ↓Iv.c_ge, ↓Iv.c_eqI, ↓Iv.c_neI, ↓Iv.bl_K, ↓Iv.b_lenL, ↓Iv.b_lenT, ↓Iv.b_abs, ↓Iv.b_min2, ↓Iv.b_max2, ↓Iv.b_bits, ↓Iv.b_isaI_i, ↓Iv.b_isaI_b, ↓Iv.b_isaB_i, ↓Iv.b_isaB_b, ↓Iv.x_pick2, ↓Iv.x_pick3, ↓Iv.x_pick4, ↓Iv.x_pick5, ↓Iv.iteB_T, ↓Iv.iteB_F, ↓Iv.iteB_dT, ↓Iv.iteB_dF, ↓Iv.iteB_nT, ↓Iv.iteB_nF, ↓Iv.bodyF_is, ↓Iv.end_i, ↓Iv.end_b, ↓Iv.end_s, ↓Iv.end_iS, ↓Iv.end_iL, ↓Iv.end_own, ↓Iv.end_n, ↓Iv.end_r, ↓Iv.end_puI, ↓Iv.end_puB, ↓Iv.end_puT, ↓Iv.pw6, ↓Iv.pw9, ↓Iv.pw12, ↓Iv.pw18, ↓Iv.pw24, ↓Iv.pw30, ↓Iv.pw60, ↓Iv.pw600, ↓Iv.md600, ↓Iv.x_p0, ↓Iv.x_p1, ↓Iv.x_p2, ↓Iv.st_p0, ↓Iv.st_p2, ↓Iv.e_kidx, ↓Iv.e_kget, ↓Iv.e_dnew, ↓Iv.e_dfin, ↓Iv.kidx_hit, ↓Iv.kidx_miss, ↓Iv.c_strT, ↓Iv.c_strF, ↓Iv.c_nstrT, ↓Iv.c_nstrF, ↓Iv.c_isNs, ↓Iv.c_isNi, ↓Iv.c_isNt, ↓Iv.c_isNn, ↓Iv.b_isaT_t, ↓Iv.b_isaS_s, ↓Iv.b_lenS, ↓Iv.e_slice, ↓Iv.f_slc, ↓Iv.f_cat, ↓Iv.f_lst1, ↓Iv.f_comp, ↓Iv.turnC_k, ↓Iv.wipeK_0, ↓Iv.wipeK_s, ↓Iv.unsetK_0, ↓Iv.unsetK_s, ↓Iv.p_nm, ↓Iv.p_tup, ↓Iv.ps_0, ↓Iv.ps_s, ↓Iv.addK_n, ↓Iv.addK_s, ↓Iv.ifs_nil, ↓Iv.ifs_one, ↓Iv.optK_some, ↓Iv.partK_i, ↓Iv.s_app, ↓Iv.s_setF, ↓Iv.s_setA, ↓Iv.s_dext, ↓Iv.dctK_fin, ↓Iv.chkK_T, ↓Iv.o_aug_add, ↓Iv.o_aug_sub, ↓Iv.b_int1, ↓Iv.b_int1b, ↓Iv.b_tup1, ↓Iv.b_tup1t, ↓Iv.comp_nil, ↓Iv.comp_k, ↓Iv.i_zipS, ↓Iv.i_enumS, ↓Iv.xt_0, ↓Iv.xt_1, ↓Iv.xt_2, ↓Iv.xt_3, ↓Iv.xt_4, ↓Iv.xt_5, ↓Iv.xl_0, ↓Iv.xl_1, ↓Iv.xl_2, ↓Iv.xl_3, ↓Iv.xl_4, ↓Iv.o_addT, ↓Iv.b_divmod, Bool.not_true, Bool.not_false, decide_true, decide_false, eq_self, List.cons_append, List.nil_append]
  rw [r2, set_app hn, List.length_set]
  have hg : ∀ ds, n < (h ++ [AO.lst ds]).length := fun ds => by rw [List.length_append]; omega
  obtain ⟨d1, d2, d3⟩ := go p _ (hp.weak (by decide)) (hg [])
  obtain ⟨d4, d5, d6⟩ := go (one1 p).2 _ (one1_ok hp) (hg [.int (one1 p).1])
  have b1 := draw_lo p (m := 4) (by decide)
  have b2 := draw_hi p (m := 4) (by decide)
  have b3 := draw_lo (one1 p).2 (m := 4) (by decide)
  have b4 := draw_hi (one1 p).2 (m := 4) (by decide)
  have b5 := draw_lo (drawP (drawP p 4).2 (spanM p)).2 (m := 2) (by decide)
  have b6 := draw_hi (drawP (drawP p 4).2 (spanM p)).2 (m := 2) (by decide)
  have b7 := draw_lo (drawP (drawP (one1 p).2 4).2 (spanM (one1 p).2)).2 (m := 2) (by decide)
  have b8 := draw_hi (drawP (drawP (one1 p).2 4).2 (spanM (one1 p).2)).2 (m := 2) (by decide)
  have e1 : pick [9, 300, 100000, 1000001] (drawP p 4).1 = spanM p := rfl
  have e2 : pick [9, 300, 100000, 1000001] (drawP (one1 p).2 4).1 = spanM (one1 p).2 := rfl
  have a1 : ∀ {κ : M D} {q : P}, appK (.ref h.length) (.int (one1 p).1) κ ((h ++ [AO.lst []]).set n (purseO q)) = κ ((h ++ [AO.lst [.int (one1 p).1]]).set n (purseO q)) := app_end (ds := []) (v := .int (one1 p).1) hn rfl (by decide)
  have a2 : ∀ {κ : M D} {q : P}, appK (.ref h.length) (.int (one1 (one1 p).2).1) κ ((h ++ [AO.lst [.int (one1 p).1]]).set n (purseO q)) = κ ((h ++ [AO.lst [.int (one1 p).1, .int (one1 (one1 p).2).1]]).set n (purseO q)) := app_end (ds := [.int (one1 p).1]) hn rfl (by show 1 < _; decide)
  simp -implicitDefEqProofs (disch := first | omega | decide +kernel | exact rfl | (simp only [List.length_cons, List.length_nil]; decide +kernel)) only [↓Iv.slotK_0, ↓Iv.slotK_s, ↓Iv.setK_0, ↓Iv.setK_s, ↓Iv.nthK_0, ↓Iv.nthK_s, ↓Iv.permK_0, ↓Iv.permK_s, ↓Iv.e_v, ↓Iv.e_c, ↓Iv.e_tup, ↓Iv.e_lstv, ↓Iv.e_alloc, ↓Iv.e_bin, ↓Iv.e_neg, ↓Iv.e_cmp, ↓Iv.e_chain, ↓Iv.e_and, ↓Iv.e_or, ↓Iv.e_notK, ↓Iv.notK_T, ↓Iv.notK_F, ↓Iv.e_ite, ↓Iv.e_idx, ↓Iv.e_call, ↓Iv.e_bi, ↓Iv.es_nil, ↓Iv.es_cons, ↓Iv.f_disp, ↓Iv.new_3, ↓Iv.new_0, ↓Iv.sz_0, ↓Iv.sz_1, ↓Iv.sz_2, ↓Iv.sz_3, ↓Iv.sz_4, ↓Iv.sz_5, ↓Iv.sz_6, ↓Iv.sz_7, ↓Iv.sz_8, ↓Iv.sz_9, ↓Iv.sz_10, ↓Iv.sz_11, ↓Iv.sz_12, ↓Iv.sz_13, ↓Iv.sz_14, ↓Iv.t_nm, ↓Iv.t_tup, ↓Iv.t_lst, ↓Iv.t_sub, ↓Iv.ts_nil, ↓Iv.ts_cons, ↓Iv.ss_nil, ↓Iv.ss_cons, ↓Iv.seqK_rt, ↓Iv.seqK_nx, ↓Iv.s_asg, ↓Iv.s_aug, ↓Iv.s_expr, ↓Iv.s_ret, ↓Iv.s_retN, ↓Iv.s_pass, ↓Iv.s_ite, ↓Iv.s_for, ↓Iv.i_range1, ↓Iv.i_range2, ↓Iv.i_seq, ↓Iv.rgK_is, ↓Iv.rgK2_is, ↓Iv.itK_lst, ↓Iv.itK_tup, ↓Iv.o_add, ↓Iv.o_sub, ↓Iv.o_mul_l, ↓Iv.o_mul_r, ↓Iv.md600, ↓Iv.o_mod, ↓Iv.o_fdiv_s, ↓Iv.o_shl, ↓Iv.o_neg, ↓Iv.c_lt, ↓Iv.c_le, ↓Iv.c_gt, ↓Iv.c_ge, ↓Iv.c_eqI, ↓Iv.c_neI, ↓Iv.bl_K, ↓Iv.b_lenL, ↓Iv.b_lenT, ↓Iv.b_abs, ↓Iv.b_min2, ↓Iv.b_max2, ↓Iv.b_bits, ↓Iv.b_isaI_i, ↓Iv.b_isaI_b, ↓Iv.b_isaB_i, ↓Iv.b_isaB_b, ↓Iv.x_pick2, ↓Iv.x_pick3, ↓Iv.x_pick4, ↓Iv.x_pick5, ↓Iv.iteB_T, ↓Iv.iteB_F, ↓Iv.iteB_dT, ↓Iv.iteB_dF, ↓Iv.iteB_nT, ↓Iv.iteB_nF, ↓Iv.bodyF_is, ↓Iv.end_i, ↓Iv.end_b, ↓Iv.end_s, ↓Iv.end_iS, ↓Iv.end_iL, ↓Iv.end_own, ↓Iv.end_n, ↓Iv.end_r, ↓Iv.end_puI, ↓Iv.end_puB, ↓Iv.end_puT, ↓Iv.pw6, ↓Iv.pw9, ↓Iv.pw12, ↓Iv.pw18, ↓Iv.pw24, ↓Iv.pw30, ↓Iv.pw60, ↓Iv.pw600, ↓Iv.md600, ↓Iv.x_p0, ↓Iv.x_p1, ↓Iv.x_p2, ↓Iv.st_p0, ↓Iv.st_p2, ↓Iv.e_kidx, ↓Iv.e_kget, ↓Iv.e_dnew, ↓Iv.e_dfin, ↓Iv.kidx_hit, ↓Iv.kidx_miss, ↓Iv.c_strT, ↓Iv.c_strF, ↓Iv.c_nstrT, ↓Iv.c_nstrF, ↓Iv.c_isNs, ↓Iv.c_isNi, ↓Iv.c_isNt, ↓Iv.c_isNn, ↓Iv.b_isaT_t, ↓Iv.b_isaS_s, ↓Iv.b_lenS, ↓Iv.e_slice, ↓Iv.f_slc, ↓Iv.f_cat, ↓Iv.f_lst1, ↓Iv.f_comp, ↓Iv.turnC_k, ↓Iv.wipeK_0, ↓Iv.wipeK_s, ↓Iv.unsetK_0, ↓Iv.unsetK_s, ↓Iv.p_nm, ↓Iv.p_tup, ↓Iv.ps_0, ↓Iv.ps_s, ↓Iv.addK_n, ↓Iv.addK_s, ↓Iv.ifs_nil, ↓Iv.ifs_one, ↓Iv.optK_some, ↓Iv.partK_i, ↓Iv.s_app, ↓Iv.s_setF, ↓Iv.s_setA, ↓Iv.s_dext, ↓Iv.dctK_fin, ↓Iv.chkK_T, ↓Iv.o_aug_add, ↓Iv.o_aug_sub, ↓Iv.b_int1, ↓Iv.b_int1b, ↓Iv.b_tup1, ↓Iv.b_tup1t, ↓Iv.comp_nil, ↓Iv.comp_k, ↓Iv.i_zipS, ↓Iv.i_enumS, ↓Iv.xt_0, ↓Iv.xt_1, ↓Iv.xt_2, ↓Iv.xt_3, ↓Iv.xt_4, ↓Iv.xt_5, ↓Iv.xl_0, ↓Iv.xl_1, ↓Iv.xl_2, ↓Iv.xl_3, ↓Iv.xl_4, ↓Iv.o_addT, ↓Iv.b_divmod, ↓for_1, ↓for_0, ↓loopK_nx, ↓isL_end hn, ↓bnd_of d1, ↓bnd_of d2, ↓bnd_of d3, e1, Bool.not_true, Bool.not_false, decide_true, decide_false, eq_self, List.cons_append, List.nil_append]
  refine (a1 (q := (one1 p).2)).trans ?_
  simp -implicitDefEqProofs (disch := first | omega | decide +kernel | exact rfl | (simp only [List.length_cons, List.length_nil]; decide +kernel)) only [↓Iv.slotK_0, ↓Iv.slotK_s, ↓Iv.setK_0, ↓Iv.setK_s, ↓Iv.nthK_0, ↓Iv.nthK_s, ↓Iv.permK_0, ↓Iv.permK_s, ↓Iv.e_v, ↓Iv.e_c, ↓Iv.e_tup, ↓Iv.e_lstv, ↓Iv.e_alloc, ↓Iv.e_bin, ↓Iv.e_neg, ↓Iv.e_cmp, ↓Iv.e_chain, ↓Iv.e_and, ↓Iv.e_or, ↓Iv.e_notK, ↓Iv.notK_T, ↓Iv.notK_F, ↓Iv.e_ite, ↓Iv.e_idx, ↓Iv.e_call, ↓Iv.e_bi, ↓Iv.es_nil, ↓Iv.es_cons, ↓Iv.f_disp, ↓Iv.new_3, ↓Iv.new_0, ↓Iv.sz_0, ↓Iv.sz_1, ↓Iv.sz_2, ↓Iv.sz_3, ↓Iv.sz_4, ↓Iv.sz_5, ↓Iv.sz_6, ↓Iv.sz_7, ↓Iv.sz_8, ↓Iv.sz_9, ↓Iv.sz_10, ↓Iv.sz_11, ↓Iv.sz_12, ↓Iv.sz_13, ↓Iv.sz_14, ↓Iv.t_nm, ↓Iv.t_tup, ↓Iv.t_lst, ↓Iv.t_sub, ↓Iv.ts_nil, ↓Iv.ts_cons, ↓Iv.ss_nil, ↓Iv.ss_cons, ↓Iv.seqK_rt, ↓Iv.seqK_nx, ↓Iv.s_asg, ↓Iv.s_aug, ↓Iv.s_expr, ↓Iv.s_ret, ↓Iv.s_retN, ↓Iv.s_pass, ↓Iv.s_ite, ↓Iv.s_for, ↓Iv.i_range1, ↓Iv.i_range2, ↓Iv.i_seq, ↓Iv.rgK_is, ↓Iv.rgK2_is, ↓Iv.itK_lst, ↓Iv.itK_tup, ↓Iv.o_add, ↓Iv.o_sub, ↓Iv.o_mul_l, ↓Iv.o_mul_r, ↓Iv.md600, ↓Iv.o_mod, ↓Iv.o_fdiv_s, ↓Iv.o_shl, ↓Iv.o_neg, ↓Iv.c_lt, ↓Iv.c_le, ↓Iv.c_gt, ↓Iv.c_ge, ↓Iv.c_eqI, ↓Iv.c_neI, ↓Iv.bl_K, ↓Iv.b_lenL, ↓Iv.b_lenT, ↓Iv.b_abs, ↓Iv.b_min2, ↓Iv.b_max2, ↓Iv.b_bits, ↓Iv.b_isaI_i, ↓Iv.b_isaI_b, ↓Iv.b_isaB_i, ↓Iv.b_isaB_b, ↓Iv.x_pick2, ↓Iv.x_pick3, ↓Iv.x_pick4, ↓Iv.x_pick5, ↓Iv.iteB_T, ↓Iv.iteB_F, ↓Iv.iteB_dT, ↓Iv.iteB_dF, ↓Iv.iteB_nT, ↓Iv.iteB_nF, ↓Iv.bodyF_is, ↓Iv.end_i, ↓Iv.end_b, ↓Iv.end_s, ↓Iv.end_iS, ↓Iv.end_iL, ↓Iv.end_own, ↓Iv.end_n, ↓Iv.end_r, ↓Iv.end_puI, ↓Iv.end_puB, ↓Iv.end_puT, ↓Iv.pw6, ↓Iv.pw9, ↓Iv.pw12, ↓Iv.pw18, ↓Iv.pw24, ↓Iv.pw30, ↓Iv.pw60, ↓Iv.pw600, ↓Iv.md600, ↓Iv.x_p0, ↓Iv.x_p1, ↓Iv.x_p2, ↓Iv.st_p0, ↓Iv.st_p2, ↓Iv.e_kidx, ↓Iv.e_kget, ↓Iv.e_dnew, ↓Iv.e_dfin, ↓Iv.kidx_hit, ↓Iv.kidx_miss, ↓Iv.c_strT, ↓Iv.c_strF, ↓Iv.c_nstrT, ↓Iv.c_nstrF, ↓Iv.c_isNs, ↓Iv.c_isNi, ↓Iv.c_isNt, ↓Iv.c_isNn, ↓Iv.b_isaT_t, ↓Iv.b_isaS_s, ↓Iv.b_lenS, ↓Iv.e_slice, ↓Iv.f_slc, ↓Iv.f_cat, ↓Iv.f_lst1, ↓Iv.f_comp, ↓Iv.turnC_k, ↓Iv.wipeK_0, ↓Iv.wipeK_s, ↓Iv.unsetK_0, ↓Iv.unsetK_s, ↓Iv.p_nm, ↓Iv.p_tup, ↓Iv.ps_0, ↓Iv.ps_s, ↓Iv.addK_n, ↓Iv.addK_s, ↓Iv.ifs_nil, ↓Iv.ifs_one, ↓Iv.optK_some, ↓Iv.partK_i, ↓Iv.s_app, ↓Iv.s_setF, ↓Iv.s_setA, ↓Iv.s_dext, ↓Iv.dctK_fin, ↓Iv.chkK_T, ↓Iv.o_aug_add, ↓Iv.o_aug_sub, ↓Iv.b_int1, ↓Iv.b_int1b, ↓Iv.b_tup1, ↓Iv.b_tup1t, ↓Iv.comp_nil, ↓Iv.comp_k, ↓Iv.i_zipS, ↓Iv.i_enumS, ↓Iv.xt_0, ↓Iv.xt_1, ↓Iv.xt_2, ↓Iv.xt_3, ↓Iv.xt_4, ↓Iv.xt_5, ↓Iv.xl_0, ↓Iv.xl_1, ↓Iv.xl_2, ↓Iv.xl_3, ↓Iv.xl_4, ↓Iv.o_addT, ↓Iv.b_divmod, ↓for_1, ↓for_0, ↓loopK_nx, ↓isL_end hn, ↓bnd_of d4, ↓bnd_of d5, ↓bnd_of d6, e2, Bool.not_true, Bool.not_false, decide_true, decide_false, eq_self, List.cons_append, List.nil_append]
  refine (a2 (q := (one1 (one1 p).2).2)).trans ?_
  have x0 : ∀ {κ : D → M D} {q : P}, idxK (.ref h.length) (.int 0) κ ((h ++ [AO.lst [.int (one1 p).1, .int (one1 (one1 p).2).1]]).set n (purseO q)) = κ (.int (one1 p).1) _ := x_end (i := 0) hn rfl
  have x1 : ∀ {κ : D → M D} {q : P}, idxK (.ref h.length) (.int 1) κ ((h ++ [AO.lst [.int (one1 p).1, .int (one1 (one1 p).2).1]]).set n (purseO q)) = κ (.int (one1 (one1 p).2).1) _ := x_end (i := 1) hn rfl
  simp -implicitDefEqProofs (disch := first | omega | decide +kernel | exact rfl | (simp only [List.length_cons, List.length_nil]; decide +kernel)) only [↓Iv.slotK_0, ↓Iv.slotK_s, ↓Iv.setK_0, ↓Iv.setK_s, ↓Iv.nthK_0, ↓Iv.nthK_s, ↓Iv.permK_0, ↓Iv.permK_s, ↓Iv.e_v, ↓Iv.e_c, ↓Iv.e_tup, ↓Iv.e_lstv, ↓Iv.e_alloc, ↓Iv.e_bin, ↓Iv.e_neg, ↓Iv.e_cmp, ↓Iv.e_chain, ↓Iv.e_and, ↓Iv.e_or, ↓Iv.e_notK, ↓Iv.notK_T, ↓Iv.notK_F, ↓Iv.e_ite, ↓Iv.e_idx, ↓Iv.e_call, ↓Iv.e_bi, ↓Iv.es_nil, ↓Iv.es_cons, ↓Iv.f_disp, ↓Iv.new_3, ↓Iv.new_0, ↓Iv.sz_0, ↓Iv.sz_1, ↓Iv.sz_2, ↓Iv.sz_3, ↓Iv.sz_4, ↓Iv.sz_5, ↓Iv.sz_6, ↓Iv.sz_7, ↓Iv.sz_8, ↓Iv.sz_9, ↓Iv.sz_10, ↓Iv.sz_11, ↓Iv.sz_12, ↓Iv.sz_13, ↓Iv.sz_14, ↓Iv.t_nm, ↓Iv.t_tup, ↓Iv.t_lst, ↓Iv.t_sub, ↓Iv.ts_nil, ↓Iv.ts_cons, ↓Iv.ss_nil, ↓Iv.ss_cons, ↓Iv.seqK_rt, ↓Iv.seqK_nx, ↓Iv.s_asg, ↓Iv.s_aug, ↓Iv.s_expr, ↓Iv.s_ret, ↓Iv.s_retN, ↓Iv.s_pass, ↓Iv.s_ite, ↓Iv.s_for, ↓Iv.i_range1, ↓Iv.i_range2, ↓Iv.i_seq, ↓Iv.rgK_is, ↓Iv.rgK2_is, ↓Iv.itK_lst, ↓Iv.itK_tup, ↓Iv.o_add, ↓Iv.o_sub, ↓Iv.o_mul_l, ↓Iv.o_mul_r, ↓Iv.md600, ↓Iv.o_mod, ↓Iv.o_fdiv_s, ↓Iv.o_shl, ↓Iv.o_neg, ↓Iv.c_lt, ↓Iv.c_le, ↓Iv.c_gt, ↓Iv.c_ge, ↓Iv.c_eqI, ↓Iv.c_neI, ↓Iv.bl_K, ↓Iv.b_lenL, ↓Iv.b_lenT, ↓Iv.b_abs, ↓Iv.b_min2, ↓Iv.b_max2, ↓Iv.b_bits, ↓Iv.b_isaI_i, ↓Iv.b_isaI_b, ↓Iv.b_isaB_i, ↓Iv.b_isaB_b, ↓Iv.x_pick2, ↓Iv.x_pick3, ↓Iv.x_pick4, ↓Iv.x_pick5, ↓Iv.iteB_T, ↓Iv.iteB_F, ↓Iv.iteB_dT, ↓Iv.iteB_dF, ↓Iv.iteB_nT, ↓Iv.iteB_nF, ↓Iv.bodyF_is, ↓Iv.end_i, ↓Iv.end_b, ↓Iv.end_s, ↓Iv.end_iS, ↓Iv.end_iL, ↓Iv.end_own, ↓Iv.end_n, ↓Iv.end_r, ↓Iv.end_puI, ↓Iv.end_puB, ↓Iv.end_puT, ↓Iv.pw6, ↓Iv.pw9, ↓Iv.pw12, ↓Iv.pw18, ↓Iv.pw24, ↓Iv.pw30, ↓Iv.pw60, ↓Iv.pw600, ↓Iv.md600, ↓Iv.x_p0, ↓Iv.x_p1, ↓Iv.x_p2, ↓Iv.st_p0, ↓Iv.st_p2, ↓Iv.e_kidx, ↓Iv.e_kget, ↓Iv.e_dnew, ↓Iv.e_dfin, ↓Iv.kidx_hit, ↓Iv.kidx_miss, ↓Iv.c_strT, ↓Iv.c_strF, ↓Iv.c_nstrT, ↓Iv.c_nstrF, ↓Iv.c_isNs, ↓Iv.c_isNi, ↓Iv.c_isNt, ↓Iv.c_isNn, ↓Iv.b_isaT_t, ↓Iv.b_isaS_s, ↓Iv.b_lenS, ↓Iv.e_slice, ↓Iv.f_slc, ↓Iv.f_cat, ↓Iv.f_lst1, ↓Iv.f_comp, ↓Iv.turnC_k, ↓Iv.wipeK_0, ↓Iv.wipeK_s, ↓Iv.unsetK_0, ↓Iv.unsetK_s, ↓Iv.p_nm, ↓Iv.p_tup, ↓Iv.ps_0, ↓Iv.ps_s, ↓Iv.addK_n, ↓Iv.addK_s, ↓Iv.ifs_nil, ↓Iv.ifs_one, ↓Iv.optK_some, ↓Iv.partK_i, ↓Iv.s_app, ↓Iv.s_setF, ↓Iv.s_setA, ↓Iv.s_dext, ↓Iv.dctK_fin, ↓Iv.chkK_T, ↓Iv.o_aug_add, ↓Iv.o_aug_sub, ↓Iv.b_int1, ↓Iv.b_int1b, ↓Iv.b_tup1, ↓Iv.b_tup1t, ↓Iv.comp_nil, ↓Iv.comp_k, ↓Iv.i_zipS, ↓Iv.i_enumS, ↓Iv.xt_0, ↓Iv.xt_1, ↓Iv.xt_2, ↓Iv.xt_3, ↓Iv.xt_4, ↓Iv.xt_5, ↓Iv.xl_0, ↓Iv.xl_1, ↓Iv.xl_2, ↓Iv.xl_3, ↓Iv.xl_4, ↓Iv.o_addT, ↓Iv.b_divmod, ↓x0, ↓x1, ↓for_0, ↓loopK_nx, Bool.not_true, Bool.not_false, decide_true, decide_false, eq_self, List.cons_append, List.nil_append]
  exact end_keep1 (d := .tup [.int (one1 p).1, .int (one1 (one1 p).2).1]) hn rfl
theorem place_ok {p : P} {k : Nat} (h : p.ok (k + 6)) : (one1 (one1 p).2).2.ok k := one1_ok (one1_ok h)
abbrev ptD (s : Int × Int) : D := .tup [.int s.1, .int s.2]
def inB (s : Int × Int) : Bool := decide (s.1.natAbs ≤ 1000000) && decide (s.2.natAbs ≤ 1000000)
theorem abs_le {x : Int} : decide ((if x < 0 then -x else x) ≤ 1000000) = decide (x.natAbs ≤ 1000000) := by
  congr 1
  split <;> exact propext ⟨fun _ => by omega, fun _ => by omega⟩
/-- the comprehension that leaves out what lies beyond -/
theorem comp_spots {C : Cal} {all : List D} {a b c d e f g : Option D} {h : AH} : ∀ (L : List (Int × Int)) (κl : List D → M D), bnd (compL all none (turnC C (.nm 7) [7] [(.and (.cmp .le (.bi .abs [(.idx (.v 7) (.c (.int 0)))]) (.c (.int 1000000))) (.cmp .le (.bi .abs [(.idx (.v 7) (.c (.int 1)))]) (.c (.int 1000000))))] (.v 7) [a, b, c, d, e, f, g, none]) (L.map ptD)) κl h = κl ((L.filter inB).map ptD) h
  | [], κl => rfl
  | s :: L, κl => by
    simp only [List.map_cons]
    simp -implicitDefEqProofs (disch := first | omega | decide +kernel | exact rfl | (simp only [List.length_cons, List.length_nil]; decide +kernel)) only [↓Iv.slotK_0, ↓Iv.slotK_s, ↓Iv.setK_0, ↓Iv.setK_s, ↓Iv.nthK_0, ↓Iv.nthK_s, ↓Iv.permK_0, ↓Iv.permK_s, ↓Iv.e_v, ↓Iv.e_c, ↓Iv.e_tup, ↓Iv.e_lstv, ↓Iv.e_alloc, ↓Iv.e_bin, ↓Iv.e_neg, ↓Iv.e_cmp, ↓Iv.e_chain, ↓Iv.e_and, ↓Iv.e_or, ↓Iv.e_notK, ↓Iv.notK_T, ↓Iv.notK_F, ↓Iv.e_ite, ↓Iv.e_idx, ↓Iv.e_call, ↓Iv.e_bi, ↓Iv.es_nil, ↓Iv.es_cons, ↓Iv.f_disp, ↓Iv.new_3, ↓Iv.new_0, ↓Iv.sz_0, ↓Iv.sz_1, ↓Iv.sz_2, ↓Iv.sz_3, ↓Iv.sz_4, ↓Iv.sz_5, ↓Iv.sz_6, ↓Iv.sz_7, ↓Iv.sz_8, ↓Iv.sz_9, ↓Iv.sz_10, ↓Iv.sz_11, ↓Iv.sz_12, ↓Iv.sz_13, ↓Iv.sz_14, ↓Iv.t_nm, ↓Iv.t_tup, ↓Iv.t_lst, ↓Iv.t_sub, ↓Iv.ts_nil, ↓Iv.ts_cons, ↓Iv.ss_nil, ↓Iv.ss_cons, ↓Iv.seqK_rt, ↓Iv.seqK_nx, ↓Iv.s_asg, ↓Iv.s_aug, ↓Iv.s_expr, ↓Iv.s_ret, ↓Iv.s_retN, ↓Iv.s_pass, ↓Iv.s_ite, ↓Iv.s_for, ↓Iv.i_range1, ↓Iv.i_range2, ↓Iv.i_seq, ↓Iv.rgK_is, ↓Iv.rgK2_is, ↓Iv.itK_lst, ↓Iv.itK_tup, ↓Iv.o_add, ↓Iv.o_sub, ↓Iv.o_mul_l, ↓Iv.o_mul_r, ↓Iv.md600, ↓Iv.o_mod, ↓Iv.o_fdiv_s, ↓Iv.o_shl, ↓Iv.o_neg, ↓Iv.c_lt, ↓Iv.c_le, ↓Iv.c_gt, ↓Iv.c_ge, ↓Iv.c_eqI, ↓Iv.c_neI, ↓Iv.bl_K, ↓Iv.b_lenL, ↓Iv.b_lenT, ↓Iv.b_abs, ↓Iv.b_min2, ↓Iv.b_max2, ↓Iv.b_bits, ↓Iv.b_isaI_i, ↓Iv.b_isaI_b, ↓Iv.b_isaB_i, ↓Iv.b_isaB_b, ↓Iv.x_pick2, ↓Iv.x_pick3, ↓Iv.x_pick4, ↓Iv.x_pick5, ↓Iv.iteB_T, ↓Iv.iteB_F, ↓Iv.iteB_dT, ↓Iv.iteB_dF, ↓Iv.iteB_nT, ↓Iv.iteB_nF, ↓Iv.bodyF_is, ↓Iv.end_i, ↓Iv.end_b, ↓Iv.end_s, ↓Iv.end_iS, ↓Iv.end_iL, ↓Iv.end_own, ↓Iv.end_n, ↓Iv.end_r, ↓Iv.end_puI, ↓Iv.end_puB, ↓Iv.end_puT, ↓Iv.pw6, ↓Iv.pw9, ↓Iv.pw12, ↓Iv.pw18, ↓Iv.pw24, ↓Iv.pw30, ↓Iv.pw60, ↓Iv.pw600, ↓Iv.md600, ↓Iv.x_p0, ↓Iv.x_p1, ↓Iv.x_p2, ↓Iv.st_p0, ↓Iv.st_p2, ↓Iv.e_kidx, ↓Iv.e_kget, ↓Iv.e_dnew, ↓Iv.e_dfin, ↓Iv.kidx_hit, ↓Iv.kidx_miss, ↓Iv.c_strT, ↓Iv.c_strF, ↓Iv.c_nstrT, ↓Iv.c_nstrF, ↓Iv.c_isNs, ↓Iv.c_isNi, ↓Iv.c_isNt, ↓Iv.c_isNn, ↓Iv.b_isaT_t, ↓Iv.b_isaS_s, ↓Iv.b_lenS, ↓Iv.e_slice, ↓Iv.f_slc, ↓Iv.f_cat, ↓Iv.f_lst1, ↓Iv.f_comp, ↓Iv.turnC_k, ↓Iv.wipeK_0, ↓Iv.wipeK_s, ↓Iv.unsetK_0, ↓Iv.unsetK_s, ↓Iv.p_nm, ↓Iv.p_tup, ↓Iv.ps_0, ↓Iv.ps_s, ↓Iv.addK_n, ↓Iv.addK_s, ↓Iv.ifs_nil, ↓Iv.ifs_one, ↓Iv.optK_some, ↓Iv.partK_i, ↓Iv.s_app, ↓Iv.s_setF, ↓Iv.s_setA, ↓Iv.s_dext, ↓Iv.dctK_fin, ↓Iv.chkK_T, ↓Iv.o_aug_add, ↓Iv.o_aug_sub, ↓Iv.b_int1, ↓Iv.b_int1b, ↓Iv.b_tup1, ↓Iv.b_tup1t, ↓Iv.comp_nil, ↓Iv.comp_k, ↓Iv.i_zipS, ↓Iv.i_enumS, ↓Iv.xt_0, ↓Iv.xt_1, ↓Iv.xt_2, ↓Iv.xt_3, ↓Iv.xt_4, ↓Iv.xt_5, ↓Iv.xl_0, ↓Iv.xl_1, ↓Iv.xl_2, ↓Iv.xl_3, ↓Iv.xl_4, ↓Iv.o_addT, ↓Iv.b_divmod, abs_le, Bool.not_true, Bool.not_false, decide_true, decide_false, eq_self, List.cons_append, List.nil_append]
    by_cases c1 : s.1.natAbs ≤ 1000000
    · simp -implicitDefEqProofs (disch := first | omega | decide +kernel | exact rfl | (simp only [List.length_cons, List.length_nil]; decide +kernel)) only [↓Iv.slotK_0, ↓Iv.slotK_s, ↓Iv.setK_0, ↓Iv.setK_s, ↓Iv.nthK_0, ↓Iv.nthK_s, ↓Iv.permK_0, ↓Iv.permK_s, ↓Iv.e_v, ↓Iv.e_c, ↓Iv.e_tup, ↓Iv.e_lstv, ↓Iv.e_alloc, ↓Iv.e_bin, ↓Iv.e_neg, ↓Iv.e_cmp, ↓Iv.e_chain, ↓Iv.e_and, ↓Iv.e_or, ↓Iv.e_notK, ↓Iv.notK_T, ↓Iv.notK_F, ↓Iv.e_ite, ↓Iv.e_idx, ↓Iv.e_call, ↓Iv.e_bi, ↓Iv.es_nil, ↓Iv.es_cons, ↓Iv.f_disp, ↓Iv.new_3, ↓Iv.new_0, ↓Iv.sz_0, ↓Iv.sz_1, ↓Iv.sz_2, ↓Iv.sz_3, ↓Iv.sz_4, ↓Iv.sz_5, ↓Iv.sz_6, ↓Iv.sz_7, ↓Iv.sz_8, ↓Iv.sz_9, ↓Iv.sz_10, ↓Iv.sz_11, ↓Iv.sz_12, ↓Iv.sz_13, ↓Iv.sz_14, ↓Iv.t_nm, ↓Iv.t_tup, ↓Iv.t_lst, ↓Iv.t_sub, ↓Iv.ts_nil, ↓Iv.ts_cons, ↓Iv.ss_nil, ↓Iv.ss_cons, ↓Iv.seqK_rt, ↓Iv.seqK_nx, ↓Iv.s_asg, ↓Iv.s_aug, ↓Iv.s_expr, ↓Iv.s_ret, ↓Iv.s_retN, ↓Iv.s_pass, ↓Iv.s_ite, ↓Iv.s_for, ↓Iv.i_range1, ↓Iv.i_range2, ↓Iv.i_seq, ↓Iv.rgK_is, ↓Iv.rgK2_is, ↓Iv.itK_lst, ↓Iv.itK_tup, ↓Iv.o_add, ↓Iv.o_sub, ↓Iv.o_mul_l, ↓Iv.o_mul_r, ↓Iv.md600, ↓Iv.o_mod, ↓Iv.o_fdiv_s, ↓Iv.o_shl, ↓Iv.o_neg, ↓Iv.c_lt, ↓Iv.c_le, ↓Iv.c_gt, ↓Iv.c_ge, ↓Iv.c_eqI, ↓Iv.c_neI, ↓Iv.bl_K, ↓Iv.b_lenL, ↓Iv.b_lenT, ↓Iv.b_abs, ↓Iv.b_min2, ↓Iv.b_max2, ↓Iv.b_bits, ↓Iv.b_isaI_i, ↓Iv.b_isaI_b, ↓Iv.b_isaB_i, ↓Iv.b_isaB_b, ↓Iv.x_pick2, ↓Iv.x_pick3, ↓Iv.x_pick4, ↓Iv.x_pick5, ↓Iv.iteB_T, ↓Iv.iteB_F, ↓Iv.iteB_dT, ↓Iv.iteB_dF, ↓Iv.iteB_nT, ↓Iv.iteB_nF, ↓Iv.bodyF_is, ↓Iv.end_i, ↓Iv.end_b, ↓Iv.end_s, ↓Iv.end_iS, ↓Iv.end_iL, ↓Iv.end_own, ↓Iv.end_n, ↓Iv.end_r, ↓Iv.end_puI, ↓Iv.end_puB, ↓Iv.end_puT, ↓Iv.pw6, ↓Iv.pw9, ↓Iv.pw12, ↓Iv.pw18, ↓Iv.pw24, ↓Iv.pw30, ↓Iv.pw60, ↓Iv.pw600, ↓Iv.md600, ↓Iv.x_p0, ↓Iv.x_p1, ↓Iv.x_p2, ↓Iv.st_p0, ↓Iv.st_p2, ↓Iv.e_kidx, ↓Iv.e_kget, ↓Iv.e_dnew, ↓Iv.e_dfin, ↓Iv.kidx_hit, ↓Iv.kidx_miss, ↓Iv.c_strT, ↓Iv.c_strF, ↓Iv.c_nstrT, ↓Iv.c_nstrF, ↓Iv.c_isNs, ↓Iv.c_isNi, ↓Iv.c_isNt, ↓Iv.c_isNn, ↓Iv.b_isaT_t, ↓Iv.b_isaS_s, ↓Iv.b_lenS, ↓Iv.e_slice, ↓Iv.f_slc, ↓Iv.f_cat, ↓Iv.f_lst1, ↓Iv.f_comp, ↓Iv.turnC_k, ↓Iv.wipeK_0, ↓Iv.wipeK_s, ↓Iv.unsetK_0, ↓Iv.unsetK_s, ↓Iv.p_nm, ↓Iv.p_tup, ↓Iv.ps_0, ↓Iv.ps_s, ↓Iv.addK_n, ↓Iv.addK_s, ↓Iv.ifs_nil, ↓Iv.ifs_one, ↓Iv.optK_some, ↓Iv.partK_i, ↓Iv.s_app, ↓Iv.s_setF, ↓Iv.s_setA, ↓Iv.s_dext, ↓Iv.dctK_fin, ↓Iv.chkK_T, ↓Iv.o_aug_add, ↓Iv.o_aug_sub, ↓Iv.b_int1, ↓Iv.b_int1b, ↓Iv.b_tup1, ↓Iv.b_tup1t, ↓Iv.comp_nil, ↓Iv.comp_k, ↓Iv.i_zipS, ↓Iv.i_enumS, ↓Iv.xt_0, ↓Iv.xt_1, ↓Iv.xt_2, ↓Iv.xt_3, ↓Iv.xt_4, ↓Iv.xt_5, ↓Iv.xl_0, ↓Iv.xl_1, ↓Iv.xl_2, ↓Iv.xl_3, ↓Iv.xl_4, ↓Iv.o_addT, ↓Iv.b_divmod, ↓iteB_t (decide_eq_true c1), Bool.not_true, Bool.not_false, decide_true, decide_false, eq_self, List.cons_append, List.nil_append]
      by_cases c2 : s.2.natAbs ≤ 1000000
      · simp -implicitDefEqProofs (disch := first | omega | decide +kernel | exact rfl | (simp only [List.length_cons, List.length_nil]; decide +kernel)) only [↓Iv.slotK_0, ↓Iv.slotK_s, ↓Iv.setK_0, ↓Iv.setK_s, ↓Iv.nthK_0, ↓Iv.nthK_s, ↓Iv.permK_0, ↓Iv.permK_s, ↓Iv.e_v, ↓Iv.e_c, ↓Iv.e_tup, ↓Iv.e_lstv, ↓Iv.e_alloc, ↓Iv.e_bin, ↓Iv.e_neg, ↓Iv.e_cmp, ↓Iv.e_chain, ↓Iv.e_and, ↓Iv.e_or, ↓Iv.e_notK, ↓Iv.notK_T, ↓Iv.notK_F, ↓Iv.e_ite, ↓Iv.e_idx, ↓Iv.e_call, ↓Iv.e_bi, ↓Iv.es_nil, ↓Iv.es_cons, ↓Iv.f_disp, ↓Iv.new_3, ↓Iv.new_0, ↓Iv.sz_0, ↓Iv.sz_1, ↓Iv.sz_2, ↓Iv.sz_3, ↓Iv.sz_4, ↓Iv.sz_5, ↓Iv.sz_6, ↓Iv.sz_7, ↓Iv.sz_8, ↓Iv.sz_9, ↓Iv.sz_10, ↓Iv.sz_11, ↓Iv.sz_12, ↓Iv.sz_13, ↓Iv.sz_14, ↓Iv.t_nm, ↓Iv.t_tup, ↓Iv.t_lst, ↓Iv.t_sub, ↓Iv.ts_nil, ↓Iv.ts_cons, ↓Iv.ss_nil, ↓Iv.ss_cons, ↓Iv.seqK_rt, ↓Iv.seqK_nx, ↓Iv.s_asg, ↓Iv.s_aug, ↓Iv.s_expr, ↓Iv.s_ret, ↓Iv.s_retN, ↓Iv.s_pass, ↓Iv.s_ite, ↓Iv.s_for, ↓Iv.i_range1, ↓Iv.i_range2, ↓Iv.i_seq, ↓Iv.rgK_is, ↓Iv.rgK2_is, ↓Iv.itK_lst, ↓Iv.itK_tup, ↓Iv.o_add, ↓Iv.o_sub, ↓Iv.o_mul_l, ↓Iv.o_mul_r, ↓Iv.md600, ↓Iv.o_mod, ↓Iv.o_fdiv_s, ↓Iv.o_shl, ↓Iv.o_neg, ↓Iv.c_lt, ↓Iv.c_le, ↓Iv.c_gt, ↓Iv.c_ge, ↓Iv.c_eqI, ↓Iv.c_neI, ↓Iv.bl_K, ↓Iv.b_lenL, ↓Iv.b_lenT, ↓Iv.b_abs, ↓Iv.b_min2, ↓Iv.b_max2, ↓Iv.b_bits, ↓Iv.b_isaI_i, ↓Iv.b_isaI_b, ↓Iv.b_isaB_i, ↓Iv.b_isaB_b, ↓Iv.x_pick2, ↓Iv.x_pick3, ↓Iv.x_pick4, ↓Iv.x_pick5, ↓Iv.iteB_T, ↓Iv.iteB_F, ↓Iv.iteB_dT, ↓Iv.iteB_dF, ↓Iv.iteB_nT, ↓Iv.iteB_nF, ↓Iv.bodyF_is, ↓Iv.end_i, ↓Iv.end_b, ↓Iv.end_s, ↓Iv.end_iS, ↓Iv.end_iL, ↓Iv.end_own, ↓Iv.end_n, ↓Iv.end_r, ↓Iv.end_puI, ↓Iv.end_puB, ↓Iv.end_puT, ↓Iv.pw6, ↓Iv.pw9, ↓Iv.pw12, ↓Iv.pw18, ↓Iv.pw24, ↓Iv.pw30, ↓Iv.pw60, ↓Iv.pw600, ↓Iv.md600, ↓Iv.x_p0, ↓Iv.x_p1, ↓Iv.x_p2, ↓Iv.st_p0, ↓Iv.st_p2, ↓Iv.e_kidx, ↓Iv.e_kget, ↓Iv.e_dnew, ↓Iv.e_dfin, ↓Iv.kidx_hit, ↓Iv.kidx_miss, ↓Iv.c_strT, ↓Iv.c_strF, ↓Iv.c_nstrT, ↓Iv.c_nstrF, ↓Iv.c_isNs, ↓Iv.c_isNi, ↓Iv.c_isNt, ↓Iv.c_isNn, ↓Iv.b_isaT_t, ↓Iv.b_isaS_s, ↓Iv.b_lenS, ↓Iv.e_slice, ↓Iv.f_slc, ↓Iv.f_cat, ↓Iv.f_lst1, ↓Iv.f_comp, ↓Iv.turnC_k, ↓Iv.wipeK_0, ↓Iv.wipeK_s, ↓Iv.unsetK_0, ↓Iv.unsetK_s, ↓Iv.p_nm, ↓Iv.p_tup, ↓Iv.ps_0, ↓Iv.ps_s, ↓Iv.addK_n, ↓Iv.addK_s, ↓Iv.ifs_nil, ↓Iv.ifs_one, ↓Iv.optK_some, ↓Iv.partK_i, ↓Iv.s_app, ↓Iv.s_setF, ↓Iv.s_setA, ↓Iv.s_dext, ↓Iv.dctK_fin, ↓Iv.chkK_T, ↓Iv.o_aug_add, ↓Iv.o_aug_sub, ↓Iv.b_int1, ↓Iv.b_int1b, ↓Iv.b_tup1, ↓Iv.b_tup1t, ↓Iv.comp_nil, ↓Iv.comp_k, ↓Iv.i_zipS, ↓Iv.i_enumS, ↓Iv.xt_0, ↓Iv.xt_1, ↓Iv.xt_2, ↓Iv.xt_3, ↓Iv.xt_4, ↓Iv.xt_5, ↓Iv.xl_0, ↓Iv.xl_1, ↓Iv.xl_2, ↓Iv.xl_3, ↓Iv.xl_4, ↓Iv.o_addT, ↓Iv.b_divmod, ↓iteB_t (decide_eq_true c2), Bool.not_true, Bool.not_false, decide_true, decide_false, eq_self, List.cons_append, List.nil_append]
        simp only [List.filter_cons, inB, c1, c2, decide_true, Bool.and_self, if_true, List.map_cons, addK, Option.toList_some, List.cons_append, List.nil_append]
        exact comp_spots L _
      · simp -implicitDefEqProofs (disch := first | omega | decide +kernel | exact rfl | (simp only [List.length_cons, List.length_nil]; decide +kernel)) only [↓Iv.slotK_0, ↓Iv.slotK_s, ↓Iv.setK_0, ↓Iv.setK_s, ↓Iv.nthK_0, ↓Iv.nthK_s, ↓Iv.permK_0, ↓Iv.permK_s, ↓Iv.e_v, ↓Iv.e_c, ↓Iv.e_tup, ↓Iv.e_lstv, ↓Iv.e_alloc, ↓Iv.e_bin, ↓Iv.e_neg, ↓Iv.e_cmp, ↓Iv.e_chain, ↓Iv.e_and, ↓Iv.e_or, ↓Iv.e_notK, ↓Iv.notK_T, ↓Iv.notK_F, ↓Iv.e_ite, ↓Iv.e_idx, ↓Iv.e_call, ↓Iv.e_bi, ↓Iv.es_nil, ↓Iv.es_cons, ↓Iv.f_disp, ↓Iv.new_3, ↓Iv.new_0, ↓Iv.sz_0, ↓Iv.sz_1, ↓Iv.sz_2, ↓Iv.sz_3, ↓Iv.sz_4, ↓Iv.sz_5, ↓Iv.sz_6, ↓Iv.sz_7, ↓Iv.sz_8, ↓Iv.sz_9, ↓Iv.sz_10, ↓Iv.sz_11, ↓Iv.sz_12, ↓Iv.sz_13, ↓Iv.sz_14, ↓Iv.t_nm, ↓Iv.t_tup, ↓Iv.t_lst, ↓Iv.t_sub, ↓Iv.ts_nil, ↓Iv.ts_cons, ↓Iv.ss_nil, ↓Iv.ss_cons, ↓Iv.seqK_rt, ↓Iv.seqK_nx, ↓Iv.s_asg, ↓Iv.s_aug, ↓Iv.s_expr, ↓Iv.s_ret, ↓Iv.s_retN, ↓Iv.s_pass, ↓Iv.s_ite, ↓Iv.s_for, ↓Iv.i_range1, ↓Iv.i_range2, ↓Iv.i_seq, ↓Iv.rgK_is, ↓Iv.rgK2_is, ↓Iv.itK_lst, ↓Iv.itK_tup, ↓Iv.o_add, ↓Iv.o_sub, ↓Iv.o_mul_l, ↓Iv.o_mul_r, ↓Iv.md600, ↓Iv.o_mod, ↓Iv.o_fdiv_s, ↓Iv.o_shl, ↓Iv.o_neg, ↓Iv.c_lt, ↓Iv.c_le, ↓Iv.c_gt, ↓Iv.c_ge, ↓Iv.c_eqI, ↓Iv.c_neI, ↓Iv.bl_K, ↓Iv.b_lenL, ↓Iv.b_lenT, ↓Iv.b_abs, ↓Iv.b_min2, ↓Iv.b_max2, ↓Iv.b_bits, ↓Iv.b_isaI_i, ↓Iv.b_isaI_b, ↓Iv.b_isaB_i, ↓Iv.b_isaB_b, ↓Iv.x_pick2, ↓Iv.x_pick3, ↓Iv.x_pick4, ↓Iv.x_pick5, ↓Iv.iteB_T, ↓Iv.iteB_F, ↓Iv.iteB_dT, ↓Iv.iteB_dF, ↓Iv.iteB_nT, ↓Iv.iteB_nF, ↓Iv.bodyF_is, ↓Iv.end_i, ↓Iv.end_b, ↓Iv.end_s, ↓Iv.end_iS, ↓Iv.end_iL, ↓Iv.end_own, ↓Iv.end_n, ↓Iv.end_r, ↓Iv.end_puI, ↓Iv.end_puB, ↓Iv.end_puT, ↓Iv.pw6, ↓Iv.pw9, ↓Iv.pw12, ↓Iv.pw18, ↓Iv.pw24, ↓Iv.pw30, ↓Iv.pw60, ↓Iv.pw600, ↓Iv.md600, ↓Iv.x_p0, ↓Iv.x_p1, ↓Iv.x_p2, ↓Iv.st_p0, ↓Iv.st_p2, ↓Iv.e_kidx, ↓Iv.e_kget, ↓Iv.e_dnew, ↓Iv.e_dfin, ↓Iv.kidx_hit, ↓Iv.kidx_miss, ↓Iv.c_strT, ↓Iv.c_strF, ↓Iv.c_nstrT, ↓Iv.c_nstrF, ↓Iv.c_isNs, ↓Iv.c_isNi, ↓Iv.c_isNt, ↓Iv.c_isNn, ↓Iv.b_isaT_t, ↓Iv.b_isaS_s, ↓Iv.b_lenS, ↓Iv.e_slice, ↓Iv.f_slc, ↓Iv.f_cat, ↓Iv.f_lst1, ↓Iv.f_comp, ↓Iv.turnC_k, ↓Iv.wipeK_0, ↓Iv.wipeK_s, ↓Iv.unsetK_0, ↓Iv.unsetK_s, ↓Iv.p_nm, ↓Iv.p_tup, ↓Iv.ps_0, ↓Iv.ps_s, ↓Iv.addK_n, ↓Iv.addK_s, ↓Iv.ifs_nil, ↓Iv.ifs_one, ↓Iv.optK_some, ↓Iv.partK_i, ↓Iv.s_app, ↓Iv.s_setF, ↓Iv.s_setA, ↓Iv.s_dext, ↓Iv.dctK_fin, ↓Iv.chkK_T, ↓Iv.o_aug_add, ↓Iv.o_aug_sub, ↓Iv.b_int1, ↓Iv.b_int1b, ↓Iv.b_tup1, ↓Iv.b_tup1t, ↓Iv.comp_nil, ↓Iv.comp_k, ↓Iv.i_zipS, ↓Iv.i_enumS, ↓Iv.xt_0, ↓Iv.xt_1, ↓Iv.xt_2, ↓Iv.xt_3, ↓Iv.xt_4, ↓Iv.xt_5, ↓Iv.xl_0, ↓Iv.xl_1, ↓Iv.xl_2, ↓Iv.xl_3, ↓Iv.xl_4, ↓Iv.o_addT, ↓Iv.b_divmod, ↓iteB_f (decide_eq_false c2), Bool.not_true, Bool.not_false, decide_true, decide_false, eq_self, List.cons_append, List.nil_append]
        simp only [List.filter_cons, inB, c1, c2, decide_true, decide_false, Bool.and_false, if_false, Bool.false_eq_true, addK, Option.toList_none, List.nil_append]
        exact comp_spots L _
    · simp -implicitDefEqProofs (disch := first | omega | decide +kernel | exact rfl | (simp only [List.length_cons, List.length_nil]; decide +kernel)) only [↓Iv.slotK_0, ↓Iv.slotK_s, ↓Iv.setK_0, ↓Iv.setK_s, ↓Iv.nthK_0, ↓Iv.nthK_s, ↓Iv.permK_0, ↓Iv.permK_s, ↓Iv.e_v, ↓Iv.e_c, ↓Iv.e_tup, ↓Iv.e_lstv, ↓Iv.e_alloc, ↓Iv.e_bin, ↓Iv.e_neg, ↓Iv.e_cmp, ↓Iv.e_chain, ↓Iv.e_and, ↓Iv.e_or, ↓Iv.e_notK, ↓Iv.notK_T, ↓Iv.notK_F, ↓Iv.e_ite, ↓Iv.e_idx, ↓Iv.e_call, ↓Iv.e_bi, ↓Iv.es_nil, ↓Iv.es_cons, ↓Iv.f_disp, ↓Iv.new_3, ↓Iv.new_0, ↓Iv.sz_0, ↓Iv.sz_1, ↓Iv.sz_2, ↓Iv.sz_3, ↓Iv.sz_4, ↓Iv.sz_5, ↓Iv.sz_6, ↓Iv.sz_7, ↓Iv.sz_8, ↓Iv.sz_9, ↓Iv.sz_10, ↓Iv.sz_11, ↓Iv.sz_12, ↓Iv.sz_13, ↓Iv.sz_14, ↓Iv.t_nm, ↓Iv.t_tup, ↓Iv.t_lst, ↓Iv.t_sub, ↓Iv.ts_nil, ↓Iv.ts_cons, ↓Iv.ss_nil, ↓Iv.ss_cons, ↓Iv.seqK_rt, ↓Iv.seqK_nx, ↓Iv.s_asg, ↓Iv.s_aug, ↓Iv.s_expr, ↓Iv.s_ret, ↓Iv.s_retN, ↓Iv.s_pass, ↓Iv.s_ite, ↓Iv.s_for, ↓Iv.i_range1, ↓Iv.i_range2, ↓Iv.i_seq, ↓Iv.rgK_is, ↓Iv.rgK2_is, ↓Iv.itK_lst, ↓Iv.itK_tup, ↓Iv.o_add, ↓Iv.o_sub, ↓Iv.o_mul_l, ↓Iv.o_mul_r, ↓Iv.md600, ↓Iv.o_mod, ↓Iv.o_fdiv_s, ↓Iv.o_shl, ↓Iv.o_neg, ↓Iv.c_lt, ↓Iv.c_le, ↓Iv.c_gt, ↓Iv.c_ge, ↓Iv.c_eqI, ↓Iv.c_neI, ↓Iv.bl_K, ↓Iv.b_lenL, ↓Iv.b_lenT, ↓Iv.b_abs, ↓Iv.b_min2, ↓Iv.b_max2, ↓Iv.b_bits, ↓Iv.b_isaI_i, ↓Iv.b_isaI_b, ↓Iv.b_isaB_i, ↓Iv.b_isaB_b, ↓Iv.x_pick2, ↓Iv.x_pick3, ↓Iv.x_pick4, ↓Iv.x_pick5, ↓Iv.iteB_T, ↓Iv.iteB_F, ↓Iv.iteB_dT, ↓Iv.iteB_dF, ↓Iv.iteB_nT, ↓Iv.iteB_nF, ↓Iv.bodyF_is, ↓Iv.end_i, ↓Iv.end_b, ↓Iv.end_s, ↓Iv.end_iS, ↓Iv.end_iL, ↓Iv.end_own, ↓Iv.end_n, ↓Iv.end_r, ↓Iv.end_puI, ↓Iv.end_puB, ↓Iv.end_puT, ↓Iv.pw6, ↓Iv.pw9, ↓Iv.pw12, ↓Iv.pw18, ↓Iv.pw24, ↓Iv.pw30, ↓Iv.pw60, ↓Iv.pw600, ↓Iv.md600, ↓Iv.x_p0, ↓Iv.x_p1, ↓Iv.x_p2, ↓Iv.st_p0, ↓Iv.st_p2, ↓Iv.e_kidx, ↓Iv.e_kget, ↓Iv.e_dnew, ↓Iv.e_dfin, ↓Iv.kidx_hit, ↓Iv.kidx_miss, ↓Iv.c_strT, ↓Iv.c_strF, ↓Iv.c_nstrT, ↓Iv.c_nstrF, ↓Iv.c_isNs, ↓Iv.c_isNi, ↓Iv.c_isNt, ↓Iv.c_isNn, ↓Iv.b_isaT_t, ↓Iv.b_isaS_s, ↓Iv.b_lenS, ↓Iv.e_slice, ↓Iv.f_slc, ↓Iv.f_cat, ↓Iv.f_lst1, ↓Iv.f_comp, ↓Iv.turnC_k, ↓Iv.wipeK_0, ↓Iv.wipeK_s, ↓Iv.unsetK_0, ↓Iv.unsetK_s, ↓Iv.p_nm, ↓Iv.p_tup, ↓Iv.ps_0, ↓Iv.ps_s, ↓Iv.addK_n, ↓Iv.addK_s, ↓Iv.ifs_nil, ↓Iv.ifs_one, ↓Iv.optK_some, ↓Iv.partK_i, ↓Iv.s_app, ↓Iv.s_setF, ↓Iv.s_setA, ↓Iv.s_dext, ↓Iv.dctK_fin, ↓Iv.chkK_T, ↓Iv.o_aug_add, ↓Iv.o_aug_sub, ↓Iv.b_int1, ↓Iv.b_int1b, ↓Iv.b_tup1, ↓Iv.b_tup1t, ↓Iv.comp_nil, ↓Iv.comp_k, ↓Iv.i_zipS, ↓Iv.i_enumS, ↓Iv.xt_0, ↓Iv.xt_1, ↓Iv.xt_2, ↓Iv.xt_3, ↓Iv.xt_4, ↓Iv.xt_5, ↓Iv.xl_0, ↓Iv.xl_1, ↓Iv.xl_2, ↓Iv.xl_3, ↓Iv.xl_4, ↓Iv.o_addT, ↓Iv.b_divmod, ↓iteB_f (decide_eq_false c1), Bool.not_true, Bool.not_false, decide_true, decide_false, eq_self, List.cons_append, List.nil_append]
      simp only [List.filter_cons, inB, c1, decide_false, Bool.false_and, if_false, Bool.false_eq_true, addK, Option.toList_none, List.nil_append]
      exact comp_spots L _
theorem run_spots {k : Nat} {n : Nat} {p : P} {w : Int} {h : AH} {j : Nat} (hn : n < h.length) (hp : p.ok (j + 24)) (w0 : 0 < w) (w1 : w ≤ 256) :
    ∃ (L : List (Int × Int)) (q : P), q.ok j ∧ (∀ s ∈ L, s.1.natAbs ≤ 1000000 ∧ s.2.natAbs ≤ 1000000) ∧ run T (k + 4) fL_spots [.ref n, .int w] (h.set n (purseO p)) = some (.lst (L.map ptD), h.set n (purseO q)) := by
  have goal : ∃ (L : List (Int × Int)) (q : P), q.ok j ∧ L.length ≤ 100 ∧ run T (k + 4) fL_spots [.ref n, .int w] (h.set n (purseO p)) = some (.lst ((L.filter inB).map ptD), h.set n (purseO q)) := by
    let nx : P → P := fun p => (one1 (one1 p).2).2
    let pt : P → Int × Int := fun p => ((one1 p).1, (one1 (one1 p).2).1)
    let lw : Int × Int → Int × Int := fun s => (s.1 / w * w, s.2 / w * w)
    let four : Int × Int → List (Int × Int) := fun s => [s, lw s, ((lw s).1 + w / 2, (lw s).2 + w / 2), ((lw s).1 + w - 1, (lw s).2)]
    have o1 := place_ok (k := j + 18) hp
    have o2 := place_ok (k := j + 12) o1
    have o3 := place_ok (k := j + 6) o2
    have o4 := place_ok (k := j) o3
    refine ⟨[(0, 0), (1000000, 1000000), (-1000000, -1000000), (-1, -1), (999999, -1000000)] ++ four (pt p) ++ four (pt (nx p)) ++ four (pt (nx (nx p))) ++ four (pt (nx (nx (nx p)))), nx (nx (nx (nx p))), o4, by simp [four], ?_⟩
    rw [run_eq (fn := tL_spots.fn) rfl rfl]
    show bnd (semSs _ bL_spots [some (.ref n), some (.int w), none, none, none, none, none, none]) (endK .cut (h.set n (purseO p))) _ = _
    unfold bL_spots
    have r4 : rangeL 0 (4 : Int).toNat = [.int 0, .int 1, .int 2, .int 3] := rfl
    have d1 := run_place (k := k) hn (hp.weak (k := 6) (by omega))
    have d2 := run_place (k := k) hn (o1.weak (k := 6) (by omega))
    have d3 := run_place (k := k) hn (o2.weak (k := 6) (by omega))
    have d4 := run_place (k := k) hn (o3.weak (k := 6) (by omega))
    have hw : w.natAbs < 2 ^ 64 := by omega
    simp -implicitDefEqProofs (disch := first | omega | decide +kernel | exact rfl | (simp only [List.length_cons, List.length_nil]; decide +kernel)) only [↓Iv.slotK_0, ↓Iv.slotK_s, ↓Iv.setK_0, ↓Iv.setK_s, ↓Iv.nthK_0, ↓Iv.nthK_s, ↓Iv.permK_0, ↓Iv.permK_s, ↓Iv.e_v, ↓Iv.e_c, ↓Iv.e_tup, ↓Iv.e_lstv, ↓Iv.e_alloc, ↓Iv.e_bin, ↓Iv.e_neg, ↓Iv.e_cmp, ↓Iv.e_chain, ↓Iv.e_and, ↓Iv.e_or, ↓Iv.e_notK, ↓Iv.notK_T, ↓Iv.notK_F, ↓Iv.e_ite, ↓Iv.e_idx, ↓Iv.e_call, ↓Iv.e_bi, ↓Iv.es_nil, ↓Iv.es_cons, ↓Iv.f_disp, ↓Iv.new_3, ↓Iv.new_0, ↓Iv.sz_0, ↓Iv.sz_1, ↓Iv.sz_2, ↓Iv.sz_3, ↓Iv.sz_4, ↓Iv.sz_5, ↓Iv.sz_6, ↓Iv.sz_7, ↓Iv.sz_8, ↓Iv.sz_9, ↓Iv.sz_10, ↓Iv.sz_11, ↓Iv.sz_12, ↓Iv.sz_13, ↓Iv.sz_14, ↓Iv.t_nm, ↓Iv.t_tup, ↓Iv.t_lst, ↓Iv.t_sub, ↓Iv.ts_nil, ↓Iv.ts_cons, ↓Iv.ss_nil, ↓Iv.ss_cons, ↓Iv.seqK_rt, ↓Iv.seqK_nx, ↓Iv.s_asg, ↓Iv.s_aug, ↓Iv.s_expr, ↓Iv.s_ret, ↓Iv.s_retN, ↓Iv.s_pass, ↓Iv.s_ite, ↓Iv.s_for, ↓Iv.i_range1, ↓Iv.i_range2, ↓Iv.i_seq, ↓Iv.rgK_is, ↓Iv.rgK2_is, ↓Iv.itK_lst, ↓Iv.itK_tup, ↓Iv.o_add, ↓Iv.o_sub, ↓Iv.o_mul_l, ↓Iv.o_mul_r, ↓Iv.md600, ↓Iv.o_mod, ↓Iv.o_fdiv_s, ↓Iv.o_shl, ↓Iv.o_neg, ↓Iv.c_lt, ↓Iv.c_le, ↓Iv.c_gt, ↓Iv.c_ge, ↓Iv.c_eqI, ↓Iv.c_neI, ↓Iv.bl_K, ↓Iv.b_lenL, ↓Iv.b_lenT, ↓Iv.b_abs, ↓Iv.b_min2, ↓Iv.b_max2, ↓Iv.b_bits, ↓Iv.b_isaI_i, ↓Iv.b_isaI_b, ↓Iv.b_isaB_i, ↓Iv.b_isaB_b, ↓Iv.x_pick2, ↓Iv.x_pick3, ↓Iv.x_pick4, ↓Iv.x_pick5, ↓Iv.iteB_T, ↓Iv.iteB_F, ↓Iv.iteB_dT, ↓Iv.iteB_dF, ↓Iv.iteB_nT, ↓Iv.iteB_nF, ↓Iv.bodyF_is, ↓Iv.end_i, ↓Iv.end_b, ↓Iv.end_s, ↓Iv.end_iS, ↓Iv.end_iL, ↓Iv.end_own, ↓Iv.end_n, ↓Iv.end_r, ↓Iv.end_puI, ↓Iv.end_puB, ↓Iv.end_puT, ↓Iv.pw6, ↓Iv.pw9, ↓Iv.pw12, ↓Iv.pw18, ↓Iv.pw24, ↓Iv.pw30, ↓Iv.pw60, ↓Iv.pw600, ↓Iv.md600, ↓Iv.x_p0, ↓Iv.x_p1, ↓Iv.x_p2, ↓Iv.st_p0, ↓Iv.st_p2, ↓Iv.e_kidx, ↓Iv.e_kget, ↓Iv.e_dnew, ↓Iv.e_dfin, ↓Iv.kidx_hit, ↓Iv.kidx_miss, ↓Iv.c_strT, ↓Iv.c_strF, ↓Iv.c_nstrT, ↓Iv.c_nstrF, ↓Iv.c_isNs, ↓Iv.c_isNi, ↓Iv.c_isNt, ↓Iv.c_isNn, ↓Iv.b_isaT_t, ↓Iv.b_isaS_s, ↓Iv.b_lenS, ↓Iv.e_slice, ↓Iv.f_slc, ↓Iv.f_cat, ↓Iv.f_lst1, ↓Iv.f_comp, ↓Iv.wipeK_0, ↓Iv.wipeK_s, ↓Iv.unsetK_0, ↓Iv.unsetK_s, ↓Iv.p_nm, ↓Iv.p_tup, ↓Iv.ps_0, ↓Iv.ps_s, ↓Iv.addK_n, ↓Iv.addK_s, ↓Iv.ifs_nil, ↓Iv.ifs_one, ↓Iv.optK_some, ↓Iv.partK_i, ↓Iv.s_app, ↓Iv.s_setF, ↓Iv.s_setA, ↓Iv.s_dext, ↓Iv.dctK_fin, ↓Iv.chkK_T, ↓Iv.o_aug_add, ↓Iv.o_aug_sub, ↓Iv.b_int1, ↓Iv.b_int1b, ↓Iv.b_tup1, ↓Iv.b_tup1t, ↓Iv.i_zipS, ↓Iv.i_enumS, ↓Iv.xt_0, ↓Iv.xt_1, ↓Iv.xt_2, ↓Iv.xt_3, ↓Iv.xt_4, ↓Iv.xt_5, ↓Iv.xl_0, ↓Iv.xl_1, ↓Iv.xl_2, ↓Iv.xl_3, ↓Iv.xl_4, ↓Iv.o_addT, ↓Iv.b_divmod, r4, ↓for_1, ↓for_0, ↓loopK_nx, ↓bnd_of d1, ↓bnd_of d2, ↓bnd_of d3, ↓bnd_of d4, ↓o_mul_r hw, ↓catL, Bool.not_true, Bool.not_false, decide_true, decide_false, eq_self, List.cons_append, List.nil_append]
    have hl : ∀ (L : List (Int × Int)), L.length ≤ 100 → ((L.filter inB).map ptD).length ≤ sizeMax := fun L hL => by
      have := List.length_filter_le inB L
      rw [List.length_map]
      unfold sizeMax
      omega
    refine (comp_spots ([(0, 0), (1000000, 1000000), (-1000000, -1000000), (-1, -1), (999999, -1000000)] ++ four (pt p) ++ four (pt (nx p)) ++ four (pt (nx (nx p))) ++ four (pt (nx (nx (nx p))))) _).trans ?_
    rw [sizeK_is (hl _ (by simp [four]))]
    simp -implicitDefEqProofs (disch := first | omega | decide +kernel | exact rfl | (simp only [List.length_cons, List.length_nil]; decide +kernel)) only [↓Iv.slotK_0, ↓Iv.slotK_s, ↓Iv.setK_0, ↓Iv.setK_s, ↓Iv.nthK_0, ↓Iv.nthK_s, ↓Iv.permK_0, ↓Iv.permK_s, ↓Iv.e_v, ↓Iv.e_c, ↓Iv.e_tup, ↓Iv.e_lstv, ↓Iv.e_alloc, ↓Iv.e_bin, ↓Iv.e_neg, ↓Iv.e_cmp, ↓Iv.e_chain, ↓Iv.e_and, ↓Iv.e_or, ↓Iv.e_notK, ↓Iv.notK_T, ↓Iv.notK_F, ↓Iv.e_ite, ↓Iv.e_idx, ↓Iv.e_call, ↓Iv.e_bi, ↓Iv.es_nil, ↓Iv.es_cons, ↓Iv.f_disp, ↓Iv.new_3, ↓Iv.new_0, ↓Iv.sz_0, ↓Iv.sz_1, ↓Iv.sz_2, ↓Iv.sz_3, ↓Iv.sz_4, ↓Iv.sz_5, ↓Iv.sz_6, ↓Iv.sz_7, ↓Iv.sz_8, ↓Iv.sz_9, ↓Iv.sz_10, ↓Iv.sz_11, ↓Iv.sz_12, ↓Iv.sz_13, ↓Iv.sz_14, ↓Iv.t_nm, ↓Iv.t_tup, ↓Iv.t_lst, ↓Iv.t_sub, ↓Iv.ts_nil, ↓Iv.ts_cons, ↓Iv.ss_nil, ↓Iv.ss_cons, ↓Iv.seqK_rt, ↓Iv.seqK_nx, ↓Iv.s_asg, ↓Iv.s_aug, ↓Iv.s_expr, ↓Iv.s_ret, ↓Iv.s_retN, ↓Iv.s_pass, ↓Iv.s_ite, ↓Iv.s_for, ↓Iv.i_range1, ↓Iv.i_range2, ↓Iv.i_seq, ↓Iv.rgK_is, ↓Iv.rgK2_is, ↓Iv.itK_lst, ↓Iv.itK_tup, ↓Iv.o_add, ↓Iv.o_sub, ↓Iv.o_mul_l, ↓Iv.o_mul_r, ↓Iv.md600, ↓Iv.o_mod, ↓Iv.o_fdiv_s, ↓Iv.o_shl, ↓Iv.o_neg, ↓Iv.c_lt, ↓Iv.c_le, ↓Iv.c_gt, ↓Iv.c_ge, ↓Iv.c_eqI, ↓Iv.c_neI, ↓Iv.bl_K, ↓Iv.b_lenL, ↓Iv.b_lenT, ↓Iv.b_abs, ↓Iv.b_min2, ↓Iv.b_max2, ↓Iv.b_bits, ↓Iv.b_isaI_i, ↓Iv.b_isaI_b, ↓Iv.b_isaB_i, ↓Iv.b_isaB_b, ↓Iv.x_pick2, ↓Iv.x_pick3, ↓Iv.x_pick4, ↓Iv.x_pick5, ↓Iv.iteB_T, ↓Iv.iteB_F, ↓Iv.iteB_dT, ↓Iv.iteB_dF, ↓Iv.iteB_nT, ↓Iv.iteB_nF, ↓Iv.bodyF_is, ↓Iv.end_i, ↓Iv.end_b, ↓Iv.end_s, ↓Iv.end_iS, ↓Iv.end_iL, ↓Iv.end_own, ↓Iv.end_n, ↓Iv.end_r, ↓Iv.end_puI, ↓Iv.end_puB, ↓Iv.end_puT, ↓Iv.pw6, ↓Iv.pw9, ↓Iv.pw12, ↓Iv.pw18, ↓Iv.pw24, ↓Iv.pw30, ↓Iv.pw60, ↓Iv.pw600, ↓Iv.md600, ↓Iv.x_p0, ↓Iv.x_p1, ↓Iv.x_p2, ↓Iv.st_p0, ↓Iv.st_p2, ↓Iv.e_kidx, ↓Iv.e_kget, ↓Iv.e_dnew, ↓Iv.e_dfin, ↓Iv.kidx_hit, ↓Iv.kidx_miss, ↓Iv.c_strT, ↓Iv.c_strF, ↓Iv.c_nstrT, ↓Iv.c_nstrF, ↓Iv.c_isNs, ↓Iv.c_isNi, ↓Iv.c_isNt, ↓Iv.c_isNn, ↓Iv.b_isaT_t, ↓Iv.b_isaS_s, ↓Iv.b_lenS, ↓Iv.e_slice, ↓Iv.f_slc, ↓Iv.f_cat, ↓Iv.f_lst1, ↓Iv.f_comp, ↓Iv.wipeK_0, ↓Iv.wipeK_s, ↓Iv.unsetK_0, ↓Iv.unsetK_s, ↓Iv.p_nm, ↓Iv.p_tup, ↓Iv.ps_0, ↓Iv.ps_s, ↓Iv.addK_n, ↓Iv.addK_s, ↓Iv.ifs_nil, ↓Iv.ifs_one, ↓Iv.optK_some, ↓Iv.partK_i, ↓Iv.s_app, ↓Iv.s_setF, ↓Iv.s_setA, ↓Iv.s_dext, ↓Iv.dctK_fin, ↓Iv.chkK_T, ↓Iv.o_aug_add, ↓Iv.o_aug_sub, ↓Iv.b_int1, ↓Iv.b_int1b, ↓Iv.b_tup1, ↓Iv.b_tup1t, ↓Iv.i_zipS, ↓Iv.i_enumS, ↓Iv.xt_0, ↓Iv.xt_1, ↓Iv.xt_2, ↓Iv.xt_3, ↓Iv.xt_4, ↓Iv.xt_5, ↓Iv.xl_0, ↓Iv.xl_1, ↓Iv.xl_2, ↓Iv.xl_3, ↓Iv.xl_4, ↓Iv.o_addT, ↓Iv.b_divmod, Bool.not_true, Bool.not_false, decide_true, decide_false, eq_self, List.cons_append, List.nil_append]
    refine end_pu ?_
    generalize List.filter inB _ = L
    show D.rfs (L.map ptD) = true
    induction L with
    | nil => rfl
    | cons s L ih => exact ih
  obtain ⟨L, q, h1, h2, h3⟩ := goal
  exact ⟨L.filter inB, q, h1, fun s hs => by have := (List.mem_filter.mp hs).2; simpa [inB] using this, h3⟩
end Law

set_option maxHeartbeats 1000000
namespace Law
open PySem L2 Iv
theorem mul_w {a w : Int} (ha : a.natAbs ≤ 50) (w0 : 1 ≤ w) (w1 : w ≤ 256) : (a * w).natAbs ≤ 12800 := by
  rw [Int.natAbs_mul]
  have : w.natAbs ≤ 256 := by omega
  exact Nat.mul_le_mul ha this
theorem toNat1 {w : Int} (w0 : 1 ≤ w) : (w + 1).toNat - 1 = w.toNat := by omega
theorem run_line_x {k : Nat} {s t l a b : Int} {h : AH} (t0 : 0 ≤ t) (t1 : t ≤ 1000000000) (l0 : 0 ≤ l) (l1 : l ≤ 8) (ha : a.natAbs ≤ 50) (hb : b.natAbs ≤ 50) :
    run T (k + 7) fL_line_right [noiseD t l, .int s, .tup [.int (a * wid l), .int (b * wid l)], .tup [.int 1, .int 0]] h = some (.bl true, h) := by
  rw [run_eq (fn := tL_line_right.fn) rfl rfl]
  show bnd (semSs _ bL_line_right [some (noiseD t l), some (.int s), some (.tup [.int (a * wid l), .int (b * wid l)]), some (.tup [.int 1, .int 0]), none, none, none, none, none, none, none, none]) (endK .cut h) _ = _
  unfold bL_line_right
  obtain ⟨w0, w1⟩ := wid_b l0 l1
  have hw : (1 : Int) * 2 ^ l.toNat = wid l := rfl
  have ma := mul_w ha w0 w1
  have mb := mul_w hb w0 w1
  have e1 : run T (k + 6) fL_noise [noiseD t l, .int s, .int (a * wid l), .int (b * wid l)] h = some (.int (knotV s t a b), h) := by
    rw [run_lnoise l0 l1]
    unfold noiseV
    rw [noise_k (by omega)]
  have e2 : run T (k + 6) fL_noise [noiseD t l, .int s, .int (a * wid l + 1 * wid l), .int (b * wid l + 0 * wid l)] h = some (.int (knotV s t (a + 1) b), h) := by
    rw [run_lnoise l0 l1]
    unfold noiseV
    rw [Int.one_mul, Int.zero_mul, Int.add_zero, show a * wid l + wid l = (a + 1) * wid l by rw [Int.add_mul, Int.one_mul], noise_k (by omega)]
  have ev : ∀ i : Nat, (i : Int) ≤ wid l → run T (k + 6) f_value_at [noiseD t l, .int s, .int (a * wid l + 1 * (i : Int)), .int (b * wid l + 0 * (i : Int))] h = some (.int (edge (knotV s t a b) (knotV s t (a + 1) b) (wid l) (i : Int)), h) := by
    intro i hi
    rw [Int.one_mul, Int.zero_mul, Int.add_zero, value_noise t0 t1 l0 l1 (by omega) (by omega)]
    unfold noiseV
    rw [noise_xw (by omega) (by omega) hi]
  generalize hU : knotV s t a b = U at *
  generalize hV : knotV s t (a + 1) b = V at *
  generalize hW : wid l = w at *
  simp -implicitDefEqProofs (disch := first | omega | decide +kernel | exact rfl | (simp only [List.length_cons, List.length_nil]; decide +kernel)) only [↓Iv.slotK_0, ↓Iv.slotK_s, ↓Iv.setK_0, ↓Iv.setK_s, ↓Iv.nthK_0, ↓Iv.nthK_s, ↓Iv.permK_0, ↓Iv.permK_s, ↓Iv.e_v, ↓Iv.e_c, ↓Iv.e_tup, ↓Iv.e_lstv, ↓Iv.e_alloc, ↓Iv.e_bin, ↓Iv.e_neg, ↓Iv.e_cmp, ↓Iv.e_chain, ↓Iv.e_and, ↓Iv.e_or, ↓Iv.e_notK, ↓Iv.notK_T, ↓Iv.notK_F, ↓Iv.e_ite, ↓Iv.e_idx, ↓Iv.e_call, ↓Iv.e_bi, ↓Iv.es_nil, ↓Iv.es_cons, ↓Iv.f_disp, ↓Iv.new_3, ↓Iv.new_0, ↓Iv.sz_0, ↓Iv.sz_1, ↓Iv.sz_2, ↓Iv.sz_3, ↓Iv.sz_4, ↓Iv.sz_5, ↓Iv.sz_6, ↓Iv.sz_7, ↓Iv.sz_8, ↓Iv.sz_9, ↓Iv.sz_10, ↓Iv.sz_11, ↓Iv.sz_12, ↓Iv.sz_13, ↓Iv.sz_14, ↓Iv.t_nm, ↓Iv.t_tup, ↓Iv.t_lst, ↓Iv.t_sub, ↓Iv.ts_nil, ↓Iv.ts_cons, ↓Iv.ss_nil, ↓Iv.ss_cons, ↓Iv.seqK_rt, ↓Iv.seqK_nx, ↓Iv.s_asg, ↓Iv.s_aug, ↓Iv.s_expr, ↓Iv.s_ret, ↓Iv.s_retN, ↓Iv.s_pass, ↓Iv.s_ite, ↓Iv.s_for, ↓Iv.i_range1, ↓Iv.i_range2, ↓Iv.i_seq, ↓Iv.rgK_is, ↓Iv.rgK2_is, ↓Iv.itK_lst, ↓Iv.itK_tup, ↓Iv.o_add, ↓Iv.o_sub, ↓Iv.o_mul_l, ↓Iv.o_mul_r, ↓Iv.md600, ↓Iv.o_mod, ↓Iv.o_fdiv_s, ↓Iv.o_shl, ↓Iv.o_neg, ↓Iv.c_lt, ↓Iv.c_le, ↓Iv.c_gt, ↓Iv.c_ge, ↓Iv.c_eqI, ↓Iv.c_neI, ↓Iv.bl_K, ↓Iv.b_lenL, ↓Iv.b_lenT, ↓Iv.b_abs, ↓Iv.b_min2, ↓Iv.b_max2, ↓Iv.b_bits, ↓Iv.b_isaI_i, ↓Iv.b_isaI_b, ↓Iv.b_isaB_i, ↓Iv.b_isaB_b, ↓Iv.x_pick2, ↓Iv.x_pick3, ↓Iv.x_pick4, ↓Iv.x_pick5, ↓Iv.iteB_T, ↓Iv.iteB_F, ↓Iv.iteB_dT, ↓Iv.iteB_dF, ↓Iv.iteB_nT, ↓Iv.iteB_nF, ↓Iv.bodyF_is, ↓Iv.end_i, ↓Iv.end_b, ↓Iv.end_s, ↓Iv.end_iS, ↓Iv.end_iL, ↓Iv.end_own, ↓Iv.end_n, ↓Iv.end_r, ↓Iv.end_puI, ↓Iv.end_puB, ↓Iv.end_puT, ↓Iv.pw6, ↓Iv.pw9, ↓Iv.pw12, ↓Iv.pw18, ↓Iv.pw24, ↓Iv.pw30, ↓Iv.pw60, ↓Iv.pw600, ↓Iv.md600, ↓Iv.x_p0, ↓Iv.x_p1, ↓Iv.x_p2, ↓Iv.st_p0, ↓Iv.st_p2, ↓Iv.e_kidx, ↓Iv.e_kget, ↓Iv.e_dnew, ↓Iv.e_dfin, ↓Iv.kidx_hit, ↓Iv.kidx_miss, ↓Iv.c_strT, ↓Iv.c_strF, ↓Iv.c_nstrT, ↓Iv.c_nstrF, ↓Iv.c_isNs, ↓Iv.c_isNi, ↓Iv.c_isNt, ↓Iv.c_isNn, ↓Iv.b_isaT_t, ↓Iv.b_isaS_s, ↓Iv.b_lenS, ↓Iv.e_slice, ↓Iv.f_slc, ↓Iv.f_cat, ↓Iv.f_lst1, ↓Iv.f_comp, ↓Iv.turnC_k, ↓Iv.wipeK_0, ↓Iv.wipeK_s, ↓Iv.unsetK_0, ↓Iv.unsetK_s, ↓Iv.p_nm, ↓Iv.p_tup, ↓Iv.ps_0, ↓Iv.ps_s, ↓Iv.addK_n, ↓Iv.addK_s, ↓Iv.ifs_nil, ↓Iv.ifs_one, ↓Iv.optK_some, ↓Iv.partK_i, ↓Iv.s_app, ↓Iv.s_setF, ↓Iv.s_setA, ↓Iv.s_dext, ↓Iv.dctK_fin, ↓Iv.chkK_T, ↓Iv.o_aug_add, ↓Iv.o_aug_sub, ↓Iv.b_int1, ↓Iv.b_int1b, ↓Iv.b_tup1, ↓Iv.b_tup1t, ↓Iv.comp_nil, ↓Iv.comp_k, ↓Iv.i_zipS, ↓Iv.i_enumS, ↓Iv.xt_0, ↓Iv.xt_1, ↓Iv.xt_2, ↓Iv.xt_3, ↓Iv.xt_4, ↓Iv.xt_5, ↓Iv.xl_0, ↓Iv.xl_1, ↓Iv.xl_2, ↓Iv.xl_3, ↓Iv.xl_4, ↓Iv.o_addT, ↓Iv.b_divmod, hw, ↓bnd_of e1, ↓bnd_of e2, Bool.not_true, Bool.not_false, decide_true, decide_false, eq_self, List.cons_append, List.nil_append]
  refine for_range (Q := fun o => o = some (D.bl true, h)) (fun i s' h' => h' = h ∧ ∃ x7 x10 x11, s' = [some (noiseD t l), some (.int s), some (.tup [.int (a * w), .int (b * w)]), some (.tup [.int 1, .int 0]), some (.int w), some (.lst [.tup [.int (a * w), .int (b * w)], .tup [.int (a * w + 1 * w), .int (b * w + 0 * w)]]), some (.int (edge U V w ((i - 1 : Nat) : Int))), x7, some (.int U), some (.int V), x10, x11]) ?_ ?_ ?_
  · refine ⟨rfl, none, none, none, ?_⟩
    rw [show ((0 - 1 : Nat) : Int) = 0 from rfl, edge_0 (by omega)]
  · rintro i s' h' hi ⟨rfl, x7, x10, x11, rfl⟩
    have hi' : (i : Int) ≤ w := by omega
    have up : U ≤ V → edge U V w ((i - 1 : Nat) : Int) ≤ edge U V w (i : Int) := by
      intro huv
      cases i with
      | zero => exact Int.le_refl _
      | succ j =>
        have := edge_up (w := w) (k := (j : Int)) (by omega) huv
        simpa using this
    have down : V ≤ U → edge U V w (i : Int) ≤ edge U V w ((i - 1 : Nat) : Int) := by
      intro huv
      cases i with
      | zero => exact Int.le_refl _
      | succ j =>
        have := edge_down (w := w) (k := (j : Int)) (by omega) huv
        simpa using this
    have he : (U * (w - (i : Int)) + V * (i : Int)) / w = edge U V w (i : Int) := rfl
    rcases Int.lt_trichotomy U V with c | c | c
    · have u1 := up (by omega)
      simp -implicitDefEqProofs (disch := first | omega | decide +kernel | exact rfl | (simp only [List.length_cons, List.length_nil]; decide +kernel)) only [↓Iv.slotK_0, ↓Iv.slotK_s, ↓Iv.setK_0, ↓Iv.setK_s, ↓Iv.nthK_0, ↓Iv.nthK_s, ↓Iv.permK_0, ↓Iv.permK_s, ↓Iv.e_v, ↓Iv.e_c, ↓Iv.e_tup, ↓Iv.e_lstv, ↓Iv.e_alloc, ↓Iv.e_bin, ↓Iv.e_neg, ↓Iv.e_cmp, ↓Iv.e_chain, ↓Iv.e_and, ↓Iv.e_or, ↓Iv.e_notK, ↓Iv.notK_T, ↓Iv.notK_F, ↓Iv.e_ite, ↓Iv.e_idx, ↓Iv.e_call, ↓Iv.e_bi, ↓Iv.es_nil, ↓Iv.es_cons, ↓Iv.f_disp, ↓Iv.new_3, ↓Iv.new_0, ↓Iv.sz_0, ↓Iv.sz_1, ↓Iv.sz_2, ↓Iv.sz_3, ↓Iv.sz_4, ↓Iv.sz_5, ↓Iv.sz_6, ↓Iv.sz_7, ↓Iv.sz_8, ↓Iv.sz_9, ↓Iv.sz_10, ↓Iv.sz_11, ↓Iv.sz_12, ↓Iv.sz_13, ↓Iv.sz_14, ↓Iv.t_nm, ↓Iv.t_tup, ↓Iv.t_lst, ↓Iv.t_sub, ↓Iv.ts_nil, ↓Iv.ts_cons, ↓Iv.ss_nil, ↓Iv.ss_cons, ↓Iv.seqK_rt, ↓Iv.seqK_nx, ↓Iv.s_asg, ↓Iv.s_aug, ↓Iv.s_expr, ↓Iv.s_ret, ↓Iv.s_retN, ↓Iv.s_pass, ↓Iv.s_ite, ↓Iv.s_for, ↓Iv.i_range1, ↓Iv.i_range2, ↓Iv.i_seq, ↓Iv.rgK_is, ↓Iv.rgK2_is, ↓Iv.itK_lst, ↓Iv.itK_tup, ↓Iv.o_add, ↓Iv.o_sub, ↓Iv.o_mul_l, ↓Iv.o_mul_r, ↓Iv.md600, ↓Iv.o_mod, ↓Iv.o_fdiv_s, ↓Iv.o_shl, ↓Iv.o_neg, ↓Iv.c_lt, ↓Iv.c_le, ↓Iv.c_gt, ↓Iv.c_ge, ↓Iv.c_eqI, ↓Iv.c_neI, ↓Iv.bl_K, ↓Iv.b_lenL, ↓Iv.b_lenT, ↓Iv.b_abs, ↓Iv.b_min2, ↓Iv.b_max2, ↓Iv.b_bits, ↓Iv.b_isaI_i, ↓Iv.b_isaI_b, ↓Iv.b_isaB_i, ↓Iv.b_isaB_b, ↓Iv.x_pick2, ↓Iv.x_pick3, ↓Iv.x_pick4, ↓Iv.x_pick5, ↓Iv.iteB_T, ↓Iv.iteB_F, ↓Iv.iteB_dT, ↓Iv.iteB_dF, ↓Iv.iteB_nT, ↓Iv.iteB_nF, ↓Iv.bodyF_is, ↓Iv.end_i, ↓Iv.end_b, ↓Iv.end_s, ↓Iv.end_iS, ↓Iv.end_iL, ↓Iv.end_own, ↓Iv.end_n, ↓Iv.end_r, ↓Iv.end_puI, ↓Iv.end_puB, ↓Iv.end_puT, ↓Iv.pw6, ↓Iv.pw9, ↓Iv.pw12, ↓Iv.pw18, ↓Iv.pw24, ↓Iv.pw30, ↓Iv.pw60, ↓Iv.pw600, ↓Iv.md600, ↓Iv.x_p0, ↓Iv.x_p1, ↓Iv.x_p2, ↓Iv.st_p0, ↓Iv.st_p2, ↓Iv.e_kidx, ↓Iv.e_kget, ↓Iv.e_dnew, ↓Iv.e_dfin, ↓Iv.kidx_hit, ↓Iv.kidx_miss, ↓Iv.c_strT, ↓Iv.c_strF, ↓Iv.c_nstrT, ↓Iv.c_nstrF, ↓Iv.c_isNs, ↓Iv.c_isNi, ↓Iv.c_isNt, ↓Iv.c_isNn, ↓Iv.b_isaT_t, ↓Iv.b_isaS_s, ↓Iv.b_lenS, ↓Iv.e_slice, ↓Iv.f_slc, ↓Iv.f_cat, ↓Iv.f_lst1, ↓Iv.f_comp, ↓Iv.turnC_k, ↓Iv.wipeK_0, ↓Iv.wipeK_s, ↓Iv.unsetK_0, ↓Iv.unsetK_s, ↓Iv.p_nm, ↓Iv.p_tup, ↓Iv.ps_0, ↓Iv.ps_s, ↓Iv.addK_n, ↓Iv.addK_s, ↓Iv.ifs_nil, ↓Iv.ifs_one, ↓Iv.optK_some, ↓Iv.partK_i, ↓Iv.s_app, ↓Iv.s_setF, ↓Iv.s_setA, ↓Iv.s_dext, ↓Iv.dctK_fin, ↓Iv.chkK_T, ↓Iv.o_aug_add, ↓Iv.o_aug_sub, ↓Iv.b_int1, ↓Iv.b_int1b, ↓Iv.b_tup1, ↓Iv.b_tup1t, ↓Iv.comp_nil, ↓Iv.comp_k, ↓Iv.i_zipS, ↓Iv.i_enumS, ↓Iv.xt_0, ↓Iv.xt_1, ↓Iv.xt_2, ↓Iv.xt_3, ↓Iv.xt_4, ↓Iv.xt_5, ↓Iv.xl_0, ↓Iv.xl_1, ↓Iv.xl_2, ↓Iv.xl_3, ↓Iv.xl_4, ↓Iv.o_addT, ↓Iv.b_divmod, ↓bnd_of (ev i hi'), he, Bool.not_true, Bool.not_false, decide_true, decide_false, eq_self, List.cons_append, List.nil_append]
      exact ⟨_, _, rfl, rfl, _, _, _, by rw [Nat.add_sub_cancel]⟩
    · have u1 := up (by omega)
      have u2 := down (by omega)
      simp -implicitDefEqProofs (disch := first | omega | decide +kernel | exact rfl | (simp only [List.length_cons, List.length_nil]; decide +kernel)) only [↓Iv.slotK_0, ↓Iv.slotK_s, ↓Iv.setK_0, ↓Iv.setK_s, ↓Iv.nthK_0, ↓Iv.nthK_s, ↓Iv.permK_0, ↓Iv.permK_s, ↓Iv.e_v, ↓Iv.e_c, ↓Iv.e_tup, ↓Iv.e_lstv, ↓Iv.e_alloc, ↓Iv.e_bin, ↓Iv.e_neg, ↓Iv.e_cmp, ↓Iv.e_chain, ↓Iv.e_and, ↓Iv.e_or, ↓Iv.e_notK, ↓Iv.notK_T, ↓Iv.notK_F, ↓Iv.e_ite, ↓Iv.e_idx, ↓Iv.e_call, ↓Iv.e_bi, ↓Iv.es_nil, ↓Iv.es_cons, ↓Iv.f_disp, ↓Iv.new_3, ↓Iv.new_0, ↓Iv.sz_0, ↓Iv.sz_1, ↓Iv.sz_2, ↓Iv.sz_3, ↓Iv.sz_4, ↓Iv.sz_5, ↓Iv.sz_6, ↓Iv.sz_7, ↓Iv.sz_8, ↓Iv.sz_9, ↓Iv.sz_10, ↓Iv.sz_11, ↓Iv.sz_12, ↓Iv.sz_13, ↓Iv.sz_14, ↓Iv.t_nm, ↓Iv.t_tup, ↓Iv.t_lst, ↓Iv.t_sub, ↓Iv.ts_nil, ↓Iv.ts_cons, ↓Iv.ss_nil, ↓Iv.ss_cons, ↓Iv.seqK_rt, ↓Iv.seqK_nx, ↓Iv.s_asg, ↓Iv.s_aug, ↓Iv.s_expr, ↓Iv.s_ret, ↓Iv.s_retN, ↓Iv.s_pass, ↓Iv.s_ite, ↓Iv.s_for, ↓Iv.i_range1, ↓Iv.i_range2, ↓Iv.i_seq, ↓Iv.rgK_is, ↓Iv.rgK2_is, ↓Iv.itK_lst, ↓Iv.itK_tup, ↓Iv.o_add, ↓Iv.o_sub, ↓Iv.o_mul_l, ↓Iv.o_mul_r, ↓Iv.md600, ↓Iv.o_mod, ↓Iv.o_fdiv_s, ↓Iv.o_shl, ↓Iv.o_neg, ↓Iv.c_lt, ↓Iv.c_le, ↓Iv.c_gt, ↓Iv.c_ge, ↓Iv.c_eqI, ↓Iv.c_neI, ↓Iv.bl_K, ↓Iv.b_lenL, ↓Iv.b_lenT, ↓Iv.b_abs, ↓Iv.b_min2, ↓Iv.b_max2, ↓Iv.b_bits, ↓Iv.b_isaI_i, ↓Iv.b_isaI_b, ↓Iv.b_isaB_i, ↓Iv.b_isaB_b, ↓Iv.x_pick2, ↓Iv.x_pick3, ↓Iv.x_pick4, ↓Iv.x_pick5, ↓Iv.iteB_T, ↓Iv.iteB_F, ↓Iv.iteB_dT, ↓Iv.iteB_dF, ↓Iv.iteB_nT, ↓Iv.iteB_nF, ↓Iv.bodyF_is, ↓Iv.end_i, ↓Iv.end_b, ↓Iv.end_s, ↓Iv.end_iS, ↓Iv.end_iL, ↓Iv.end_own, ↓Iv.end_n, ↓Iv.end_r, ↓Iv.end_puI, ↓Iv.end_puB, ↓Iv.end_puT, ↓Iv.pw6, ↓Iv.pw9, ↓Iv.pw12, ↓Iv.pw18, ↓Iv.pw24, ↓Iv.pw30, ↓Iv.pw60, ↓Iv.pw600, ↓Iv.md600, ↓Iv.x_p0, ↓Iv.x_p1, ↓Iv.x_p2, ↓Iv.st_p0, ↓Iv.st_p2, ↓Iv.e_kidx, ↓Iv.e_kget, ↓Iv.e_dnew, ↓Iv.e_dfin, ↓Iv.kidx_hit, ↓Iv.kidx_miss, ↓Iv.c_strT, ↓Iv.c_strF, ↓Iv.c_nstrT, ↓Iv.c_nstrF, ↓Iv.c_isNs, ↓Iv.c_isNi, ↓Iv.c_isNt, ↓Iv.c_isNn, ↓Iv.b_isaT_t, ↓Iv.b_isaS_s, ↓Iv.b_lenS, ↓Iv.e_slice, ↓Iv.f_slc, ↓Iv.f_cat, ↓Iv.f_lst1, ↓Iv.f_comp, ↓Iv.turnC_k, ↓Iv.wipeK_0, ↓Iv.wipeK_s, ↓Iv.unsetK_0, ↓Iv.unsetK_s, ↓Iv.p_nm, ↓Iv.p_tup, ↓Iv.ps_0, ↓Iv.ps_s, ↓Iv.addK_n, ↓Iv.addK_s, ↓Iv.ifs_nil, ↓Iv.ifs_one, ↓Iv.optK_some, ↓Iv.partK_i, ↓Iv.s_app, ↓Iv.s_setF, ↓Iv.s_setA, ↓Iv.s_dext, ↓Iv.dctK_fin, ↓Iv.chkK_T, ↓Iv.o_aug_add, ↓Iv.o_aug_sub, ↓Iv.b_int1, ↓Iv.b_int1b, ↓Iv.b_tup1, ↓Iv.b_tup1t, ↓Iv.comp_nil, ↓Iv.comp_k, ↓Iv.i_zipS, ↓Iv.i_enumS, ↓Iv.xt_0, ↓Iv.xt_1, ↓Iv.xt_2, ↓Iv.xt_3, ↓Iv.xt_4, ↓Iv.xt_5, ↓Iv.xl_0, ↓Iv.xl_1, ↓Iv.xl_2, ↓Iv.xl_3, ↓Iv.xl_4, ↓Iv.o_addT, ↓Iv.b_divmod, ↓bnd_of (ev i hi'), he, Bool.not_true, Bool.not_false, decide_true, decide_false, eq_self, List.cons_append, List.nil_append]
      exact ⟨_, _, rfl, rfl, _, _, _, by rw [Nat.add_sub_cancel]⟩
    · have u2 := down (by omega)
      simp -implicitDefEqProofs (disch := first | omega | decide +kernel | exact rfl | (simp only [List.length_cons, List.length_nil]; decide +kernel)) only [↓Iv.slotK_0, ↓Iv.slotK_s, ↓Iv.setK_0, ↓Iv.setK_s, ↓Iv.nthK_0, ↓Iv.nthK_s, ↓Iv.permK_0, ↓Iv.permK_s, ↓Iv.e_v, ↓Iv.e_c, ↓Iv.e_tup, ↓Iv.e_lstv, ↓Iv.e_alloc, ↓Iv.e_bin, ↓Iv.e_neg, ↓Iv.e_cmp, ↓Iv.e_chain, ↓Iv.e_and, ↓Iv.e_or, ↓Iv.e_notK, ↓Iv.notK_T, ↓Iv.notK_F, ↓Iv.e_ite, ↓Iv.e_idx, ↓Iv.e_call, ↓Iv.e_bi, ↓Iv.es_nil, ↓Iv.es_cons, ↓Iv.f_disp, ↓Iv.new_3, ↓Iv.new_0, ↓Iv.sz_0, ↓Iv.sz_1, ↓Iv.sz_2, ↓Iv.sz_3, ↓Iv.sz_4, ↓Iv.sz_5, ↓Iv.sz_6, ↓Iv.sz_7, ↓Iv.sz_8, ↓Iv.sz_9, ↓Iv.sz_10, ↓Iv.sz_11, ↓Iv.sz_12, ↓Iv.sz_13, ↓Iv.sz_14, ↓Iv.t_nm, ↓Iv.t_tup, ↓Iv.t_lst, ↓Iv.t_sub, ↓Iv.ts_nil, ↓Iv.ts_cons, ↓Iv.ss_nil, ↓Iv.ss_cons, ↓Iv.seqK_rt, ↓Iv.seqK_nx, ↓Iv.s_asg, ↓Iv.s_aug, ↓Iv.s_expr, ↓Iv.s_ret, ↓Iv.s_retN, ↓Iv.s_pass, ↓Iv.s_ite, ↓Iv.s_for, ↓Iv.i_range1, ↓Iv.i_range2, ↓Iv.i_seq, ↓Iv.rgK_is, ↓Iv.rgK2_is, ↓Iv.itK_lst, ↓Iv.itK_tup, ↓Iv.o_add, ↓Iv.o_sub, ↓Iv.o_mul_l, ↓Iv.o_mul_r, ↓Iv.md600, ↓Iv.o_mod, ↓Iv.o_fdiv_s, ↓Iv.o_shl, ↓Iv.o_neg, ↓Iv.c_lt, ↓Iv.c_le, ↓Iv.c_gt, ↓Iv.c_ge, ↓Iv.c_eqI, ↓Iv.c_neI, ↓Iv.bl_K, ↓Iv.b_lenL, ↓Iv.b_lenT, ↓Iv.b_abs, ↓Iv.b_min2, ↓Iv.b_max2, ↓Iv.b_bits, ↓Iv.b_isaI_i, ↓Iv.b_isaI_b, ↓Iv.b_isaB_i, ↓Iv.b_isaB_b, ↓Iv.x_pick2, ↓Iv.x_pick3, ↓Iv.x_pick4, ↓Iv.x_pick5, ↓Iv.iteB_T, ↓Iv.iteB_F, ↓Iv.iteB_dT, ↓Iv.iteB_dF, ↓Iv.iteB_nT, ↓Iv.iteB_nF, ↓Iv.bodyF_is, ↓Iv.end_i, ↓Iv.end_b, ↓Iv.end_s, ↓Iv.end_iS, ↓Iv.end_iL, ↓Iv.end_own, ↓Iv.end_n, ↓Iv.end_r, ↓Iv.end_puI, ↓Iv.end_puB, ↓Iv.end_puT, ↓Iv.pw6, ↓Iv.pw9, ↓Iv.pw12, ↓Iv.pw18, ↓Iv.pw24, ↓Iv.pw30, ↓Iv.pw60, ↓Iv.pw600, ↓Iv.md600, ↓Iv.x_p0, ↓Iv.x_p1, ↓Iv.x_p2, ↓Iv.st_p0, ↓Iv.st_p2, ↓Iv.e_kidx, ↓Iv.e_kget, ↓Iv.e_dnew, ↓Iv.e_dfin, ↓Iv.kidx_hit, ↓Iv.kidx_miss, ↓Iv.c_strT, ↓Iv.c_strF, ↓Iv.c_nstrT, ↓Iv.c_nstrF, ↓Iv.c_isNs, ↓Iv.c_isNi, ↓Iv.c_isNt, ↓Iv.c_isNn, ↓Iv.b_isaT_t, ↓Iv.b_isaS_s, ↓Iv.b_lenS, ↓Iv.e_slice, ↓Iv.f_slc, ↓Iv.f_cat, ↓Iv.f_lst1, ↓Iv.f_comp, ↓Iv.turnC_k, ↓Iv.wipeK_0, ↓Iv.wipeK_s, ↓Iv.unsetK_0, ↓Iv.unsetK_s, ↓Iv.p_nm, ↓Iv.p_tup, ↓Iv.ps_0, ↓Iv.ps_s, ↓Iv.addK_n, ↓Iv.addK_s, ↓Iv.ifs_nil, ↓Iv.ifs_one, ↓Iv.optK_some, ↓Iv.partK_i, ↓Iv.s_app, ↓Iv.s_setF, ↓Iv.s_setA, ↓Iv.s_dext, ↓Iv.dctK_fin, ↓Iv.chkK_T, ↓Iv.o_aug_add, ↓Iv.o_aug_sub, ↓Iv.b_int1, ↓Iv.b_int1b, ↓Iv.b_tup1, ↓Iv.b_tup1t, ↓Iv.comp_nil, ↓Iv.comp_k, ↓Iv.i_zipS, ↓Iv.i_enumS, ↓Iv.xt_0, ↓Iv.xt_1, ↓Iv.xt_2, ↓Iv.xt_3, ↓Iv.xt_4, ↓Iv.xt_5, ↓Iv.xl_0, ↓Iv.xl_1, ↓Iv.xl_2, ↓Iv.xl_3, ↓Iv.xl_4, ↓Iv.o_addT, ↓Iv.b_divmod, ↓bnd_of (ev i hi'), he, Bool.not_true, Bool.not_false, decide_true, decide_false, eq_self, List.cons_append, List.nil_append]
      exact ⟨_, _, rfl, rfl, _, _, _, by rw [Nat.add_sub_cancel]⟩
  · rintro s' h' ⟨rfl, x7, x10, x11, rfl⟩
    have hz : edge U V w (((w + 1).toNat - 1 : Nat) : Int) = V := by rw [toNat1 w0, Int.toNat_of_nonneg (by omega), edge_w (by omega)]
    simp -implicitDefEqProofs (disch := first | omega | decide +kernel | exact rfl | (simp only [List.length_cons, List.length_nil]; decide +kernel)) only [↓Iv.slotK_0, ↓Iv.slotK_s, ↓Iv.setK_0, ↓Iv.setK_s, ↓Iv.nthK_0, ↓Iv.nthK_s, ↓Iv.permK_0, ↓Iv.permK_s, ↓Iv.e_v, ↓Iv.e_c, ↓Iv.e_tup, ↓Iv.e_lstv, ↓Iv.e_alloc, ↓Iv.e_bin, ↓Iv.e_neg, ↓Iv.e_cmp, ↓Iv.e_chain, ↓Iv.e_and, ↓Iv.e_or, ↓Iv.e_notK, ↓Iv.notK_T, ↓Iv.notK_F, ↓Iv.e_ite, ↓Iv.e_idx, ↓Iv.e_call, ↓Iv.e_bi, ↓Iv.es_nil, ↓Iv.es_cons, ↓Iv.f_disp, ↓Iv.new_3, ↓Iv.new_0, ↓Iv.sz_0, ↓Iv.sz_1, ↓Iv.sz_2, ↓Iv.sz_3, ↓Iv.sz_4, ↓Iv.sz_5, ↓Iv.sz_6, ↓Iv.sz_7, ↓Iv.sz_8, ↓Iv.sz_9, ↓Iv.sz_10, ↓Iv.sz_11, ↓Iv.sz_12, ↓Iv.sz_13, ↓Iv.sz_14, ↓Iv.t_nm, ↓Iv.t_tup, ↓Iv.t_lst, ↓Iv.t_sub, ↓Iv.ts_nil, ↓Iv.ts_cons, ↓Iv.ss_nil, ↓Iv.ss_cons, ↓Iv.seqK_rt, ↓Iv.seqK_nx, ↓Iv.s_asg, ↓Iv.s_aug, ↓Iv.s_expr, ↓Iv.s_ret, ↓Iv.s_retN, ↓Iv.s_pass, ↓Iv.s_ite, ↓Iv.s_for, ↓Iv.i_range1, ↓Iv.i_range2, ↓Iv.i_seq, ↓Iv.rgK_is, ↓Iv.rgK2_is, ↓Iv.itK_lst, ↓Iv.itK_tup, ↓Iv.o_add, ↓Iv.o_sub, ↓Iv.o_mul_l, ↓Iv.o_mul_r, ↓Iv.md600, ↓Iv.o_mod, ↓Iv.o_fdiv_s, ↓Iv.o_shl, ↓Iv.o_neg, ↓Iv.c_lt, ↓Iv.c_le, ↓Iv.c_gt, ↓Iv.c_ge, ↓Iv.c_eqI, ↓Iv.c_neI, ↓Iv.bl_K, ↓Iv.b_lenL, ↓Iv.b_lenT, ↓Iv.b_abs, ↓Iv.b_min2, ↓Iv.b_max2, ↓Iv.b_bits, ↓Iv.b_isaI_i, ↓Iv.b_isaI_b, ↓Iv.b_isaB_i, ↓Iv.b_isaB_b, ↓Iv.x_pick2, ↓Iv.x_pick3, ↓Iv.x_pick4, ↓Iv.x_pick5, ↓Iv.iteB_T, ↓Iv.iteB_F, ↓Iv.iteB_dT, ↓Iv.iteB_dF, ↓Iv.iteB_nT, ↓Iv.iteB_nF, ↓Iv.bodyF_is, ↓Iv.end_i, ↓Iv.end_b, ↓Iv.end_s, ↓Iv.end_iS, ↓Iv.end_iL, ↓Iv.end_own, ↓Iv.end_n, ↓Iv.end_r, ↓Iv.end_puI, ↓Iv.end_puB, ↓Iv.end_puT, ↓Iv.pw6, ↓Iv.pw9, ↓Iv.pw12, ↓Iv.pw18, ↓Iv.pw24, ↓Iv.pw30, ↓Iv.pw60, ↓Iv.pw600, ↓Iv.md600, ↓Iv.x_p0, ↓Iv.x_p1, ↓Iv.x_p2, ↓Iv.st_p0, ↓Iv.st_p2, ↓Iv.e_kidx, ↓Iv.e_kget, ↓Iv.e_dnew, ↓Iv.e_dfin, ↓Iv.kidx_hit, ↓Iv.kidx_miss, ↓Iv.c_strT, ↓Iv.c_strF, ↓Iv.c_nstrT, ↓Iv.c_nstrF, ↓Iv.c_isNs, ↓Iv.c_isNi, ↓Iv.c_isNt, ↓Iv.c_isNn, ↓Iv.b_isaT_t, ↓Iv.b_isaS_s, ↓Iv.b_lenS, ↓Iv.e_slice, ↓Iv.f_slc, ↓Iv.f_cat, ↓Iv.f_lst1, ↓Iv.f_comp, ↓Iv.turnC_k, ↓Iv.wipeK_0, ↓Iv.wipeK_s, ↓Iv.unsetK_0, ↓Iv.unsetK_s, ↓Iv.p_nm, ↓Iv.p_tup, ↓Iv.ps_0, ↓Iv.ps_s, ↓Iv.addK_n, ↓Iv.addK_s, ↓Iv.ifs_nil, ↓Iv.ifs_one, ↓Iv.optK_some, ↓Iv.partK_i, ↓Iv.s_app, ↓Iv.s_setF, ↓Iv.s_setA, ↓Iv.s_dext, ↓Iv.dctK_fin, ↓Iv.chkK_T, ↓Iv.o_aug_add, ↓Iv.o_aug_sub, ↓Iv.b_int1, ↓Iv.b_int1b, ↓Iv.b_tup1, ↓Iv.b_tup1t, ↓Iv.comp_nil, ↓Iv.comp_k, ↓Iv.i_zipS, ↓Iv.i_enumS, ↓Iv.xt_0, ↓Iv.xt_1, ↓Iv.xt_2, ↓Iv.xt_3, ↓Iv.xt_4, ↓Iv.xt_5, ↓Iv.xl_0, ↓Iv.xl_1, ↓Iv.xl_2, ↓Iv.xl_3, ↓Iv.xl_4, ↓Iv.o_addT, ↓Iv.b_divmod, hz, Bool.not_true, Bool.not_false, decide_true, decide_false, eq_self, List.cons_append, List.nil_append]
theorem run_line_z {k : Nat} {s t l a b : Int} {h : AH} (t0 : 0 ≤ t) (t1 : t ≤ 1000000000) (l0 : 0 ≤ l) (l1 : l ≤ 8) (ha : a.natAbs ≤ 50) (hb : b.natAbs ≤ 50) :
    run T (k + 7) fL_line_right [noiseD t l, .int s, .tup [.int (a * wid l), .int (b * wid l)], .tup [.int 0, .int 1]] h = some (.bl true, h) := by
  rw [run_eq (fn := tL_line_right.fn) rfl rfl]
  show bnd (semSs _ bL_line_right [some (noiseD t l), some (.int s), some (.tup [.int (a * wid l), .int (b * wid l)]), some (.tup [.int 0, .int 1]), none, none, none, none, none, none, none, none]) (endK .cut h) _ = _
  unfold bL_line_right
  obtain ⟨w0, w1⟩ := wid_b l0 l1
  have hw : (1 : Int) * 2 ^ l.toNat = wid l := rfl
  have ma := mul_w ha w0 w1
  have mb := mul_w hb w0 w1
  have e1 : run T (k + 6) fL_noise [noiseD t l, .int s, .int (a * wid l), .int (b * wid l)] h = some (.int (knotV s t a b), h) := by
    rw [run_lnoise l0 l1]
    unfold noiseV
    rw [noise_k (by omega)]
  have e2 : run T (k + 6) fL_noise [noiseD t l, .int s, .int (a * wid l + 0 * wid l), .int (b * wid l + 1 * wid l)] h = some (.int (knotV s t a (b + 1)), h) := by
    rw [run_lnoise l0 l1]
    unfold noiseV
    rw [Int.one_mul, Int.zero_mul, Int.add_zero, show b * wid l + wid l = (b + 1) * wid l by rw [Int.add_mul, Int.one_mul], noise_k (by omega)]
  have ev : ∀ i : Nat, (i : Int) ≤ wid l → run T (k + 6) f_value_at [noiseD t l, .int s, .int (a * wid l + 0 * (i : Int)), .int (b * wid l + 1 * (i : Int))] h = some (.int (edge (knotV s t a b) (knotV s t a (b + 1)) (wid l) (i : Int)), h) := by
    intro i hi
    rw [Int.one_mul, Int.zero_mul, Int.add_zero, value_noise t0 t1 l0 l1 (by omega) (by omega)]
    unfold noiseV
    rw [noise_zw (by omega) (by omega) hi]
  generalize hU : knotV s t a b = U at *
  generalize hV : knotV s t a (b + 1) = V at *
  generalize hW : wid l = w at *
  simp -implicitDefEqProofs (disch := first | omega | decide +kernel | exact rfl | (simp only [List.length_cons, List.length_nil]; decide +kernel)) only [↓Iv.slotK_0, ↓Iv.slotK_s, ↓Iv.setK_0, ↓Iv.setK_s, ↓Iv.nthK_0, ↓Iv.nthK_s, ↓Iv.permK_0, ↓Iv.permK_s, ↓Iv.e_v, ↓Iv.e_c, ↓Iv.e_tup, ↓Iv.e_lstv, ↓Iv.e_alloc, ↓Iv.e_bin, ↓Iv.e_neg, ↓Iv.e_cmp, ↓Iv.e_chain, ↓Iv.e_and, ↓Iv.e_or, ↓Iv.e_notK, ↓Iv.notK_T, ↓Iv.notK_F, ↓Iv.e_ite, ↓Iv.e_idx, ↓Iv.e_call, ↓Iv.e_bi, ↓Iv.es_nil, ↓Iv.es_cons, ↓Iv.f_disp, ↓Iv.new_3, ↓Iv.new_0, ↓Iv.sz_0, ↓Iv.sz_1, ↓Iv.sz_2, ↓Iv.sz_3, ↓Iv.sz_4, ↓Iv.sz_5, ↓Iv.sz_6, ↓Iv.sz_7, ↓Iv.sz_8, ↓Iv.sz_9, ↓Iv.sz_10, ↓Iv.sz_11, ↓Iv.sz_12, ↓Iv.sz_13, ↓Iv.sz_14, ↓Iv.t_nm, ↓Iv.t_tup, ↓Iv.t_lst, ↓Iv.t_sub, ↓Iv.ts_nil, ↓Iv.ts_cons, ↓Iv.ss_nil, ↓Iv.ss_cons, ↓Iv.seqK_rt, ↓Iv.seqK_nx, ↓Iv.s_asg, ↓Iv.s_aug, ↓Iv.s_expr, ↓Iv.s_ret, ↓Iv.s_retN, ↓Iv.s_pass, ↓Iv.s_ite, ↓Iv.s_for, ↓Iv.i_range1, ↓Iv.i_range2, ↓Iv.i_seq, ↓Iv.rgK_is, ↓Iv.rgK2_is, ↓Iv.itK_lst, ↓Iv.itK_tup, ↓Iv.o_add, ↓Iv.o_sub, ↓Iv.o_mul_l, ↓Iv.o_mul_r, ↓Iv.md600, ↓Iv.o_mod, ↓Iv.o_fdiv_s, ↓Iv.o_shl, ↓Iv.o_neg, ↓Iv.c_lt, ↓Iv.c_le, ↓Iv.c_gt, ↓Iv.c_ge, ↓Iv.c_eqI, ↓Iv.c_neI, ↓Iv.bl_K, ↓Iv.b_lenL, ↓Iv.b_lenT, ↓Iv.b_abs, ↓Iv.b_min2, ↓Iv.b_max2, ↓Iv.b_bits, ↓Iv.b_isaI_i, ↓Iv.b_isaI_b, ↓Iv.b_isaB_i, ↓Iv.b_isaB_b, ↓Iv.x_pick2, ↓Iv.x_pick3, ↓Iv.x_pick4, ↓Iv.x_pick5, ↓Iv.iteB_T, ↓Iv.iteB_F, ↓Iv.iteB_dT, ↓Iv.iteB_dF, ↓Iv.iteB_nT, ↓Iv.iteB_nF, ↓Iv.bodyF_is, ↓Iv.end_i, ↓Iv.end_b, ↓Iv.end_s, ↓Iv.end_iS, ↓Iv.end_iL, ↓Iv.end_own, ↓Iv.end_n, ↓Iv.end_r, ↓Iv.end_puI, ↓Iv.end_puB, ↓Iv.end_puT, ↓Iv.pw6, ↓Iv.pw9, ↓Iv.pw12, ↓Iv.pw18, ↓Iv.pw24, ↓Iv.pw30, ↓Iv.pw60, ↓Iv.pw600, ↓Iv.md600, ↓Iv.x_p0, ↓Iv.x_p1, ↓Iv.x_p2, ↓Iv.st_p0, ↓Iv.st_p2, ↓Iv.e_kidx, ↓Iv.e_kget, ↓Iv.e_dnew, ↓Iv.e_dfin, ↓Iv.kidx_hit, ↓Iv.kidx_miss, ↓Iv.c_strT, ↓Iv.c_strF, ↓Iv.c_nstrT, ↓Iv.c_nstrF, ↓Iv.c_isNs, ↓Iv.c_isNi, ↓Iv.c_isNt, ↓Iv.c_isNn, ↓Iv.b_isaT_t, ↓Iv.b_isaS_s, ↓Iv.b_lenS, ↓Iv.e_slice, ↓Iv.f_slc, ↓Iv.f_cat, ↓Iv.f_lst1, ↓Iv.f_comp, ↓Iv.turnC_k, ↓Iv.wipeK_0, ↓Iv.wipeK_s, ↓Iv.unsetK_0, ↓Iv.unsetK_s, ↓Iv.p_nm, ↓Iv.p_tup, ↓Iv.ps_0, ↓Iv.ps_s, ↓Iv.addK_n, ↓Iv.addK_s, ↓Iv.ifs_nil, ↓Iv.ifs_one, ↓Iv.optK_some, ↓Iv.partK_i, ↓Iv.s_app, ↓Iv.s_setF, ↓Iv.s_setA, ↓Iv.s_dext, ↓Iv.dctK_fin, ↓Iv.chkK_T, ↓Iv.o_aug_add, ↓Iv.o_aug_sub, ↓Iv.b_int1, ↓Iv.b_int1b, ↓Iv.b_tup1, ↓Iv.b_tup1t, ↓Iv.comp_nil, ↓Iv.comp_k, ↓Iv.i_zipS, ↓Iv.i_enumS, ↓Iv.xt_0, ↓Iv.xt_1, ↓Iv.xt_2, ↓Iv.xt_3, ↓Iv.xt_4, ↓Iv.xt_5, ↓Iv.xl_0, ↓Iv.xl_1, ↓Iv.xl_2, ↓Iv.xl_3, ↓Iv.xl_4, ↓Iv.o_addT, ↓Iv.b_divmod, hw, ↓bnd_of e1, ↓bnd_of e2, Bool.not_true, Bool.not_false, decide_true, decide_false, eq_self, List.cons_append, List.nil_append]
  refine for_range (Q := fun o => o = some (D.bl true, h)) (fun i s' h' => h' = h ∧ ∃ x7 x10 x11, s' = [some (noiseD t l), some (.int s), some (.tup [.int (a * w), .int (b * w)]), some (.tup [.int 0, .int 1]), some (.int w), some (.lst [.tup [.int (a * w), .int (b * w)], .tup [.int (a * w + 0 * w), .int (b * w + 1 * w)]]), some (.int (edge U V w ((i - 1 : Nat) : Int))), x7, some (.int U), some (.int V), x10, x11]) ?_ ?_ ?_
  · refine ⟨rfl, none, none, none, ?_⟩
    rw [show ((0 - 1 : Nat) : Int) = 0 from rfl, edge_0 (by omega)]
  · rintro i s' h' hi ⟨rfl, x7, x10, x11, rfl⟩
    have hi' : (i : Int) ≤ w := by omega
    have up : U ≤ V → edge U V w ((i - 1 : Nat) : Int) ≤ edge U V w (i : Int) := by
      intro huv
      cases i with
      | zero => exact Int.le_refl _
      | succ j =>
        have := edge_up (w := w) (k := (j : Int)) (by omega) huv
        simpa using this
    have down : V ≤ U → edge U V w (i : Int) ≤ edge U V w ((i - 1 : Nat) : Int) := by
      intro huv
      cases i with
      | zero => exact Int.le_refl _
      | succ j =>
        have := edge_down (w := w) (k := (j : Int)) (by omega) huv
        simpa using this
    have he : (U * (w - (i : Int)) + V * (i : Int)) / w = edge U V w (i : Int) := rfl
    rcases Int.lt_trichotomy U V with c | c | c
    · have u1 := up (by omega)
      simp -implicitDefEqProofs (disch := first | omega | decide +kernel | exact rfl | (simp only [List.length_cons, List.length_nil]; decide +kernel)) only [↓Iv.slotK_0, ↓Iv.slotK_s, ↓Iv.setK_0, ↓Iv.setK_s, ↓Iv.nthK_0, ↓Iv.nthK_s, ↓Iv.permK_0, ↓Iv.permK_s, ↓Iv.e_v, ↓Iv.e_c, ↓Iv.e_tup, ↓Iv.e_lstv, ↓Iv.e_alloc, ↓Iv.e_bin, ↓Iv.e_neg, ↓Iv.e_cmp, ↓Iv.e_chain, ↓Iv.e_and, ↓Iv.e_or, ↓Iv.e_notK, ↓Iv.notK_T, ↓Iv.notK_F, ↓Iv.e_ite, ↓Iv.e_idx, ↓Iv.e_call, ↓Iv.e_bi, ↓Iv.es_nil, ↓Iv.es_cons, ↓Iv.f_disp, ↓Iv.new_3, ↓Iv.new_0, ↓Iv.sz_0, ↓Iv.sz_1, ↓Iv.sz_2, ↓Iv.sz_3, ↓Iv.sz_4, ↓Iv.sz_5, ↓Iv.sz_6, ↓Iv.sz_7, ↓Iv.sz_8, ↓Iv.sz_9, ↓Iv.sz_10, ↓Iv.sz_11, ↓Iv.sz_12, ↓Iv.sz_13, ↓Iv.sz_14, ↓Iv.t_nm, ↓Iv.t_tup, ↓Iv.t_lst, ↓Iv.t_sub, ↓Iv.ts_nil, ↓Iv.ts_cons, ↓Iv.ss_nil, ↓Iv.ss_cons, ↓Iv.seqK_rt, ↓Iv.seqK_nx, ↓Iv.s_asg, ↓Iv.s_aug, ↓Iv.s_expr, ↓Iv.s_ret, ↓Iv.s_retN, ↓Iv.s_pass, ↓Iv.s_ite, ↓Iv.s_for, ↓Iv.i_range1, ↓Iv.i_range2, ↓Iv.i_seq, ↓Iv.rgK_is, ↓Iv.rgK2_is, ↓Iv.itK_lst, ↓Iv.itK_tup, ↓Iv.o_add, ↓Iv.o_sub, ↓Iv.o_mul_l, ↓Iv.o_mul_r, ↓Iv.md600, ↓Iv.o_mod, ↓Iv.o_fdiv_s, ↓Iv.o_shl, ↓Iv.o_neg, ↓Iv.c_lt, ↓Iv.c_le, ↓Iv.c_gt, ↓Iv.c_ge, ↓Iv.c_eqI, ↓Iv.c_neI, ↓Iv.bl_K, ↓Iv.b_lenL, ↓Iv.b_lenT, ↓Iv.b_abs, ↓Iv.b_min2, ↓Iv.b_max2, ↓Iv.b_bits, ↓Iv.b_isaI_i, ↓Iv.b_isaI_b, ↓Iv.b_isaB_i, ↓Iv.b_isaB_b, ↓Iv.x_pick2, ↓Iv.x_pick3, ↓Iv.x_pick4, ↓Iv.x_pick5, ↓Iv.iteB_T, ↓Iv.iteB_F, ↓Iv.iteB_dT, ↓Iv.iteB_dF, ↓Iv.iteB_nT, ↓Iv.iteB_nF, ↓Iv.bodyF_is, ↓Iv.end_i, ↓Iv.end_b, ↓Iv.end_s, ↓Iv.end_iS, ↓Iv.end_iL, ↓Iv.end_own, ↓Iv.end_n, ↓Iv.end_r, ↓Iv.end_puI, ↓Iv.end_puB, ↓Iv.end_puT, ↓Iv.pw6, ↓Iv.pw9, ↓Iv.pw12, ↓Iv.pw18, ↓Iv.pw24, ↓Iv.pw30, ↓Iv.pw60, ↓Iv.pw600, ↓Iv.md600, ↓Iv.x_p0, ↓Iv.x_p1, ↓Iv.x_p2, ↓Iv.st_p0, ↓Iv.st_p2, ↓Iv.e_kidx, ↓Iv.e_kget, ↓Iv.e_dnew, ↓Iv.e_dfin, ↓Iv.kidx_hit, ↓Iv.kidx_miss, ↓Iv.c_strT, ↓Iv.c_strF, ↓Iv.c_nstrT, ↓Iv.c_nstrF, ↓Iv.c_isNs, ↓Iv.c_isNi, ↓Iv.c_isNt, ↓Iv.c_isNn, ↓Iv.b_isaT_t, ↓Iv.b_isaS_s, ↓Iv.b_lenS, ↓Iv.e_slice, ↓Iv.f_slc, ↓Iv.f_cat, ↓Iv.f_lst1, ↓Iv.f_comp, ↓Iv.turnC_k, ↓Iv.wipeK_0, ↓Iv.wipeK_s, ↓Iv.unsetK_0, ↓Iv.unsetK_s, ↓Iv.p_nm, ↓Iv.p_tup, ↓Iv.ps_0, ↓Iv.ps_s, ↓Iv.addK_n, ↓Iv.addK_s, ↓Iv.ifs_nil, ↓Iv.ifs_one, ↓Iv.optK_some, ↓Iv.partK_i, ↓Iv.s_app, ↓Iv.s_setF, ↓Iv.s_setA, ↓Iv.s_dext, ↓Iv.dctK_fin, ↓Iv.chkK_T, ↓Iv.o_aug_add, ↓Iv.o_aug_sub, ↓Iv.b_int1, ↓Iv.b_int1b, ↓Iv.b_tup1, ↓Iv.b_tup1t, ↓Iv.comp_nil, ↓Iv.comp_k, ↓Iv.i_zipS, ↓Iv.i_enumS, ↓Iv.xt_0, ↓Iv.xt_1, ↓Iv.xt_2, ↓Iv.xt_3, ↓Iv.xt_4, ↓Iv.xt_5, ↓Iv.xl_0, ↓Iv.xl_1, ↓Iv.xl_2, ↓Iv.xl_3, ↓Iv.xl_4, ↓Iv.o_addT, ↓Iv.b_divmod, ↓bnd_of (ev i hi'), he, Bool.not_true, Bool.not_false, decide_true, decide_false, eq_self, List.cons_append, List.nil_append]
      exact ⟨_, _, rfl, rfl, _, _, _, by rw [Nat.add_sub_cancel]⟩
    · have u1 := up (by omega)
      have u2 := down (by omega)
      simp -implicitDefEqProofs (disch := first | omega | decide +kernel | exact rfl | (simp only [List.length_cons, List.length_nil]; decide +kernel)) only [↓Iv.slotK_0, ↓Iv.slotK_s, ↓Iv.setK_0, ↓Iv.setK_s, ↓Iv.nthK_0, ↓Iv.nthK_s, ↓Iv.permK_0, ↓Iv.permK_s, ↓Iv.e_v, ↓Iv.e_c, ↓Iv.e_tup, ↓Iv.e_lstv, ↓Iv.e_alloc, ↓Iv.e_bin, ↓Iv.e_neg, ↓Iv.e_cmp, ↓Iv.e_chain, ↓Iv.e_and, ↓Iv.e_or, ↓Iv.e_notK, ↓Iv.notK_T, ↓Iv.notK_F, ↓Iv.e_ite, ↓Iv.e_idx, ↓Iv.e_call, ↓Iv.e_bi, ↓Iv.es_nil, ↓Iv.es_cons, ↓Iv.f_disp, ↓Iv.new_3, ↓Iv.new_0, ↓Iv.sz_0, ↓Iv.sz_1, ↓Iv.sz_2, ↓Iv.sz_3, ↓Iv.sz_4, ↓Iv.sz_5, ↓Iv.sz_6, ↓Iv.sz_7, ↓Iv.sz_8, ↓Iv.sz_9, ↓Iv.sz_10, ↓Iv.sz_11, ↓Iv.sz_12, ↓Iv.sz_13, ↓Iv.sz_14, ↓Iv.t_nm, ↓Iv.t_tup, ↓Iv.t_lst, ↓Iv.t_sub, ↓Iv.ts_nil, ↓Iv.ts_cons, ↓Iv.ss_nil, ↓Iv.ss_cons, ↓Iv.seqK_rt, ↓Iv.seqK_nx, ↓Iv.s_asg, ↓Iv.s_aug, ↓Iv.s_expr, ↓Iv.s_ret, ↓Iv.s_retN, ↓Iv.s_pass, ↓Iv.s_ite, ↓Iv.s_for, ↓Iv.i_range1, ↓Iv.i_range2, ↓Iv.i_seq, ↓Iv.rgK_is, ↓Iv.rgK2_is, ↓Iv.itK_lst, ↓Iv.itK_tup, ↓Iv.o_add, ↓Iv.o_sub, ↓Iv.o_mul_l, ↓Iv.o_mul_r, ↓Iv.md600, ↓Iv.o_mod, ↓Iv.o_fdiv_s, ↓Iv.o_shl, ↓Iv.o_neg, ↓Iv.c_lt, ↓Iv.c_le, ↓Iv.c_gt, ↓Iv.c_ge, ↓Iv.c_eqI, ↓Iv.c_neI, ↓Iv.bl_K, ↓Iv.b_lenL, ↓Iv.b_lenT, ↓Iv.b_abs, ↓Iv.b_min2, ↓Iv.b_max2, ↓Iv.b_bits, ↓Iv.b_isaI_i, ↓Iv.b_isaI_b, ↓Iv.b_isaB_i, ↓Iv.b_isaB_b, ↓Iv.x_pick2, ↓Iv.x_pick3, ↓Iv.x_pick4, ↓Iv.x_pick5, ↓Iv.iteB_T, ↓Iv.iteB_F, ↓Iv.iteB_dT, ↓Iv.iteB_dF, ↓Iv.iteB_nT, ↓Iv.iteB_nF, ↓Iv.bodyF_is, ↓Iv.end_i, ↓Iv.end_b, ↓Iv.end_s, ↓Iv.end_iS, ↓Iv.end_iL, ↓Iv.end_own, ↓Iv.end_n, ↓Iv.end_r, ↓Iv.end_puI, ↓Iv.end_puB, ↓Iv.end_puT, ↓Iv.pw6, ↓Iv.pw9, ↓Iv.pw12, ↓Iv.pw18, ↓Iv.pw24, ↓Iv.pw30, ↓Iv.pw60, ↓Iv.pw600, ↓Iv.md600, ↓Iv.x_p0, ↓Iv.x_p1, ↓Iv.x_p2, ↓Iv.st_p0, ↓Iv.st_p2, ↓Iv.e_kidx, ↓Iv.e_kget, ↓Iv.e_dnew, ↓Iv.e_dfin, ↓Iv.kidx_hit, ↓Iv.kidx_miss, ↓Iv.c_strT, ↓Iv.c_strF, ↓Iv.c_nstrT, ↓Iv.c_nstrF, ↓Iv.c_isNs, ↓Iv.c_isNi, ↓Iv.c_isNt, ↓Iv.c_isNn, ↓Iv.b_isaT_t, ↓Iv.b_isaS_s, ↓Iv.b_lenS, ↓Iv.e_slice, ↓Iv.f_slc, ↓Iv.f_cat, ↓Iv.f_lst1, ↓Iv.f_comp, ↓Iv.turnC_k, ↓Iv.wipeK_0, ↓Iv.wipeK_s, ↓Iv.unsetK_0, ↓Iv.unsetK_s, ↓Iv.p_nm, ↓Iv.p_tup, ↓Iv.ps_0, ↓Iv.ps_s, ↓Iv.addK_n, ↓Iv.addK_s, ↓Iv.ifs_nil, ↓Iv.ifs_one, ↓Iv.optK_some, ↓Iv.partK_i, ↓Iv.s_app, ↓Iv.s_setF, ↓Iv.s_setA, ↓Iv.s_dext, ↓Iv.dctK_fin, ↓Iv.chkK_T, ↓Iv.o_aug_add, ↓Iv.o_aug_sub, ↓Iv.b_int1, ↓Iv.b_int1b, ↓Iv.b_tup1, ↓Iv.b_tup1t, ↓Iv.comp_nil, ↓Iv.comp_k, ↓Iv.i_zipS, ↓Iv.i_enumS, ↓Iv.xt_0, ↓Iv.xt_1, ↓Iv.xt_2, ↓Iv.xt_3, ↓Iv.xt_4, ↓Iv.xt_5, ↓Iv.xl_0, ↓Iv.xl_1, ↓Iv.xl_2, ↓Iv.xl_3, ↓Iv.xl_4, ↓Iv.o_addT, ↓Iv.b_divmod, ↓bnd_of (ev i hi'), he, Bool.not_true, Bool.not_false, decide_true, decide_false, eq_self, List.cons_append, List.nil_append]
      exact ⟨_, _, rfl, rfl, _, _, _, by rw [Nat.add_sub_cancel]⟩
    · have u2 := down (by omega)
      simp -implicitDefEqProofs (disch := first | omega | decide +kernel | exact rfl | (simp only [List.length_cons, List.length_nil]; decide +kernel)) only [↓Iv.slotK_0, ↓Iv.slotK_s, ↓Iv.setK_0, ↓Iv.setK_s, ↓Iv.nthK_0, ↓Iv.nthK_s, ↓Iv.permK_0, ↓Iv.permK_s, ↓Iv.e_v, ↓Iv.e_c, ↓Iv.e_tup, ↓Iv.e_lstv, ↓Iv.e_alloc, ↓Iv.e_bin, ↓Iv.e_neg, ↓Iv.e_cmp, ↓Iv.e_chain, ↓Iv.e_and, ↓Iv.e_or, ↓Iv.e_notK, ↓Iv.notK_T, ↓Iv.notK_F, ↓Iv.e_ite, ↓Iv.e_idx, ↓Iv.e_call, ↓Iv.e_bi, ↓Iv.es_nil, ↓Iv.es_cons, ↓Iv.f_disp, ↓Iv.new_3, ↓Iv.new_0, ↓Iv.sz_0, ↓Iv.sz_1, ↓Iv.sz_2, ↓Iv.sz_3, ↓Iv.sz_4, ↓Iv.sz_5, ↓Iv.sz_6, ↓Iv.sz_7, ↓Iv.sz_8, ↓Iv.sz_9, ↓Iv.sz_10, ↓Iv.sz_11, ↓Iv.sz_12, ↓Iv.sz_13, ↓Iv.sz_14, ↓Iv.t_nm, ↓Iv.t_tup, ↓Iv.t_lst, ↓Iv.t_sub, ↓Iv.ts_nil, ↓Iv.ts_cons, ↓Iv.ss_nil, ↓Iv.ss_cons, ↓Iv.seqK_rt, ↓Iv.seqK_nx, ↓Iv.s_asg, ↓Iv.s_aug, ↓Iv.s_expr, ↓Iv.s_ret, ↓Iv.s_retN, ↓Iv.s_pass, ↓Iv.s_ite, ↓Iv.s_for, ↓Iv.i_range1, ↓Iv.i_range2, ↓Iv.i_seq, ↓Iv.rgK_is, ↓Iv.rgK2_is, ↓Iv.itK_lst, ↓Iv.itK_tup, ↓Iv.o_add, ↓Iv.o_sub, ↓Iv.o_mul_l, ↓Iv.o_mul_r, ↓Iv.md600, ↓Iv.o_mod, ↓Iv.o_fdiv_s, ↓Iv.o_shl, ↓Iv.o_neg, ↓Iv.c_lt, ↓Iv.c_le, ↓Iv.c_gt, ↓Iv.c_ge, ↓Iv.c_eqI, ↓Iv.c_neI, ↓Iv.bl_K, ↓Iv.b_lenL, ↓Iv.b_lenT, ↓Iv.b_abs, ↓Iv.b_min2, ↓Iv.b_max2, ↓Iv.b_bits, ↓Iv.b_isaI_i, ↓Iv.b_isaI_b, ↓Iv.b_isaB_i, ↓Iv.b_isaB_b, ↓Iv.x_pick2, ↓Iv.x_pick3, ↓Iv.x_pick4, ↓Iv.x_pick5, ↓Iv.iteB_T, ↓Iv.iteB_F, ↓Iv.iteB_dT, ↓Iv.iteB_dF, ↓Iv.iteB_nT, ↓Iv.iteB_nF, ↓Iv.bodyF_is, ↓Iv.end_i, ↓Iv.end_b, ↓Iv.end_s, ↓Iv.end_iS, ↓Iv.end_iL, ↓Iv.end_own, ↓Iv.end_n, ↓Iv.end_r, ↓Iv.end_puI, ↓Iv.end_puB, ↓Iv.end_puT, ↓Iv.pw6, ↓Iv.pw9, ↓Iv.pw12, ↓Iv.pw18, ↓Iv.pw24, ↓Iv.pw30, ↓Iv.pw60, ↓Iv.pw600, ↓Iv.md600, ↓Iv.x_p0, ↓Iv.x_p1, ↓Iv.x_p2, ↓Iv.st_p0, ↓Iv.st_p2, ↓Iv.e_kidx, ↓Iv.e_kget, ↓Iv.e_dnew, ↓Iv.e_dfin, ↓Iv.kidx_hit, ↓Iv.kidx_miss, ↓Iv.c_strT, ↓Iv.c_strF, ↓Iv.c_nstrT, ↓Iv.c_nstrF, ↓Iv.c_isNs, ↓Iv.c_isNi, ↓Iv.c_isNt, ↓Iv.c_isNn, ↓Iv.b_isaT_t, ↓Iv.b_isaS_s, ↓Iv.b_lenS, ↓Iv.e_slice, ↓Iv.f_slc, ↓Iv.f_cat, ↓Iv.f_lst1, ↓Iv.f_comp, ↓Iv.turnC_k, ↓Iv.wipeK_0, ↓Iv.wipeK_s, ↓Iv.unsetK_0, ↓Iv.unsetK_s, ↓Iv.p_nm, ↓Iv.p_tup, ↓Iv.ps_0, ↓Iv.ps_s, ↓Iv.addK_n, ↓Iv.addK_s, ↓Iv.ifs_nil, ↓Iv.ifs_one, ↓Iv.optK_some, ↓Iv.partK_i, ↓Iv.s_app, ↓Iv.s_setF, ↓Iv.s_setA, ↓Iv.s_dext, ↓Iv.dctK_fin, ↓Iv.chkK_T, ↓Iv.o_aug_add, ↓Iv.o_aug_sub, ↓Iv.b_int1, ↓Iv.b_int1b, ↓Iv.b_tup1, ↓Iv.b_tup1t, ↓Iv.comp_nil, ↓Iv.comp_k, ↓Iv.i_zipS, ↓Iv.i_enumS, ↓Iv.xt_0, ↓Iv.xt_1, ↓Iv.xt_2, ↓Iv.xt_3, ↓Iv.xt_4, ↓Iv.xt_5, ↓Iv.xl_0, ↓Iv.xl_1, ↓Iv.xl_2, ↓Iv.xl_3, ↓Iv.xl_4, ↓Iv.o_addT, ↓Iv.b_divmod, ↓bnd_of (ev i hi'), he, Bool.not_true, Bool.not_false, decide_true, decide_false, eq_self, List.cons_append, List.nil_append]
      exact ⟨_, _, rfl, rfl, _, _, _, by rw [Nat.add_sub_cancel]⟩
  · rintro s' h' ⟨rfl, x7, x10, x11, rfl⟩
    have hz : edge U V w (((w + 1).toNat - 1 : Nat) : Int) = V := by rw [toNat1 w0, Int.toNat_of_nonneg (by omega), edge_w (by omega)]
    simp -implicitDefEqProofs (disch := first | omega | decide +kernel | exact rfl | (simp only [List.length_cons, List.length_nil]; decide +kernel)) only [↓Iv.slotK_0, ↓Iv.slotK_s, ↓Iv.setK_0, ↓Iv.setK_s, ↓Iv.nthK_0, ↓Iv.nthK_s, ↓Iv.permK_0, ↓Iv.permK_s, ↓Iv.e_v, ↓Iv.e_c, ↓Iv.e_tup, ↓Iv.e_lstv, ↓Iv.e_alloc, ↓Iv.e_bin, ↓Iv.e_neg, ↓Iv.e_cmp, ↓Iv.e_chain, ↓Iv.e_and, ↓Iv.e_or, ↓Iv.e_notK, ↓Iv.notK_T, ↓Iv.notK_F, ↓Iv.e_ite, ↓Iv.e_idx, ↓Iv.e_call, ↓Iv.e_bi, ↓Iv.es_nil, ↓Iv.es_cons, ↓Iv.f_disp, ↓Iv.new_3, ↓Iv.new_0, ↓Iv.sz_0, ↓Iv.sz_1, ↓Iv.sz_2, ↓Iv.sz_3, ↓Iv.sz_4, ↓Iv.sz_5, ↓Iv.sz_6, ↓Iv.sz_7, ↓Iv.sz_8, ↓Iv.sz_9, ↓Iv.sz_10, ↓Iv.sz_11, ↓Iv.sz_12, ↓Iv.sz_13, ↓Iv.sz_14, ↓Iv.t_nm, ↓Iv.t_tup, ↓Iv.t_lst, ↓Iv.t_sub, ↓Iv.ts_nil, ↓Iv.ts_cons, ↓Iv.ss_nil, ↓Iv.ss_cons, ↓Iv.seqK_rt, ↓Iv.seqK_nx, ↓Iv.s_asg, ↓Iv.s_aug, ↓Iv.s_expr, ↓Iv.s_ret, ↓Iv.s_retN, ↓Iv.s_pass, ↓Iv.s_ite, ↓Iv.s_for, ↓Iv.i_range1, ↓Iv.i_range2, ↓Iv.i_seq, ↓Iv.rgK_is, ↓Iv.rgK2_is, ↓Iv.itK_lst, ↓Iv.itK_tup, ↓Iv.o_add, ↓Iv.o_sub, ↓Iv.o_mul_l, ↓Iv.o_mul_r, ↓Iv.md600, ↓Iv.o_mod, ↓Iv.o_fdiv_s, ↓Iv.o_shl, ↓Iv.o_neg, ↓Iv.c_lt, ↓Iv.c_le, ↓Iv.c_gt, ↓Iv.c_ge, ↓Iv.c_eqI, ↓Iv.c_neI, ↓Iv.bl_K, ↓Iv.b_lenL, ↓Iv.b_lenT, ↓Iv.b_abs, ↓Iv.b_min2, ↓Iv.b_max2, ↓Iv.b_bits, ↓Iv.b_isaI_i, ↓Iv.b_isaI_b, ↓Iv.b_isaB_i, ↓Iv.b_isaB_b, ↓Iv.x_pick2, ↓Iv.x_pick3, ↓Iv.x_pick4, ↓Iv.x_pick5, ↓Iv.iteB_T, ↓Iv.iteB_F, ↓Iv.iteB_dT, ↓Iv.iteB_dF, ↓Iv.iteB_nT, ↓Iv.iteB_nF, ↓Iv.bodyF_is, ↓Iv.end_i, ↓Iv.end_b, ↓Iv.end_s, ↓Iv.end_iS, ↓Iv.end_iL, ↓Iv.end_own, ↓Iv.end_n, ↓Iv.end_r, ↓Iv.end_puI, ↓Iv.end_puB, ↓Iv.end_puT, ↓Iv.pw6, ↓Iv.pw9, ↓Iv.pw12, ↓Iv.pw18, ↓Iv.pw24, ↓Iv.pw30, ↓Iv.pw60, ↓Iv.pw600, ↓Iv.md600, ↓Iv.x_p0, ↓Iv.x_p1, ↓Iv.x_p2, ↓Iv.st_p0, ↓Iv.st_p2, ↓Iv.e_kidx, ↓Iv.e_kget, ↓Iv.e_dnew, ↓Iv.e_dfin, ↓Iv.kidx_hit, ↓Iv.kidx_miss, ↓Iv.c_strT, ↓Iv.c_strF, ↓Iv.c_nstrT, ↓Iv.c_nstrF, ↓Iv.c_isNs, ↓Iv.c_isNi, ↓Iv.c_isNt, ↓Iv.c_isNn, ↓Iv.b_isaT_t, ↓Iv.b_isaS_s, ↓Iv.b_lenS, ↓Iv.e_slice, ↓Iv.f_slc, ↓Iv.f_cat, ↓Iv.f_lst1, ↓Iv.f_comp, ↓Iv.turnC_k, ↓Iv.wipeK_0, ↓Iv.wipeK_s, ↓Iv.unsetK_0, ↓Iv.unsetK_s, ↓Iv.p_nm, ↓Iv.p_tup, ↓Iv.ps_0, ↓Iv.ps_s, ↓Iv.addK_n, ↓Iv.addK_s, ↓Iv.ifs_nil, ↓Iv.ifs_one, ↓Iv.optK_some, ↓Iv.partK_i, ↓Iv.s_app, ↓Iv.s_setF, ↓Iv.s_setA, ↓Iv.s_dext, ↓Iv.dctK_fin, ↓Iv.chkK_T, ↓Iv.o_aug_add, ↓Iv.o_aug_sub, ↓Iv.b_int1, ↓Iv.b_int1b, ↓Iv.b_tup1, ↓Iv.b_tup1t, ↓Iv.comp_nil, ↓Iv.comp_k, ↓Iv.i_zipS, ↓Iv.i_enumS, ↓Iv.xt_0, ↓Iv.xt_1, ↓Iv.xt_2, ↓Iv.xt_3, ↓Iv.xt_4, ↓Iv.xt_5, ↓Iv.xl_0, ↓Iv.xl_1, ↓Iv.xl_2, ↓Iv.xl_3, ↓Iv.xl_4, ↓Iv.o_addT, ↓Iv.b_divmod, hz, Bool.not_true, Bool.not_false, decide_true, decide_false, eq_self, List.cons_append, List.nil_append]
theorem half_w {l : Int} (l0 : 0 ≤ l) (l1 : l ≤ 8) (h : wid l ≠ 1) : ∃ m, 0 < m ∧ wid l = 2 * m ∧ wid l / 2 = m := by
  have : l = 0 ∨ l = 1 ∨ l = 2 ∨ l = 3 ∨ l = 4 ∨ l = 5 ∨ l = 6 ∨ l = 7 ∨ l = 8 := by omega
  rcases this with rfl | rfl | rfl | rfl | rfl | rfl | rfl | rfl | rfl
  · exact absurd (by decide) h
  all_goals exact ⟨_, by decide, by decide, rfl⟩
theorem run_middles {k : Nat} {s t l a b : Int} {h : AH} (t0 : 0 ≤ t) (t1 : t ≤ 1000000000) (l0 : 0 ≤ l) (l1 : l ≤ 8) (ha : a.natAbs ≤ 50) (hb : b.natAbs ≤ 50) :
    run T (k + 7) fL_middles_right [noiseD t l, .int s, .tup [.int (a * wid l), .int (b * wid l)]] h = some (.bl true, h) := by
  rw [run_eq (fn := tL_middles_right.fn) rfl rfl]
  show bnd (semSs _ bL_middles_right [some (noiseD t l), some (.int s), some (.tup [.int (a * wid l), .int (b * wid l)]), none, none, none, none, none, none]) (endK .cut h) _ = _
  unfold bL_middles_right
  obtain ⟨w0, w1⟩ := wid_b l0 l1
  have hw : (1 : Int) * 2 ^ l.toNat = wid l := rfl
  have ma := mul_w ha w0 w1
  have mb := mul_w hb w0 w1
  have v1 : run T (k + 6) f_value_at [noiseD t l, .int s, .int (a * wid l), .int (b * wid l)] h = some (.int (knotV s t a b), h) := by
    rw [value_noise t0 t1 l0 l1 (by omega) (by omega)]
    unfold noiseV
    rw [noise_k (by omega)]
  by_cases c : wid l = 1
  · have hw1 : (1 : Int) * 2 ^ l.toNat = 1 := hw.trans c
    rw [c, Int.mul_one, Int.mul_one] at v1
    rw [c, Int.mul_one, Int.mul_one]
    simp -implicitDefEqProofs (disch := first | omega | decide +kernel | exact rfl | (simp only [List.length_cons, List.length_nil]; decide +kernel)) only [↓Iv.slotK_0, ↓Iv.slotK_s, ↓Iv.setK_0, ↓Iv.setK_s, ↓Iv.nthK_0, ↓Iv.nthK_s, ↓Iv.permK_0, ↓Iv.permK_s, ↓Iv.e_v, ↓Iv.e_c, ↓Iv.e_tup, ↓Iv.e_lstv, ↓Iv.e_alloc, ↓Iv.e_bin, ↓Iv.e_neg, ↓Iv.e_cmp, ↓Iv.e_chain, ↓Iv.e_and, ↓Iv.e_or, ↓Iv.e_notK, ↓Iv.notK_T, ↓Iv.notK_F, ↓Iv.e_ite, ↓Iv.e_idx, ↓Iv.e_call, ↓Iv.e_bi, ↓Iv.es_nil, ↓Iv.es_cons, ↓Iv.f_disp, ↓Iv.new_3, ↓Iv.new_0, ↓Iv.sz_0, ↓Iv.sz_1, ↓Iv.sz_2, ↓Iv.sz_3, ↓Iv.sz_4, ↓Iv.sz_5, ↓Iv.sz_6, ↓Iv.sz_7, ↓Iv.sz_8, ↓Iv.sz_9, ↓Iv.sz_10, ↓Iv.sz_11, ↓Iv.sz_12, ↓Iv.sz_13, ↓Iv.sz_14, ↓Iv.t_nm, ↓Iv.t_tup, ↓Iv.t_lst, ↓Iv.t_sub, ↓Iv.ts_nil, ↓Iv.ts_cons, ↓Iv.ss_nil, ↓Iv.ss_cons, ↓Iv.seqK_rt, ↓Iv.seqK_nx, ↓Iv.s_asg, ↓Iv.s_aug, ↓Iv.s_expr, ↓Iv.s_ret, ↓Iv.s_retN, ↓Iv.s_pass, ↓Iv.s_ite, ↓Iv.s_for, ↓Iv.i_range1, ↓Iv.i_range2, ↓Iv.i_seq, ↓Iv.rgK_is, ↓Iv.rgK2_is, ↓Iv.itK_lst, ↓Iv.itK_tup, ↓Iv.o_add, ↓Iv.o_sub, ↓Iv.o_mul_l, ↓Iv.o_mul_r, ↓Iv.md600, ↓Iv.o_mod, ↓Iv.o_fdiv_s, ↓Iv.o_shl, ↓Iv.o_neg, ↓Iv.c_lt, ↓Iv.c_le, ↓Iv.c_gt, ↓Iv.c_ge, ↓Iv.c_eqI, ↓Iv.c_neI, ↓Iv.bl_K, ↓Iv.b_lenL, ↓Iv.b_lenT, ↓Iv.b_abs, ↓Iv.b_min2, ↓Iv.b_max2, ↓Iv.b_bits, ↓Iv.b_isaI_i, ↓Iv.b_isaI_b, ↓Iv.b_isaB_i, ↓Iv.b_isaB_b, ↓Iv.x_pick2, ↓Iv.x_pick3, ↓Iv.x_pick4, ↓Iv.x_pick5, ↓Iv.iteB_T, ↓Iv.iteB_F, ↓Iv.iteB_dT, ↓Iv.iteB_dF, ↓Iv.iteB_nT, ↓Iv.iteB_nF, ↓Iv.bodyF_is, ↓Iv.end_i, ↓Iv.end_b, ↓Iv.end_s, ↓Iv.end_iS, ↓Iv.end_iL, ↓Iv.end_own, ↓Iv.end_n, ↓Iv.end_r, ↓Iv.end_puI, ↓Iv.end_puB, ↓Iv.end_puT, ↓Iv.pw6, ↓Iv.pw9, ↓Iv.pw12, ↓Iv.pw18, ↓Iv.pw24, ↓Iv.pw30, ↓Iv.pw60, ↓Iv.pw600, ↓Iv.md600, ↓Iv.x_p0, ↓Iv.x_p1, ↓Iv.x_p2, ↓Iv.st_p0, ↓Iv.st_p2, ↓Iv.e_kidx, ↓Iv.e_kget, ↓Iv.e_dnew, ↓Iv.e_dfin, ↓Iv.kidx_hit, ↓Iv.kidx_miss, ↓Iv.c_strT, ↓Iv.c_strF, ↓Iv.c_nstrT, ↓Iv.c_nstrF, ↓Iv.c_isNs, ↓Iv.c_isNi, ↓Iv.c_isNt, ↓Iv.c_isNn, ↓Iv.b_isaT_t, ↓Iv.b_isaS_s, ↓Iv.b_lenS, ↓Iv.e_slice, ↓Iv.f_slc, ↓Iv.f_cat, ↓Iv.f_lst1, ↓Iv.f_comp, ↓Iv.turnC_k, ↓Iv.wipeK_0, ↓Iv.wipeK_s, ↓Iv.unsetK_0, ↓Iv.unsetK_s, ↓Iv.p_nm, ↓Iv.p_tup, ↓Iv.ps_0, ↓Iv.ps_s, ↓Iv.addK_n, ↓Iv.addK_s, ↓Iv.ifs_nil, ↓Iv.ifs_one, ↓Iv.optK_some, ↓Iv.partK_i, ↓Iv.s_app, ↓Iv.s_setF, ↓Iv.s_setA, ↓Iv.s_dext, ↓Iv.dctK_fin, ↓Iv.chkK_T, ↓Iv.o_aug_add, ↓Iv.o_aug_sub, ↓Iv.b_int1, ↓Iv.b_int1b, ↓Iv.b_tup1, ↓Iv.b_tup1t, ↓Iv.comp_nil, ↓Iv.comp_k, ↓Iv.i_zipS, ↓Iv.i_enumS, ↓Iv.xt_0, ↓Iv.xt_1, ↓Iv.xt_2, ↓Iv.xt_3, ↓Iv.xt_4, ↓Iv.xt_5, ↓Iv.xl_0, ↓Iv.xl_1, ↓Iv.xl_2, ↓Iv.xl_3, ↓Iv.xl_4, ↓Iv.o_addT, ↓Iv.b_divmod, hw1, ↓bnd_of v1, ↓bnd_of run_knot, Bool.not_true, Bool.not_false, decide_true, decide_false, eq_self, List.cons_append, List.nil_append]
  · obtain ⟨m, m0, em, em2⟩ := half_w l0 l1 c
    have d1 : a * wid l / wid l = a := Int.mul_ediv_cancel _ (by omega)
    have d2 : b * wid l / wid l = b := Int.mul_ediv_cancel _ (by omega)
    have v2 : run T (k + 6) f_value_at [noiseD t l, .int s, .int (a * wid l + m), .int (b * wid l + m)] h = some (.int ((knotV s t a b + (knotV s t (a + 1) b + (knotV s t a (b + 1) + (knotV s t (a + 1) (b + 1) + 0)))) / 4), h) := by
      rw [value_noise t0 t1 l0 l1 (by omega) (by omega)]
      unfold noiseV
      rw [em, noise_half4 m0]
    have v3 : run T (k + 6) f_value_at [noiseD t l, .int s, .int (a * wid l + m), .int (b * wid l)] h = some (.int ((knotV s t a b + knotV s t (a + 1) b) / 2), h) := by
      rw [value_noise t0 t1 l0 l1 (by omega) (by omega)]
      unfold noiseV
      rw [em, noise_xw (by omega) (by omega) (by omega), noise_half2 m0]
    have v4 : run T (k + 6) f_value_at [noiseD t l, .int s, .int (a * wid l), .int (b * wid l + m)] h = some (.int ((knotV s t a b + knotV s t a (b + 1)) / 2), h) := by
      rw [value_noise t0 t1 l0 l1 (by omega) (by omega)]
      unfold noiseV
      rw [em, noise_zw (by omega) (by omega) (by omega), noise_half2 m0]
    have r4 : rangeL 0 (4 : Int).toNat = [.int 0, .int 1, .int 2, .int 3] := rfl
    have k0 : run T (k + 6) f_knot [.int s, .int t, .int (a + 0 % 2), .int (b + 0 / 2)] h = some (.int (knotV s t a b), h) := by rw [run_knot, show a + 0 % 2 = a by omega, show b + 0 / 2 = b by omega]
    have k1 : run T (k + 6) f_knot [.int s, .int t, .int (a + 1 % 2), .int (b + 1 / 2)] h = some (.int (knotV s t (a + 1) b), h) := by rw [run_knot, show a + 1 % 2 = a + 1 by omega, show b + 1 / 2 = b by omega]
    have k2 : run T (k + 6) f_knot [.int s, .int t, .int (a + 2 % 2), .int (b + 2 / 2)] h = some (.int (knotV s t a (b + 1)), h) := by rw [run_knot, show a + 2 % 2 = a by omega, show b + 2 / 2 = b + 1 by omega]
    have k3 : run T (k + 6) f_knot [.int s, .int t, .int (a + 3 % 2), .int (b + 3 / 2)] h = some (.int (knotV s t (a + 1) (b + 1)), h) := by rw [run_knot, show a + 3 % 2 = a + 1 by omega, show b + 3 / 2 = b + 1 by omega]
    simp -implicitDefEqProofs (disch := first | omega | decide +kernel | exact rfl | (simp only [List.length_cons, List.length_nil]; decide +kernel)) only [↓Iv.slotK_0, ↓Iv.slotK_s, ↓Iv.setK_0, ↓Iv.setK_s, ↓Iv.nthK_0, ↓Iv.nthK_s, ↓Iv.permK_0, ↓Iv.permK_s, ↓Iv.e_v, ↓Iv.e_c, ↓Iv.e_tup, ↓Iv.e_lstv, ↓Iv.e_alloc, ↓Iv.e_bin, ↓Iv.e_neg, ↓Iv.e_cmp, ↓Iv.e_chain, ↓Iv.e_and, ↓Iv.e_or, ↓Iv.e_notK, ↓Iv.notK_T, ↓Iv.notK_F, ↓Iv.e_ite, ↓Iv.e_idx, ↓Iv.e_call, ↓Iv.e_bi, ↓Iv.es_nil, ↓Iv.es_cons, ↓Iv.f_disp, ↓Iv.new_3, ↓Iv.new_0, ↓Iv.sz_0, ↓Iv.sz_1, ↓Iv.sz_2, ↓Iv.sz_3, ↓Iv.sz_4, ↓Iv.sz_5, ↓Iv.sz_6, ↓Iv.sz_7, ↓Iv.sz_8, ↓Iv.sz_9, ↓Iv.sz_10, ↓Iv.sz_11, ↓Iv.sz_12, ↓Iv.sz_13, ↓Iv.sz_14, ↓Iv.t_nm, ↓Iv.t_tup, ↓Iv.t_lst, ↓Iv.t_sub, ↓Iv.ts_nil, ↓Iv.ts_cons, ↓Iv.ss_nil, ↓Iv.ss_cons, ↓Iv.seqK_rt, ↓Iv.seqK_nx, ↓Iv.s_asg, ↓Iv.s_aug, ↓Iv.s_expr, ↓Iv.s_ret, ↓Iv.s_retN, ↓Iv.s_pass, ↓Iv.s_ite, ↓Iv.s_for, ↓Iv.i_range1, ↓Iv.i_range2, ↓Iv.i_seq, ↓Iv.rgK_is, ↓Iv.rgK2_is, ↓Iv.itK_lst, ↓Iv.itK_tup, ↓Iv.o_add, ↓Iv.o_sub, ↓Iv.o_mul_l, ↓Iv.o_mul_r, ↓Iv.md600, ↓Iv.o_mod, ↓Iv.o_fdiv_s, ↓Iv.o_shl, ↓Iv.o_neg, ↓Iv.c_lt, ↓Iv.c_le, ↓Iv.c_gt, ↓Iv.c_ge, ↓Iv.c_eqI, ↓Iv.c_neI, ↓Iv.bl_K, ↓Iv.b_lenL, ↓Iv.b_lenT, ↓Iv.b_abs, ↓Iv.b_min2, ↓Iv.b_max2, ↓Iv.b_bits, ↓Iv.b_isaI_i, ↓Iv.b_isaI_b, ↓Iv.b_isaB_i, ↓Iv.b_isaB_b, ↓Iv.x_pick2, ↓Iv.x_pick3, ↓Iv.x_pick4, ↓Iv.x_pick5, ↓Iv.iteB_T, ↓Iv.iteB_F, ↓Iv.iteB_dT, ↓Iv.iteB_dF, ↓Iv.iteB_nT, ↓Iv.iteB_nF, ↓Iv.bodyF_is, ↓Iv.end_i, ↓Iv.end_b, ↓Iv.end_s, ↓Iv.end_iS, ↓Iv.end_iL, ↓Iv.end_own, ↓Iv.end_n, ↓Iv.end_r, ↓Iv.end_puI, ↓Iv.end_puB, ↓Iv.end_puT, ↓Iv.pw6, ↓Iv.pw9, ↓Iv.pw12, ↓Iv.pw18, ↓Iv.pw24, ↓Iv.pw30, ↓Iv.pw60, ↓Iv.pw600, ↓Iv.md600, ↓Iv.x_p0, ↓Iv.x_p1, ↓Iv.x_p2, ↓Iv.st_p0, ↓Iv.st_p2, ↓Iv.e_kidx, ↓Iv.e_kget, ↓Iv.e_dnew, ↓Iv.e_dfin, ↓Iv.kidx_hit, ↓Iv.kidx_miss, ↓Iv.c_strT, ↓Iv.c_strF, ↓Iv.c_nstrT, ↓Iv.c_nstrF, ↓Iv.c_isNs, ↓Iv.c_isNi, ↓Iv.c_isNt, ↓Iv.c_isNn, ↓Iv.b_isaT_t, ↓Iv.b_isaS_s, ↓Iv.b_lenS, ↓Iv.e_slice, ↓Iv.f_slc, ↓Iv.f_cat, ↓Iv.f_lst1, ↓Iv.f_comp, ↓Iv.turnC_k, ↓Iv.wipeK_0, ↓Iv.wipeK_s, ↓Iv.unsetK_0, ↓Iv.unsetK_s, ↓Iv.p_nm, ↓Iv.p_tup, ↓Iv.ps_0, ↓Iv.ps_s, ↓Iv.addK_n, ↓Iv.addK_s, ↓Iv.ifs_nil, ↓Iv.ifs_one, ↓Iv.optK_some, ↓Iv.partK_i, ↓Iv.s_app, ↓Iv.s_setF, ↓Iv.s_setA, ↓Iv.s_dext, ↓Iv.dctK_fin, ↓Iv.chkK_T, ↓Iv.o_aug_add, ↓Iv.o_aug_sub, ↓Iv.b_int1, ↓Iv.b_int1b, ↓Iv.b_tup1, ↓Iv.b_tup1t, ↓Iv.comp_nil, ↓Iv.comp_k, ↓Iv.i_zipS, ↓Iv.i_enumS, ↓Iv.xt_0, ↓Iv.xt_1, ↓Iv.xt_2, ↓Iv.xt_3, ↓Iv.xt_4, ↓Iv.xt_5, ↓Iv.xl_0, ↓Iv.xl_1, ↓Iv.xl_2, ↓Iv.xl_3, ↓Iv.xl_4, ↓Iv.o_addT, ↓Iv.b_divmod, hw, d1, d2, em2, r4, ↓bnd_of v1, ↓bnd_of v2, ↓bnd_of v3, ↓bnd_of v4, ↓bnd_of k0, ↓bnd_of k1, ↓bnd_of k2, ↓bnd_of k3, ↓b_sum4, Bool.not_true, Bool.not_false, decide_true, decide_false, eq_self, List.cons_append, List.nil_append]
end Law

set_option maxHeartbeats 1000000
namespace Law
open PySem L2 Iv
theorem mix_b {w r a b : Int} {m : Int} (r0 : 0 ≤ r) (r1 : r ≤ w) (a0 : 0 ≤ a) (a1 : a ≤ m) (b0 : 0 ≤ b) (b1 : b ≤ m) : 0 ≤ (w - r) * a + r * b ∧ (w - r) * a + r * b ≤ w * m := by
  have h1 : 0 ≤ (w - r) * a := Int.mul_nonneg (by omega) a0
  have h2 : 0 ≤ r * b := Int.mul_nonneg r0 b0
  have h3 : (w - r) * a ≤ (w - r) * m := Int.mul_le_mul_of_nonneg_left a1 (by omega)
  have h4 : r * b ≤ r * m := Int.mul_le_mul_of_nonneg_left b1 r0
  have h5 : (w - r) * m + r * m = w * m := by rw [← Int.add_mul]; congr 1; omega
  omega
theorem near_b {s t w x i j : Int} (hw : 0 < w) : 0 ≤ near s t w x i j ∧ near s t w x i j ≤ w * 65535 :=
  mix_b (Int.emod_nonneg _ (by omega)) (Int.le_of_lt (Int.emod_lt_of_pos _ hw)) knot_ge (Int.le_of_lt_add_one knot_lt) knot_ge (Int.le_of_lt_add_one knot_lt)
theorem noise_b {s t l x z : Int} (l0 : 0 ≤ l) (l1 : l ≤ 8) : 0 ≤ noiseV s t l x z ∧ noiseV s t l x z < 65536 := by
  have hb := wid_b l0 l1
  unfold noiseV
  generalize wid l = w at *
  unfold noiseW
  have hw : 0 < w := by omega
  have hp : 0 < w * w := Int.mul_pos hw hw
  have n1 := near_b (s := s) (t := t) (x := x) (i := x / w) (j := z / w) hw
  have n2 := near_b (s := s) (t := t) (x := x) (i := x / w) (j := z / w + 1) hw
  have hm := mix_b (Int.emod_nonneg z (b := w) (by omega)) (Int.le_of_lt (Int.emod_lt_of_pos z hw)) n1.1 n1.2 n2.1 n2.2
  refine ⟨Int.ediv_nonneg hm.1 (by omega), Int.ediv_lt_of_lt_mul hp ?_⟩
  have : w * (w * 65535) = 65535 * (w * w) := by rw [Int.mul_comm 65535, Int.mul_assoc]
  omega
theorem grain_b (p : P) : 0 ≤ (grainV p).1 ∧ (grainV p).1 ≤ 1000000000 := by
  have a1 := draw_lo p (m := 1000000000) (by decide)
  have a2 := draw_hi p (m := 1000000000) (by decide)
  have : (grainV p).1 ∈ [0, 1, 1000000000, (drawP p 1000000000).1] := pick_mem (draw_lo _ (by decide)) (draw_hi _ (by decide))
  simp only [List.mem_cons, List.not_mem_nil, or_false] at this
  omega
theorem pick3_b {i : Nat} (hi : i < 4) : 0 ≤ pick [0, 8, 1] ((i : Int) % 3) ∧ pick [0, 8, 1] ((i : Int) % 3) ≤ 8 := by
  have : pick [0, 8, 1] ((i : Int) % 3) ∈ [0, 8, 1] := pick_mem (by omega) (by simp only [List.length_cons, List.length_nil]; omega)
  simp only [List.mem_cons, List.not_mem_nil, or_false] at this
  omega
theorem law_true (ns : List Int) (hlen : ns.length ≤ 63) : ∃ h', run T 30 34 [.lst (ns.map .int)] [] = some (.bl true, h') := by
  rw [run_eq (fn := t_law.fn) rfl rfl]
  show ∃ h', bnd (semSs _ b_law [some (.lst (ns.map .int)), none, none, none, none, none, none, none, none, none, none, none]) (endK .cut []) [] = _
  unfold b_law
  simp -implicitDefEqProofs (disch := first | omega | decide +kernel | exact rfl | (simp only [List.length_cons, List.length_nil]; decide +kernel)) only [↓Iv.slotK_0, ↓Iv.slotK_s, ↓Iv.setK_0, ↓Iv.setK_s, ↓Iv.nthK_0, ↓Iv.nthK_s, ↓Iv.permK_0, ↓Iv.permK_s, ↓Iv.e_v, ↓Iv.e_c, ↓Iv.e_tup, ↓Iv.e_lstv, ↓Iv.e_alloc, ↓Iv.e_bin, ↓Iv.e_neg, ↓Iv.e_cmp, ↓Iv.e_chain, ↓Iv.e_and, ↓Iv.e_or, ↓Iv.e_notK, ↓Iv.notK_T, ↓Iv.notK_F, ↓Iv.e_ite, ↓Iv.e_idx, ↓Iv.e_call, ↓Iv.e_bi, ↓Iv.es_nil, ↓Iv.es_cons, ↓Iv.f_disp, ↓Iv.new_3, ↓Iv.new_0, ↓Iv.sz_0, ↓Iv.sz_1, ↓Iv.sz_2, ↓Iv.sz_3, ↓Iv.sz_4, ↓Iv.sz_5, ↓Iv.sz_6, ↓Iv.sz_7, ↓Iv.sz_8, ↓Iv.sz_9, ↓Iv.sz_10, ↓Iv.sz_11, ↓Iv.sz_12, ↓Iv.sz_13, ↓Iv.sz_14, ↓Iv.t_nm, ↓Iv.t_tup, ↓Iv.t_lst, ↓Iv.t_sub, ↓Iv.ts_nil, ↓Iv.ts_cons, ↓Iv.ss_nil, ↓Iv.ss_cons, ↓Iv.seqK_rt, ↓Iv.seqK_nx, ↓Iv.s_asg, ↓Iv.s_aug, ↓Iv.s_expr, ↓Iv.s_ret, ↓Iv.s_retN, ↓Iv.s_pass, ↓Iv.s_ite, ↓Iv.s_for, ↓Iv.i_range1, ↓Iv.i_range2, ↓Iv.i_seq, ↓Iv.rgK_is, ↓Iv.rgK2_is, ↓Iv.itK_lst, ↓Iv.itK_tup, ↓Iv.o_add, ↓Iv.o_sub, ↓Iv.o_mul_l, ↓Iv.o_mul_r, ↓Iv.md600, ↓Iv.o_mod, ↓Iv.o_fdiv_s, ↓Iv.o_shl, ↓Iv.o_neg, ↓Iv.c_lt, ↓Iv.c_le, ↓Iv.c_gt, ↓Iv.c_ge, ↓Iv.c_eqI, ↓Iv.c_neI, ↓Iv.bl_K, ↓Iv.b_lenL, ↓Iv.b_lenT, ↓Iv.b_abs, ↓Iv.b_min2, ↓Iv.b_max2, ↓Iv.b_bits, ↓Iv.b_isaI_i, ↓Iv.b_isaI_b, ↓Iv.b_isaB_i, ↓Iv.b_isaB_b, ↓Iv.x_pick2, ↓Iv.x_pick3, ↓Iv.x_pick4, ↓Iv.x_pick5, ↓Iv.iteB_T, ↓Iv.iteB_F, ↓Iv.iteB_dT, ↓Iv.iteB_dF, ↓Iv.iteB_nT, ↓Iv.iteB_nF, ↓Iv.bodyF_is, ↓Iv.end_i, ↓Iv.end_b, ↓Iv.end_s, ↓Iv.end_iS, ↓Iv.end_iL, ↓Iv.end_own, ↓Iv.end_n, ↓Iv.end_r, ↓Iv.end_puI, ↓Iv.end_puB, ↓Iv.end_puT, ↓Iv.pw6, ↓Iv.pw9, ↓Iv.pw12, ↓Iv.pw18, ↓Iv.pw24, ↓Iv.pw30, ↓Iv.pw60, ↓Iv.pw600, ↓Iv.md600, ↓Iv.x_p0, ↓Iv.x_p1, ↓Iv.x_p2, ↓Iv.st_p0, ↓Iv.st_p2, ↓Iv.e_kidx, ↓Iv.e_kget, ↓Iv.e_dnew, ↓Iv.e_dfin, ↓Iv.kidx_hit, ↓Iv.kidx_miss, ↓Iv.c_strT, ↓Iv.c_strF, ↓Iv.c_nstrT, ↓Iv.c_nstrF, ↓Iv.c_isNs, ↓Iv.c_isNi, ↓Iv.c_isNt, ↓Iv.c_isNn, ↓Iv.b_isaT_t, ↓Iv.b_isaS_s, ↓Iv.b_lenS, ↓Iv.e_slice, ↓Iv.f_slc, ↓Iv.f_cat, ↓Iv.f_lst1, ↓Iv.f_comp, ↓Iv.turnC_k, ↓Iv.wipeK_0, ↓Iv.wipeK_s, ↓Iv.unsetK_0, ↓Iv.unsetK_s, ↓Iv.p_nm, ↓Iv.p_tup, ↓Iv.ps_0, ↓Iv.ps_s, ↓Iv.addK_n, ↓Iv.addK_s, ↓Iv.ifs_nil, ↓Iv.ifs_one, ↓Iv.optK_some, ↓Iv.partK_i, ↓Iv.s_app, ↓Iv.s_setF, ↓Iv.s_setA, ↓Iv.s_dext, ↓Iv.dctK_fin, ↓Iv.chkK_T, ↓Iv.o_aug_add, ↓Iv.o_aug_sub, ↓Iv.b_int1, ↓Iv.b_int1b, ↓Iv.b_tup1, ↓Iv.b_tup1t, ↓Iv.comp_nil, ↓Iv.comp_k, ↓Iv.i_zipS, ↓Iv.i_enumS, ↓Iv.xt_0, ↓Iv.xt_1, ↓Iv.xt_2, ↓Iv.xt_3, ↓Iv.xt_4, ↓Iv.xt_5, ↓Iv.xl_0, ↓Iv.xl_1, ↓Iv.xl_2, ↓Iv.xl_3, ↓Iv.xl_4, ↓Iv.o_addT, ↓Iv.b_divmod, Bool.not_true, Bool.not_false, decide_true, decide_false, eq_self, List.cons_append, List.nil_append]
  refine for_law (fun ds s h => (∀ d ∈ ds, ∃ n : Nat, n < 4 ∧ d = .int n) ∧ ∃ x1 x2 x3 x4 x5 x6 x7 x8 x9 x10 x11, s = [some (.lst (ns.map .int)), x1, x2, x3, x4, x5, x6, x7, x8, x9, x10, x11])
    ⟨fun d hd => rangeL_nat hd, _, _, _, _, _, _, _, _, _, _, _, rfl⟩ ?_ ?_
  · rintro d ds s h ⟨hd, x1, x2, x3, x4, x5, x6, x7, x8, x9, x10, x11, rfl⟩
    obtain ⟨i, hi, rfl⟩ := hd _ (List.mem_cons_self ..)
    obtain ⟨n, h1, hn, e0⟩ := run_purse (k := 27) ns i h
    have o0 : (purse0 ns i).ok 100 := purse0_ok (by omega) (by decide)
    have o1 := grain_ok (k := 98) o0
    have e1 := run_grain (k := 26) hn (o0.weak (by decide))
    have e2 := run_draw (k := 27) hn (o1.weak (k := 1) (by decide)) (m := 9) (by decide) (by decide)
    have o2 := draw_ok (k := 97) o1 (m := 9) (by decide)
    have c1 := pick3_b hi
    have d0 := draw_lo (grainV (purse0 ns i)).2 (m := 9) (by decide)
    have d1 := draw_hi (grainV (purse0 ns i)).2 (m := 9) (by decide)
    have g0 := grain_b (purse0 ns i)
    simp -implicitDefEqProofs (disch := first | omega | decide +kernel | exact rfl | (simp only [List.length_cons, List.length_nil]; decide +kernel)) only [↓Iv.slotK_0, ↓Iv.slotK_s, ↓Iv.setK_0, ↓Iv.setK_s, ↓Iv.nthK_0, ↓Iv.nthK_s, ↓Iv.permK_0, ↓Iv.permK_s, ↓Iv.e_v, ↓Iv.e_c, ↓Iv.e_tup, ↓Iv.e_lstv, ↓Iv.e_alloc, ↓Iv.e_bin, ↓Iv.e_neg, ↓Iv.e_cmp, ↓Iv.e_chain, ↓Iv.e_and, ↓Iv.e_or, ↓Iv.e_notK, ↓Iv.notK_T, ↓Iv.notK_F, ↓Iv.e_ite, ↓Iv.e_idx, ↓Iv.e_call, ↓Iv.e_bi, ↓Iv.es_nil, ↓Iv.es_cons, ↓Iv.f_disp, ↓Iv.new_3, ↓Iv.new_0, ↓Iv.sz_0, ↓Iv.sz_1, ↓Iv.sz_2, ↓Iv.sz_3, ↓Iv.sz_4, ↓Iv.sz_5, ↓Iv.sz_6, ↓Iv.sz_7, ↓Iv.sz_8, ↓Iv.sz_9, ↓Iv.sz_10, ↓Iv.sz_11, ↓Iv.sz_12, ↓Iv.sz_13, ↓Iv.sz_14, ↓Iv.t_nm, ↓Iv.t_tup, ↓Iv.t_lst, ↓Iv.t_sub, ↓Iv.ts_nil, ↓Iv.ts_cons, ↓Iv.ss_nil, ↓Iv.ss_cons, ↓Iv.seqK_rt, ↓Iv.seqK_nx, ↓Iv.s_asg, ↓Iv.s_aug, ↓Iv.s_expr, ↓Iv.s_ret, ↓Iv.s_retN, ↓Iv.s_pass, ↓Iv.s_ite, ↓Iv.s_for, ↓Iv.i_range1, ↓Iv.i_range2, ↓Iv.i_seq, ↓Iv.rgK_is, ↓Iv.rgK2_is, ↓Iv.itK_lst, ↓Iv.itK_tup, ↓Iv.o_add, ↓Iv.o_sub, ↓Iv.o_mul_l, ↓Iv.o_mul_r, ↓Iv.md600, ↓Iv.o_mod, ↓Iv.o_fdiv_s, ↓Iv.o_shl, ↓Iv.o_neg, ↓Iv.c_lt, ↓Iv.c_le, ↓Iv.c_gt, ↓Iv.c_ge, ↓Iv.c_eqI, ↓Iv.c_neI, ↓Iv.bl_K, ↓Iv.b_lenL, ↓Iv.b_lenT, ↓Iv.b_abs, ↓Iv.b_min2, ↓Iv.b_max2, ↓Iv.b_bits, ↓Iv.b_isaI_i, ↓Iv.b_isaI_b, ↓Iv.b_isaB_i, ↓Iv.b_isaB_b, ↓Iv.x_pick2, ↓Iv.x_pick3, ↓Iv.x_pick4, ↓Iv.x_pick5, ↓Iv.iteB_T, ↓Iv.iteB_F, ↓Iv.iteB_dT, ↓Iv.iteB_dF, ↓Iv.iteB_nT, ↓Iv.iteB_nF, ↓Iv.bodyF_is, ↓Iv.end_i, ↓Iv.end_b, ↓Iv.end_s, ↓Iv.end_iS, ↓Iv.end_iL, ↓Iv.end_own, ↓Iv.end_n, ↓Iv.end_r, ↓Iv.end_puI, ↓Iv.end_puB, ↓Iv.end_puT, ↓Iv.pw6, ↓Iv.pw9, ↓Iv.pw12, ↓Iv.pw18, ↓Iv.pw24, ↓Iv.pw30, ↓Iv.pw60, ↓Iv.pw600, ↓Iv.md600, ↓Iv.x_p0, ↓Iv.x_p1, ↓Iv.x_p2, ↓Iv.st_p0, ↓Iv.st_p2, ↓Iv.e_kidx, ↓Iv.e_kget, ↓Iv.e_dnew, ↓Iv.e_dfin, ↓Iv.kidx_hit, ↓Iv.kidx_miss, ↓Iv.c_strT, ↓Iv.c_strF, ↓Iv.c_nstrT, ↓Iv.c_nstrF, ↓Iv.c_isNs, ↓Iv.c_isNi, ↓Iv.c_isNt, ↓Iv.c_isNn, ↓Iv.b_isaT_t, ↓Iv.b_isaS_s, ↓Iv.b_lenS, ↓Iv.e_slice, ↓Iv.f_slc, ↓Iv.f_cat, ↓Iv.f_lst1, ↓Iv.f_comp, ↓Iv.turnC_k, ↓Iv.wipeK_0, ↓Iv.wipeK_s, ↓Iv.unsetK_0, ↓Iv.unsetK_s, ↓Iv.p_nm, ↓Iv.p_tup, ↓Iv.ps_0, ↓Iv.ps_s, ↓Iv.addK_n, ↓Iv.addK_s, ↓Iv.ifs_nil, ↓Iv.ifs_one, ↓Iv.optK_some, ↓Iv.partK_i, ↓Iv.s_app, ↓Iv.s_setF, ↓Iv.s_setA, ↓Iv.s_dext, ↓Iv.dctK_fin, ↓Iv.chkK_T, ↓Iv.o_aug_add, ↓Iv.o_aug_sub, ↓Iv.b_int1, ↓Iv.b_int1b, ↓Iv.b_tup1, ↓Iv.b_tup1t, ↓Iv.comp_nil, ↓Iv.comp_k, ↓Iv.i_zipS, ↓Iv.i_enumS, ↓Iv.xt_0, ↓Iv.xt_1, ↓Iv.xt_2, ↓Iv.xt_3, ↓Iv.xt_4, ↓Iv.xt_5, ↓Iv.xl_0, ↓Iv.xl_1, ↓Iv.xl_2, ↓Iv.xl_3, ↓Iv.xl_4, ↓Iv.o_addT, ↓Iv.b_divmod, ↓bnd_of e0, ↓bnd_of e1, ↓bnd_of e2, Bool.not_true, Bool.not_false, decide_true, decide_false, eq_self, List.cons_append, List.nil_append]
    refine for_step (fun ds s h => (∀ d ∈ ds, ∃ c : Int, 0 ≤ c ∧ c ≤ 8 ∧ d = .int c) ∧ ∃ p, p.ok (28 * ds.length) ∧ h = h1.set n (purseO p) ∧ ∃ x4 x5 x6 x7 x8 x9 x10 x11, s = [some (.lst (ns.map .int)), some (.int i), some (.ref n), some (.int (grainV (purse0 ns i)).1), x4, x5, x6, x7, x8, x9, x10, x11])
      ?_ ?_ ?_
    · refine ⟨fun d hd => ?_, _, o2.weak (by simp only [List.length_cons, List.length_nil]; decide), rfl, _, _, _, _, _, _, _, _, rfl⟩
      simp only [List.mem_cons, List.not_mem_nil, or_false] at hd
      rcases hd with rfl | rfl
      · exact ⟨_, d0, by omega, rfl⟩
      · exact ⟨_, c1.1, c1.2, rfl⟩
    · rintro d ds s h ⟨hl, p, hp, rfl, x4, x5, x6, x7, x8, x9, x10, x11, rfl⟩
      obtain ⟨l, l0, l1, rfl⟩ := hl _ (List.mem_cons_self ..)
      have hl' := fun d hd' => hl d (List.mem_cons_of_mem _ hd')
      have hwid : (1 : Int) * 2 ^ l.toNat = wid l := rfl
      obtain ⟨w0, w1⟩ := wid_b l0 l1
      have e1 := run_grain (k := 26) hn (hp.weak (by simp only [List.length_cons]; omega))
      have o1 := grain_ok (k := 28 * ds.length + 26) hp
      obtain ⟨L, q, o2, hL, e2⟩ := run_spots (k := 25) (j := 28 * ds.length + 2) (w := wid l) hn o1 (by omega) w1
      have g1 := grain_b p
      generalize hs : (grainV (purse0 ns i)).1 = sd at *
      generalize ht : (grainV p).1 = t at *
      simp -implicitDefEqProofs (disch := first | omega | decide +kernel | exact rfl | (simp only [List.length_cons, List.length_nil]; decide +kernel)) only [↓Iv.slotK_0, ↓Iv.slotK_s, ↓Iv.setK_0, ↓Iv.setK_s, ↓Iv.nthK_0, ↓Iv.nthK_s, ↓Iv.permK_0, ↓Iv.permK_s, ↓Iv.e_v, ↓Iv.e_c, ↓Iv.e_tup, ↓Iv.e_lstv, ↓Iv.e_alloc, ↓Iv.e_bin, ↓Iv.e_neg, ↓Iv.e_cmp, ↓Iv.e_chain, ↓Iv.e_and, ↓Iv.e_or, ↓Iv.e_notK, ↓Iv.notK_T, ↓Iv.notK_F, ↓Iv.e_ite, ↓Iv.e_idx, ↓Iv.e_call, ↓Iv.e_bi, ↓Iv.es_nil, ↓Iv.es_cons, ↓Iv.f_disp, ↓Iv.new_3, ↓Iv.new_0, ↓Iv.sz_0, ↓Iv.sz_1, ↓Iv.sz_2, ↓Iv.sz_3, ↓Iv.sz_4, ↓Iv.sz_5, ↓Iv.sz_6, ↓Iv.sz_7, ↓Iv.sz_8, ↓Iv.sz_9, ↓Iv.sz_10, ↓Iv.sz_11, ↓Iv.sz_12, ↓Iv.sz_13, ↓Iv.sz_14, ↓Iv.t_nm, ↓Iv.t_tup, ↓Iv.t_lst, ↓Iv.t_sub, ↓Iv.ts_nil, ↓Iv.ts_cons, ↓Iv.ss_nil, ↓Iv.ss_cons, ↓Iv.seqK_rt, ↓Iv.seqK_nx, ↓Iv.s_asg, ↓Iv.s_aug, ↓Iv.s_expr, ↓Iv.s_ret, ↓Iv.s_retN, ↓Iv.s_pass, ↓Iv.s_ite, ↓Iv.s_for, ↓Iv.i_range1, ↓Iv.i_range2, ↓Iv.i_seq, ↓Iv.rgK_is, ↓Iv.rgK2_is, ↓Iv.itK_lst, ↓Iv.itK_tup, ↓Iv.o_add, ↓Iv.o_sub, ↓Iv.o_mul_l, ↓Iv.o_mul_r, ↓Iv.md600, ↓Iv.o_mod, ↓Iv.o_fdiv_s, ↓Iv.o_shl, ↓Iv.o_neg, ↓Iv.c_lt, ↓Iv.c_le, ↓Iv.c_gt, ↓Iv.c_ge, ↓Iv.c_eqI, ↓Iv.c_neI, ↓Iv.bl_K, ↓Iv.b_lenL, ↓Iv.b_lenT, ↓Iv.b_abs, ↓Iv.b_min2, ↓Iv.b_max2, ↓Iv.b_bits, ↓Iv.b_isaI_i, ↓Iv.b_isaI_b, ↓Iv.b_isaB_i, ↓Iv.b_isaB_b, ↓Iv.x_pick2, ↓Iv.x_pick3, ↓Iv.x_pick4, ↓Iv.x_pick5, ↓Iv.iteB_T, ↓Iv.iteB_F, ↓Iv.iteB_dT, ↓Iv.iteB_dF, ↓Iv.iteB_nT, ↓Iv.iteB_nF, ↓Iv.bodyF_is, ↓Iv.end_i, ↓Iv.end_b, ↓Iv.end_s, ↓Iv.end_iS, ↓Iv.end_iL, ↓Iv.end_own, ↓Iv.end_n, ↓Iv.end_r, ↓Iv.end_puI, ↓Iv.end_puB, ↓Iv.end_puT, ↓Iv.pw6, ↓Iv.pw9, ↓Iv.pw12, ↓Iv.pw18, ↓Iv.pw24, ↓Iv.pw30, ↓Iv.pw60, ↓Iv.pw600, ↓Iv.md600, ↓Iv.x_p0, ↓Iv.x_p1, ↓Iv.x_p2, ↓Iv.st_p0, ↓Iv.st_p2, ↓Iv.e_kidx, ↓Iv.e_kget, ↓Iv.e_dnew, ↓Iv.e_dfin, ↓Iv.kidx_hit, ↓Iv.kidx_miss, ↓Iv.c_strT, ↓Iv.c_strF, ↓Iv.c_nstrT, ↓Iv.c_nstrF, ↓Iv.c_isNs, ↓Iv.c_isNi, ↓Iv.c_isNt, ↓Iv.c_isNn, ↓Iv.b_isaT_t, ↓Iv.b_isaS_s, ↓Iv.b_lenS, ↓Iv.e_slice, ↓Iv.f_slc, ↓Iv.f_cat, ↓Iv.f_lst1, ↓Iv.f_comp, ↓Iv.turnC_k, ↓Iv.wipeK_0, ↓Iv.wipeK_s, ↓Iv.unsetK_0, ↓Iv.unsetK_s, ↓Iv.p_nm, ↓Iv.p_tup, ↓Iv.ps_0, ↓Iv.ps_s, ↓Iv.addK_n, ↓Iv.addK_s, ↓Iv.ifs_nil, ↓Iv.ifs_one, ↓Iv.optK_some, ↓Iv.partK_i, ↓Iv.s_app, ↓Iv.s_setF, ↓Iv.s_setA, ↓Iv.s_dext, ↓Iv.dctK_fin, ↓Iv.chkK_T, ↓Iv.o_aug_add, ↓Iv.o_aug_sub, ↓Iv.b_int1, ↓Iv.b_int1b, ↓Iv.b_tup1, ↓Iv.b_tup1t, ↓Iv.comp_nil, ↓Iv.comp_k, ↓Iv.i_zipS, ↓Iv.i_enumS, ↓Iv.xt_0, ↓Iv.xt_1, ↓Iv.xt_2, ↓Iv.xt_3, ↓Iv.xt_4, ↓Iv.xt_5, ↓Iv.xl_0, ↓Iv.xl_1, ↓Iv.xl_2, ↓Iv.xl_3, ↓Iv.xl_4, ↓Iv.o_addT, ↓Iv.b_divmod, hwid, ↓bnd_of e1, ↓bnd_of e2, Bool.not_true, Bool.not_false, decide_true, decide_false, eq_self, List.cons_append, List.nil_append]
      refine for_step (fun ds s h => h = h1.set n (purseO q) ∧ (∃ L : List (Int × Int), ds = L.map ptD ∧ ∀ s ∈ L, s.1.natAbs ≤ 1000000 ∧ s.2.natAbs ≤ 1000000) ∧ ∃ x7 x8 x9 x10 x11, s = [some (.lst (ns.map .int)), some (.int i), some (.ref n), some (.int sd), some (.int l), some (noiseD t l), some (.int (wid l)), x7, x8, x9, x10, x11])
        ⟨rfl, ⟨L, rfl, hL⟩, _, _, _, _, _, rfl⟩ ?_ ?_
      · rintro d ds' s h ⟨rfl, ⟨M, hM, hb⟩, x7, x8, x9, x10, x11, rfl⟩
        cases M with
        | nil => cases hM
        | cons m M =>
          obtain ⟨x, z⟩ := m
          simp only [List.map_cons, List.cons.injEq] at hM
          obtain ⟨rfl, rfl⟩ := hM
          have hb' := fun s hs => hb s (List.mem_cons_of_mem _ hs)
          obtain ⟨hx, hz⟩ := hb _ (List.mem_cons_self ..)
          simp only at hx hz
          have f1 := value_noise (k := 23) (s := sd) (h := h1.set n (purseO q)) g1.1 g1.2 l0 l1 hx hz
          have f2 := run_lnoise (k := 27) (s := sd) (t := t) (x := x) (z := z) (h := h1.set n (purseO q)) l0 l1
          have f3 := steps_noise (k := 24) (h := h1.set n (purseO q)) g1.1 g1.2 l0 l1
          have f4 := run_step (k := 26) (s := sd) (t := t) (dx := 0) (dz := 0) (x := x) (z := z) (h := h1.set n (purseO q)) l0 l1
          rw [Int.add_zero, Int.add_zero] at f4
          have f5 := value_shift (k := 22) (a := 1000) (b := -1000) (s := sd) (h := h1.set n (purseO q)) g1.1 g1.2 l0 l1 (by decide) (by decide) (by decide) (by decide) hx hz
          have f6 := run_lnoise (k := 27) (s := sd) (t := t) (x := x + 1000) (z := z - 1000) (h := h1.set n (purseO q)) l0 l1
          rw [show z + -1000 = z - 1000 from rfl] at f5
          have nb := noise_b (s := sd) (t := t) (x := x) (z := z) l0 l1
          have nb2 := decide_eq_true nb.2
          simp -implicitDefEqProofs (disch := first | omega | decide +kernel | exact rfl | (simp only [List.length_cons, List.length_nil]; decide +kernel)) only [↓Iv.slotK_0, ↓Iv.slotK_s, ↓Iv.setK_0, ↓Iv.setK_s, ↓Iv.nthK_0, ↓Iv.nthK_s, ↓Iv.permK_0, ↓Iv.permK_s, ↓Iv.e_v, ↓Iv.e_c, ↓Iv.e_tup, ↓Iv.e_lstv, ↓Iv.e_alloc, ↓Iv.e_bin, ↓Iv.e_neg, ↓Iv.e_cmp, ↓Iv.e_chain, ↓Iv.e_and, ↓Iv.e_or, ↓Iv.e_notK, ↓Iv.notK_T, ↓Iv.notK_F, ↓Iv.e_ite, ↓Iv.e_idx, ↓Iv.e_call, ↓Iv.e_bi, ↓Iv.es_nil, ↓Iv.es_cons, ↓Iv.f_disp, ↓Iv.new_3, ↓Iv.new_0, ↓Iv.sz_0, ↓Iv.sz_1, ↓Iv.sz_2, ↓Iv.sz_3, ↓Iv.sz_4, ↓Iv.sz_5, ↓Iv.sz_6, ↓Iv.sz_7, ↓Iv.sz_8, ↓Iv.sz_9, ↓Iv.sz_10, ↓Iv.sz_11, ↓Iv.sz_12, ↓Iv.sz_13, ↓Iv.sz_14, ↓Iv.t_nm, ↓Iv.t_tup, ↓Iv.t_lst, ↓Iv.t_sub, ↓Iv.ts_nil, ↓Iv.ts_cons, ↓Iv.ss_nil, ↓Iv.ss_cons, ↓Iv.seqK_rt, ↓Iv.seqK_nx, ↓Iv.s_asg, ↓Iv.s_aug, ↓Iv.s_expr, ↓Iv.s_ret, ↓Iv.s_retN, ↓Iv.s_pass, ↓Iv.s_ite, ↓Iv.s_for, ↓Iv.i_range1, ↓Iv.i_range2, ↓Iv.i_seq, ↓Iv.rgK_is, ↓Iv.rgK2_is, ↓Iv.itK_lst, ↓Iv.itK_tup, ↓Iv.o_add, ↓Iv.o_sub, ↓Iv.o_mul_l, ↓Iv.o_mul_r, ↓Iv.md600, ↓Iv.o_mod, ↓Iv.o_fdiv_s, ↓Iv.o_shl, ↓Iv.o_neg, ↓Iv.c_lt, ↓Iv.c_le, ↓Iv.c_gt, ↓Iv.c_ge, ↓Iv.c_eqI, ↓Iv.c_neI, ↓Iv.bl_K, ↓Iv.b_lenL, ↓Iv.b_lenT, ↓Iv.b_abs, ↓Iv.b_min2, ↓Iv.b_max2, ↓Iv.b_bits, ↓Iv.b_isaI_i, ↓Iv.b_isaI_b, ↓Iv.b_isaB_i, ↓Iv.b_isaB_b, ↓Iv.x_pick2, ↓Iv.x_pick3, ↓Iv.x_pick4, ↓Iv.x_pick5, ↓Iv.iteB_T, ↓Iv.iteB_F, ↓Iv.iteB_dT, ↓Iv.iteB_dF, ↓Iv.iteB_nT, ↓Iv.iteB_nF, ↓Iv.bodyF_is, ↓Iv.end_i, ↓Iv.end_b, ↓Iv.end_s, ↓Iv.end_iS, ↓Iv.end_iL, ↓Iv.end_own, ↓Iv.end_n, ↓Iv.end_r, ↓Iv.end_puI, ↓Iv.end_puB, ↓Iv.end_puT, ↓Iv.pw6, ↓Iv.pw9, ↓Iv.pw12, ↓Iv.pw18, ↓Iv.pw24, ↓Iv.pw30, ↓Iv.pw60, ↓Iv.pw600, ↓Iv.md600, ↓Iv.x_p0, ↓Iv.x_p1, ↓Iv.x_p2, ↓Iv.st_p0, ↓Iv.st_p2, ↓Iv.e_kidx, ↓Iv.e_kget, ↓Iv.e_dnew, ↓Iv.e_dfin, ↓Iv.kidx_hit, ↓Iv.kidx_miss, ↓Iv.c_strT, ↓Iv.c_strF, ↓Iv.c_nstrT, ↓Iv.c_nstrF, ↓Iv.c_isNs, ↓Iv.c_isNi, ↓Iv.c_isNt, ↓Iv.c_isNn, ↓Iv.b_isaT_t, ↓Iv.b_isaS_s, ↓Iv.b_lenS, ↓Iv.e_slice, ↓Iv.f_slc, ↓Iv.f_cat, ↓Iv.f_lst1, ↓Iv.f_comp, ↓Iv.turnC_k, ↓Iv.wipeK_0, ↓Iv.wipeK_s, ↓Iv.unsetK_0, ↓Iv.unsetK_s, ↓Iv.p_nm, ↓Iv.p_tup, ↓Iv.ps_0, ↓Iv.ps_s, ↓Iv.addK_n, ↓Iv.addK_s, ↓Iv.ifs_nil, ↓Iv.ifs_one, ↓Iv.optK_some, ↓Iv.partK_i, ↓Iv.s_app, ↓Iv.s_setF, ↓Iv.s_setA, ↓Iv.s_dext, ↓Iv.dctK_fin, ↓Iv.chkK_T, ↓Iv.o_aug_add, ↓Iv.o_aug_sub, ↓Iv.b_int1, ↓Iv.b_int1b, ↓Iv.b_tup1, ↓Iv.b_tup1t, ↓Iv.comp_nil, ↓Iv.comp_k, ↓Iv.i_zipS, ↓Iv.i_enumS, ↓Iv.xt_0, ↓Iv.xt_1, ↓Iv.xt_2, ↓Iv.xt_3, ↓Iv.xt_4, ↓Iv.xt_5, ↓Iv.xl_0, ↓Iv.xl_1, ↓Iv.xl_2, ↓Iv.xl_3, ↓Iv.xl_4, ↓Iv.o_addT, ↓Iv.b_divmod, nb2, ↓bnd_of f1, ↓bnd_of f2, ↓bnd_of f3, ↓bnd_of f4, ↓bnd_of f5, ↓bnd_of f6, ↓bnd_of run_whole, Bool.not_true, Bool.not_false, decide_true, decide_false, eq_self, List.cons_append, List.nil_append]
          exact ⟨_, _, rfl, rfl, ⟨M, rfl, hb'⟩, _, _, _, _, _, rfl⟩
      · rintro s h ⟨rfl, -, x7, x8, x9, x10, x11, rfl⟩
        have a1 := run_draw (k := 27) hn (o2.weak (k := 1) (by omega)) (m := 99) (by decide) (by decide)
        have o3 := draw_ok (k := 28 * ds.length + 1) o2 (m := 99) (by decide)
        have a2 := run_draw (k := 27) hn (o3.weak (k := 1) (by omega)) (m := 99) (by decide) (by decide)
        have o4 := draw_ok (k := 28 * ds.length) o3 (m := 99) (by decide)
        have b1 := draw_lo q (m := 99) (by decide)
        have b2 := draw_hi q (m := 99) (by decide)
        have b3 := draw_lo (drawP q 99).2 (m := 99) (by decide)
        have b4 := draw_hi (drawP q 99).2 (m := 99) (by decide)
        generalize hh : h1.set n (purseO (drawP (drawP q 99).2 99).2) = h2 at *
        have lx := run_line_x (k := 22) (s := sd) (t := t) (l := l) (a := (drawP q 99).1 - 50) (b := (drawP (drawP q 99).2 99).1 - 50) (h := h2) g1.1 g1.2 l0 l1 (by omega) (by omega)
        have lz := run_line_z (k := 22) (s := sd) (t := t) (l := l) (a := (drawP q 99).1 - 50) (b := (drawP (drawP q 99).2 99).1 - 50) (h := h2) g1.1 g1.2 l0 l1 (by omega) (by omega)
        have lm := run_middles (k := 22) (s := sd) (t := t) (l := l) (a := (drawP q 99).1 - 50) (b := (drawP (drawP q 99).2 99).1 - 50) (h := h2) g1.1 g1.2 l0 l1 (by omega) (by omega)
        simp -implicitDefEqProofs (disch := first | omega | decide +kernel | exact rfl | (simp only [List.length_cons, List.length_nil]; decide +kernel)) only [↓Iv.slotK_0, ↓Iv.slotK_s, ↓Iv.setK_0, ↓Iv.setK_s, ↓Iv.nthK_0, ↓Iv.nthK_s, ↓Iv.permK_0, ↓Iv.permK_s, ↓Iv.e_v, ↓Iv.e_c, ↓Iv.e_tup, ↓Iv.e_lstv, ↓Iv.e_alloc, ↓Iv.e_bin, ↓Iv.e_neg, ↓Iv.e_cmp, ↓Iv.e_chain, ↓Iv.e_and, ↓Iv.e_or, ↓Iv.e_notK, ↓Iv.notK_T, ↓Iv.notK_F, ↓Iv.e_ite, ↓Iv.e_idx, ↓Iv.e_call, ↓Iv.e_bi, ↓Iv.es_nil, ↓Iv.es_cons, ↓Iv.f_disp, ↓Iv.new_3, ↓Iv.new_0, ↓Iv.sz_0, ↓Iv.sz_1, ↓Iv.sz_2, ↓Iv.sz_3, ↓Iv.sz_4, ↓Iv.sz_5, ↓Iv.sz_6, ↓Iv.sz_7, ↓Iv.sz_8, ↓Iv.sz_9, ↓Iv.sz_10, ↓Iv.sz_11, ↓Iv.sz_12, ↓Iv.sz_13, ↓Iv.sz_14, ↓Iv.t_nm, ↓Iv.t_tup, ↓Iv.t_lst, ↓Iv.t_sub, ↓Iv.ts_nil, ↓Iv.ts_cons, ↓Iv.ss_nil, ↓Iv.ss_cons, ↓Iv.seqK_rt, ↓Iv.seqK_nx, ↓Iv.s_asg, ↓Iv.s_aug, ↓Iv.s_expr, ↓Iv.s_ret, ↓Iv.s_retN, ↓Iv.s_pass, ↓Iv.s_ite, ↓Iv.s_for, ↓Iv.i_range1, ↓Iv.i_range2, ↓Iv.i_seq, ↓Iv.rgK_is, ↓Iv.rgK2_is, ↓Iv.itK_lst, ↓Iv.itK_tup, ↓Iv.o_add, ↓Iv.o_sub, ↓Iv.o_mul_l, ↓Iv.o_mul_r, ↓Iv.md600, ↓Iv.o_mod, ↓Iv.o_fdiv_s, ↓Iv.o_shl, ↓Iv.o_neg, ↓Iv.c_lt, ↓Iv.c_le, ↓Iv.c_gt, ↓Iv.c_ge, ↓Iv.c_eqI, ↓Iv.c_neI, ↓Iv.bl_K, ↓Iv.b_lenL, ↓Iv.b_lenT, ↓Iv.b_abs, ↓Iv.b_min2, ↓Iv.b_max2, ↓Iv.b_bits, ↓Iv.b_isaI_i, ↓Iv.b_isaI_b, ↓Iv.b_isaB_i, ↓Iv.b_isaB_b, ↓Iv.x_pick2, ↓Iv.x_pick3, ↓Iv.x_pick4, ↓Iv.x_pick5, ↓Iv.iteB_T, ↓Iv.iteB_F, ↓Iv.iteB_dT, ↓Iv.iteB_dF, ↓Iv.iteB_nT, ↓Iv.iteB_nF, ↓Iv.bodyF_is, ↓Iv.end_i, ↓Iv.end_b, ↓Iv.end_s, ↓Iv.end_iS, ↓Iv.end_iL, ↓Iv.end_own, ↓Iv.end_n, ↓Iv.end_r, ↓Iv.end_puI, ↓Iv.end_puB, ↓Iv.end_puT, ↓Iv.pw6, ↓Iv.pw9, ↓Iv.pw12, ↓Iv.pw18, ↓Iv.pw24, ↓Iv.pw30, ↓Iv.pw60, ↓Iv.pw600, ↓Iv.md600, ↓Iv.x_p0, ↓Iv.x_p1, ↓Iv.x_p2, ↓Iv.st_p0, ↓Iv.st_p2, ↓Iv.e_kidx, ↓Iv.e_kget, ↓Iv.e_dnew, ↓Iv.e_dfin, ↓Iv.kidx_hit, ↓Iv.kidx_miss, ↓Iv.c_strT, ↓Iv.c_strF, ↓Iv.c_nstrT, ↓Iv.c_nstrF, ↓Iv.c_isNs, ↓Iv.c_isNi, ↓Iv.c_isNt, ↓Iv.c_isNn, ↓Iv.b_isaT_t, ↓Iv.b_isaS_s, ↓Iv.b_lenS, ↓Iv.e_slice, ↓Iv.f_slc, ↓Iv.f_cat, ↓Iv.f_lst1, ↓Iv.f_comp, ↓Iv.turnC_k, ↓Iv.wipeK_0, ↓Iv.wipeK_s, ↓Iv.unsetK_0, ↓Iv.unsetK_s, ↓Iv.p_nm, ↓Iv.p_tup, ↓Iv.ps_0, ↓Iv.ps_s, ↓Iv.addK_n, ↓Iv.addK_s, ↓Iv.ifs_nil, ↓Iv.ifs_one, ↓Iv.optK_some, ↓Iv.partK_i, ↓Iv.s_app, ↓Iv.s_setF, ↓Iv.s_setA, ↓Iv.s_dext, ↓Iv.dctK_fin, ↓Iv.chkK_T, ↓Iv.o_aug_add, ↓Iv.o_aug_sub, ↓Iv.b_int1, ↓Iv.b_int1b, ↓Iv.b_tup1, ↓Iv.b_tup1t, ↓Iv.comp_nil, ↓Iv.comp_k, ↓Iv.i_zipS, ↓Iv.i_enumS, ↓Iv.xt_0, ↓Iv.xt_1, ↓Iv.xt_2, ↓Iv.xt_3, ↓Iv.xt_4, ↓Iv.xt_5, ↓Iv.xl_0, ↓Iv.xl_1, ↓Iv.xl_2, ↓Iv.xl_3, ↓Iv.xl_4, ↓Iv.o_addT, ↓Iv.b_divmod, ↓bnd_of a1, ↓bnd_of a2, ↓bnd_of lx, ↓bnd_of lz, ↓bnd_of lm, Bool.not_true, Bool.not_false, decide_true, decide_false, eq_self, List.cons_append, List.nil_append]
        exact ⟨_, _, rfl, hl', _, o4, hh.symm, _, _, _, _, _, _, _, _, rfl⟩
    · rintro s h ⟨-, p, hp, rfl, x4, x5, x6, x7, x8, x9, x10, x11, rfl⟩
      simp -implicitDefEqProofs (disch := first | omega | decide +kernel | exact rfl | (simp only [List.length_cons, List.length_nil]; decide +kernel)) only [↓Iv.slotK_0, ↓Iv.slotK_s, ↓Iv.setK_0, ↓Iv.setK_s, ↓Iv.nthK_0, ↓Iv.nthK_s, ↓Iv.permK_0, ↓Iv.permK_s, ↓Iv.e_v, ↓Iv.e_c, ↓Iv.e_tup, ↓Iv.e_lstv, ↓Iv.e_alloc, ↓Iv.e_bin, ↓Iv.e_neg, ↓Iv.e_cmp, ↓Iv.e_chain, ↓Iv.e_and, ↓Iv.e_or, ↓Iv.e_notK, ↓Iv.notK_T, ↓Iv.notK_F, ↓Iv.e_ite, ↓Iv.e_idx, ↓Iv.e_call, ↓Iv.e_bi, ↓Iv.es_nil, ↓Iv.es_cons, ↓Iv.f_disp, ↓Iv.new_3, ↓Iv.new_0, ↓Iv.sz_0, ↓Iv.sz_1, ↓Iv.sz_2, ↓Iv.sz_3, ↓Iv.sz_4, ↓Iv.sz_5, ↓Iv.sz_6, ↓Iv.sz_7, ↓Iv.sz_8, ↓Iv.sz_9, ↓Iv.sz_10, ↓Iv.sz_11, ↓Iv.sz_12, ↓Iv.sz_13, ↓Iv.sz_14, ↓Iv.t_nm, ↓Iv.t_tup, ↓Iv.t_lst, ↓Iv.t_sub, ↓Iv.ts_nil, ↓Iv.ts_cons, ↓Iv.ss_nil, ↓Iv.ss_cons, ↓Iv.seqK_rt, ↓Iv.seqK_nx, ↓Iv.s_asg, ↓Iv.s_aug, ↓Iv.s_expr, ↓Iv.s_ret, ↓Iv.s_retN, ↓Iv.s_pass, ↓Iv.s_ite, ↓Iv.s_for, ↓Iv.i_range1, ↓Iv.i_range2, ↓Iv.i_seq, ↓Iv.rgK_is, ↓Iv.rgK2_is, ↓Iv.itK_lst, ↓Iv.itK_tup, ↓Iv.o_add, ↓Iv.o_sub, ↓Iv.o_mul_l, ↓Iv.o_mul_r, ↓Iv.md600, ↓Iv.o_mod, ↓Iv.o_fdiv_s, ↓Iv.o_shl, ↓Iv.o_neg, ↓Iv.c_lt, ↓Iv.c_le, ↓Iv.c_gt, ↓Iv.c_ge, ↓Iv.c_eqI, ↓Iv.c_neI, ↓Iv.bl_K, ↓Iv.b_lenL, ↓Iv.b_lenT, ↓Iv.b_abs, ↓Iv.b_min2, ↓Iv.b_max2, ↓Iv.b_bits, ↓Iv.b_isaI_i, ↓Iv.b_isaI_b, ↓Iv.b_isaB_i, ↓Iv.b_isaB_b, ↓Iv.x_pick2, ↓Iv.x_pick3, ↓Iv.x_pick4, ↓Iv.x_pick5, ↓Iv.iteB_T, ↓Iv.iteB_F, ↓Iv.iteB_dT, ↓Iv.iteB_dF, ↓Iv.iteB_nT, ↓Iv.iteB_nF, ↓Iv.bodyF_is, ↓Iv.end_i, ↓Iv.end_b, ↓Iv.end_s, ↓Iv.end_iS, ↓Iv.end_iL, ↓Iv.end_own, ↓Iv.end_n, ↓Iv.end_r, ↓Iv.end_puI, ↓Iv.end_puB, ↓Iv.end_puT, ↓Iv.pw6, ↓Iv.pw9, ↓Iv.pw12, ↓Iv.pw18, ↓Iv.pw24, ↓Iv.pw30, ↓Iv.pw60, ↓Iv.pw600, ↓Iv.md600, ↓Iv.x_p0, ↓Iv.x_p1, ↓Iv.x_p2, ↓Iv.st_p0, ↓Iv.st_p2, ↓Iv.e_kidx, ↓Iv.e_kget, ↓Iv.e_dnew, ↓Iv.e_dfin, ↓Iv.kidx_hit, ↓Iv.kidx_miss, ↓Iv.c_strT, ↓Iv.c_strF, ↓Iv.c_nstrT, ↓Iv.c_nstrF, ↓Iv.c_isNs, ↓Iv.c_isNi, ↓Iv.c_isNt, ↓Iv.c_isNn, ↓Iv.b_isaT_t, ↓Iv.b_isaS_s, ↓Iv.b_lenS, ↓Iv.e_slice, ↓Iv.f_slc, ↓Iv.f_cat, ↓Iv.f_lst1, ↓Iv.f_comp, ↓Iv.turnC_k, ↓Iv.wipeK_0, ↓Iv.wipeK_s, ↓Iv.unsetK_0, ↓Iv.unsetK_s, ↓Iv.p_nm, ↓Iv.p_tup, ↓Iv.ps_0, ↓Iv.ps_s, ↓Iv.addK_n, ↓Iv.addK_s, ↓Iv.ifs_nil, ↓Iv.ifs_one, ↓Iv.optK_some, ↓Iv.partK_i, ↓Iv.s_app, ↓Iv.s_setF, ↓Iv.s_setA, ↓Iv.s_dext, ↓Iv.dctK_fin, ↓Iv.chkK_T, ↓Iv.o_aug_add, ↓Iv.o_aug_sub, ↓Iv.b_int1, ↓Iv.b_int1b, ↓Iv.b_tup1, ↓Iv.b_tup1t, ↓Iv.comp_nil, ↓Iv.comp_k, ↓Iv.i_zipS, ↓Iv.i_enumS, ↓Iv.xt_0, ↓Iv.xt_1, ↓Iv.xt_2, ↓Iv.xt_3, ↓Iv.xt_4, ↓Iv.xt_5, ↓Iv.xl_0, ↓Iv.xl_1, ↓Iv.xl_2, ↓Iv.xl_3, ↓Iv.xl_4, ↓Iv.o_addT, ↓Iv.b_divmod, Bool.not_true, Bool.not_false, decide_true, decide_false, eq_self, List.cons_append, List.nil_append]
      exact ⟨_, _, rfl, fun d hd' => hd d (List.mem_cons_of_mem _ hd'), _, _, _, _, _, _, _, _, _, _, _, rfl⟩
  · rintro s h ⟨_, x1, x2, x3, x4, x5, x6, x7, x8, x9, x10, x11, rfl⟩
    simp -implicitDefEqProofs (disch := first | omega | decide +kernel | exact rfl | (simp only [List.length_cons, List.length_nil]; decide +kernel)) only [↓Iv.slotK_0, ↓Iv.slotK_s, ↓Iv.setK_0, ↓Iv.setK_s, ↓Iv.nthK_0, ↓Iv.nthK_s, ↓Iv.permK_0, ↓Iv.permK_s, ↓Iv.e_v, ↓Iv.e_c, ↓Iv.e_tup, ↓Iv.e_lstv, ↓Iv.e_alloc, ↓Iv.e_bin, ↓Iv.e_neg, ↓Iv.e_cmp, ↓Iv.e_chain, ↓Iv.e_and, ↓Iv.e_or, ↓Iv.e_notK, ↓Iv.notK_T, ↓Iv.notK_F, ↓Iv.e_ite, ↓Iv.e_idx, ↓Iv.e_call, ↓Iv.e_bi, ↓Iv.es_nil, ↓Iv.es_cons, ↓Iv.f_disp, ↓Iv.new_3, ↓Iv.new_0, ↓Iv.sz_0, ↓Iv.sz_1, ↓Iv.sz_2, ↓Iv.sz_3, ↓Iv.sz_4, ↓Iv.sz_5, ↓Iv.sz_6, ↓Iv.sz_7, ↓Iv.sz_8, ↓Iv.sz_9, ↓Iv.sz_10, ↓Iv.sz_11, ↓Iv.sz_12, ↓Iv.sz_13, ↓Iv.sz_14, ↓Iv.t_nm, ↓Iv.t_tup, ↓Iv.t_lst, ↓Iv.t_sub, ↓Iv.ts_nil, ↓Iv.ts_cons, ↓Iv.ss_nil, ↓Iv.ss_cons, ↓Iv.seqK_rt, ↓Iv.seqK_nx, ↓Iv.s_asg, ↓Iv.s_aug, ↓Iv.s_expr, ↓Iv.s_ret, ↓Iv.s_retN, ↓Iv.s_pass, ↓Iv.s_ite, ↓Iv.s_for, ↓Iv.i_range1, ↓Iv.i_range2, ↓Iv.i_seq, ↓Iv.rgK_is, ↓Iv.rgK2_is, ↓Iv.itK_lst, ↓Iv.itK_tup, ↓Iv.o_add, ↓Iv.o_sub, ↓Iv.o_mul_l, ↓Iv.o_mul_r, ↓Iv.md600, ↓Iv.o_mod, ↓Iv.o_fdiv_s, ↓Iv.o_shl, ↓Iv.o_neg, ↓Iv.c_lt, ↓Iv.c_le, ↓Iv.c_gt, ↓Iv.c_ge, ↓Iv.c_eqI, ↓Iv.c_neI, ↓Iv.bl_K, ↓Iv.b_lenL, ↓Iv.b_lenT, ↓Iv.b_abs, ↓Iv.b_min2, ↓Iv.b_max2, ↓Iv.b_bits, ↓Iv.b_isaI_i, ↓Iv.b_isaI_b, ↓Iv.b_isaB_i, ↓Iv.b_isaB_b, ↓Iv.x_pick2, ↓Iv.x_pick3, ↓Iv.x_pick4, ↓Iv.x_pick5, ↓Iv.iteB_T, ↓Iv.iteB_F, ↓Iv.iteB_dT, ↓Iv.iteB_dF, ↓Iv.iteB_nT, ↓Iv.iteB_nF, ↓Iv.bodyF_is, ↓Iv.end_i, ↓Iv.end_b, ↓Iv.end_s, ↓Iv.end_iS, ↓Iv.end_iL, ↓Iv.end_own, ↓Iv.end_n, ↓Iv.end_r, ↓Iv.end_puI, ↓Iv.end_puB, ↓Iv.end_puT, ↓Iv.pw6, ↓Iv.pw9, ↓Iv.pw12, ↓Iv.pw18, ↓Iv.pw24, ↓Iv.pw30, ↓Iv.pw60, ↓Iv.pw600, ↓Iv.md600, ↓Iv.x_p0, ↓Iv.x_p1, ↓Iv.x_p2, ↓Iv.st_p0, ↓Iv.st_p2, ↓Iv.e_kidx, ↓Iv.e_kget, ↓Iv.e_dnew, ↓Iv.e_dfin, ↓Iv.kidx_hit, ↓Iv.kidx_miss, ↓Iv.c_strT, ↓Iv.c_strF, ↓Iv.c_nstrT, ↓Iv.c_nstrF, ↓Iv.c_isNs, ↓Iv.c_isNi, ↓Iv.c_isNt, ↓Iv.c_isNn, ↓Iv.b_isaT_t, ↓Iv.b_isaS_s, ↓Iv.b_lenS, ↓Iv.e_slice, ↓Iv.f_slc, ↓Iv.f_cat, ↓Iv.f_lst1, ↓Iv.f_comp, ↓Iv.turnC_k, ↓Iv.wipeK_0, ↓Iv.wipeK_s, ↓Iv.unsetK_0, ↓Iv.unsetK_s, ↓Iv.p_nm, ↓Iv.p_tup, ↓Iv.ps_0, ↓Iv.ps_s, ↓Iv.addK_n, ↓Iv.addK_s, ↓Iv.ifs_nil, ↓Iv.ifs_one, ↓Iv.optK_some, ↓Iv.partK_i, ↓Iv.s_app, ↓Iv.s_setF, ↓Iv.s_setA, ↓Iv.s_dext, ↓Iv.dctK_fin, ↓Iv.chkK_T, ↓Iv.o_aug_add, ↓Iv.o_aug_sub, ↓Iv.b_int1, ↓Iv.b_int1b, ↓Iv.b_tup1, ↓Iv.b_tup1t, ↓Iv.comp_nil, ↓Iv.comp_k, ↓Iv.i_zipS, ↓Iv.i_enumS, ↓Iv.xt_0, ↓Iv.xt_1, ↓Iv.xt_2, ↓Iv.xt_3, ↓Iv.xt_4, ↓Iv.xt_5, ↓Iv.xl_0, ↓Iv.xl_1, ↓Iv.xl_2, ↓Iv.xl_3, ↓Iv.xl_4, ↓Iv.o_addT, ↓Iv.b_divmod, Bool.not_true, Bool.not_false, decide_true, decide_false, eq_self, List.cons_append, List.nil_append]
    exact ⟨_, end_G rfl rfl⟩
end Law

namespace Law
open PySem L2 Iv
set_option maxHeartbeats 0 in
open PySem.W in
theorem all_mk {l : PySem.W.OpenLaw} {w : World} {K : PySem.W.Frag} {h : Heap} {mg : Str → Option Value} {fa : Addr} {f0 f1 f2 f3 f4 f5 f6 f7 f8 f9 f10 f11 f12 f13 f14 f15 f16 f17 f18 f19 f20 f21 f22 f23 f24 f25 f26 f27 f28 f29 f30 f31 f32 f33 f34 : Addr} (X : K.In h) (G : h.Ns mainGlobals mg) (hfa : mg "law" = some (.ref fa))
    {od0 an0 od1 an1 od2 an2 od3 an3 od4 an4 od5 an5 od6 an6 od7 an7 od8 an8 od9 an9 od10 an10 od11 an11 od12 an12 od13 an13 od14 an14 od15 an15 od16 an16 od17 an17 od18 an18 od19 an19 od20 an20 od21 an21 od22 an22 od23 an23 od24 an24 od25 an25 od26 an26 od27 an27 od28 an28 od29 an29 od30 an30 od31 an31 od32 an32 od33 an33 od34 an34 : Option Addr} {sl0 sl1 sl2 sl3 sl4 sl5 sl6 sl7 sl8 sl9 sl10 sl11 sl12 sl13 sl14 sl15 sl16 sl17 sl18 sl19 sl20 sl21 sl22 sl23 sl24 sl25 sl26 sl27 sl28 sl29 sl30 sl31 sl32 sl33 sl34 : Array (Option Value)} {oc0 kV0 dc0 pm0 cd0 ct0 oc1 kV1 dc1 pm1 cd1 ct1 oc2 kV2 dc2 pm2 cd2 ct2 oc3 kV3 dc3 pm3 cd3 ct3 oc4 kV4 dc4 pm4 cd4 ct4 oc5 kV5 dc5 pm5 cd5 ct5 oc6 kV6 dc6 pm6 cd6 ct6 oc7 kV7 dc7 pm7 cd7 ct7 oc8 kV8 dc8 pm8 cd8 ct8 oc9 kV9 dc9 pm9 cd9 ct9 oc10 kV10 dc10 pm10 cd10 ct10 oc11 kV11 dc11 pm11 cd11 ct11 oc12 kV12 dc12 pm12 cd12 ct12 oc13 kV13 dc13 pm13 cd13 ct13 oc14 kV14 dc14 pm14 cd14 ct14 oc15 kV15 dc15 pm15 cd15 ct15 oc16 kV16 dc16 pm16 cd16 ct16 oc17 kV17 dc17 pm17 cd17 ct17 oc18 kV18 dc18 pm18 cd18 ct18 oc19 kV19 dc19 pm19 cd19 ct19 oc20 kV20 dc20 pm20 cd20 ct20 oc21 kV21 dc21 pm21 cd21 ct21 oc22 kV22 dc22 pm22 cd22 ct22 oc23 kV23 dc23 pm23 cd23 ct23 oc24 kV24 dc24 pm24 cd24 ct24 oc25 kV25 dc25 pm25 cd25 ct25 oc26 kV26 dc26 pm26 cd26 ct26 oc27 kV27 dc27 pm27 cd27 ct27 oc28 kV28 dc28 pm28 cd28 ct28 oc29 kV29 dc29 pm29 cd29 ct29 oc30 kV30 dc30 pm30 cd30 ct30 oc31 kV31 dc31 pm31 cd31 ct31 oc32 kV32 dc32 pm32 cd32 ct32 oc33 kV33 dc33 pm33 cd33 ct33 oc34 kV34 dc34 pm34 cd34 ct34 : Value}
    {gt0 : Tok} {gt1 : Tok} {gt2 : Tok} {gt3 : Tok} {gt4 : Tok} {gt5 : Tok} {gt6 : Tok} {gt7 : Tok} {ga8 : Addr} {gd8 : Option Addr} {gi8 : Array Value} {gn8 : Nat} {gs8 : Array (Option Value)} {gt9 : Tok} {gt10 : Tok} {gt11 : Tok} {da0 : Addr} {des0 : Array DictEntry} {dn0 : Nat} {dt0_0 : Tok} {dt0_1 : Tok} {dt0_2 : Tok} {dt0_3 : Tok} {dt0_4 : Tok} {dt0_5 : Tok} {dt0_6 : Tok} {dt0_7 : Tok} {dt0_8 : Tok} {dt0_9 : Tok} {dt0_10 : Tok} {dt0_11 : Tok} {dt0_12 : Tok} {dt0_13 : Tok} {da1 : Addr} {des1 : Array DictEntry} {dn1 : Nat} {db1_0 : Addr} {dd1_0 : Option Addr} {di1_0 : Array Value} {dm1_0 : Nat} {dx1_0 : Array (Option Value)} {db1_1 : Addr} {dd1_1 : Option Addr} {di1_1 : Array Value} {dm1_1 : Nat} {dx1_1 : Array (Option Value)} {db1_2 : Addr} {dd1_2 : Option Addr} {di1_2 : Array Value} {dm1_2 : Nat} {dx1_2 : Array (Option Value)} {db1_3 : Addr} {dd1_3 : Option Addr} {di1_3 : Array Value} {dm1_3 : Nat} {dx1_3 : Array (Option Value)} {db1_4 : Addr} {dd1_4 : Option Addr} {di1_4 : Array Value} {dm1_4 : Nat} {dx1_4 : Array (Option Value)}
    (a0 : PySem.W.nsIn K mainGlobals "knot" = some (some (.ref f0)))
    (l0 : K.lookup f0 = some ⟨oc0, od0, .func (PySem.W.fnOf "knot" "knot" (defArgs (topS 10)) (defBody (topS 10)) (defScope (topS 10)) .none kV0 dc0 pm0 an0 cd0 ct0), sl0⟩)
    (c0 : PySem.W.codeIn K cd0 "knot" = true)
    (k0 : PySem.W.keepIn K (.ref f0) = true)
    (a1 : PySem.W.nsIn K mainGlobals "is_whole" = some (some (.ref f1)))
    (l1 : K.lookup f1 = some ⟨oc1, od1, .func (PySem.W.fnOf "is_whole" "is_whole" (defArgs (topS 24)) (defBody (topS 24)) (defScope (topS 24)) .none kV1 dc1 pm1 an1 cd1 ct1), sl1⟩)
    (c1 : PySem.W.codeIn K cd1 "is_whole" = true)
    (k1 : PySem.W.keepIn K (.ref f1) = true)
    (a2 : PySem.W.nsIn K mainGlobals "is_name" = some (some (.ref f2)))
    (l2 : K.lookup f2 = some ⟨oc2, od2, .func (PySem.W.fnOf "is_name" "is_name" (defArgs (topS 25)) (defBody (topS 25)) (defScope (topS 25)) .none kV2 dc2 pm2 an2 cd2 ct2), sl2⟩)
    (c2 : PySem.W.codeIn K cd2 "is_name" = true)
    (k2 : PySem.W.keepIn K (.ref f2) = true)
    (a3 : PySem.W.nsIn K mainGlobals "must_point" = some (some (.ref f3)))
    (l3 : K.lookup f3 = some ⟨oc3, od3, .func (PySem.W.fnOf "must_point" "must_point" (defArgs (topS 26)) (defBody (topS 26)) (defScope (topS 26)) .none kV3 dc3 pm3 an3 cd3 ct3), sl3⟩)
    (c3 : PySem.W.codeIn K cd3 "must_point" = true)
    (k3 : PySem.W.keepIn K (.ref f3) = true)
    (a4 : PySem.W.nsIn K mainGlobals "must_kind" = some (some (.ref f4)))
    (l4 : K.lookup f4 = some ⟨oc4, od4, .func (PySem.W.fnOf "must_kind" "must_kind" (defArgs (topS 27)) (defBody (topS 27)) (defScope (topS 27)) .none kV4 dc4 pm4 an4 cd4 ct4), sl4⟩)
    (c4 : PySem.W.codeIn K cd4 "must_kind" = true)
    (k4 : PySem.W.keepIn K (.ref f4) = true)
    (a5 : PySem.W.nsIn K mainGlobals "must_things" = some (some (.ref f5)))
    (l5 : K.lookup f5 = some ⟨oc5, od5, .func (PySem.W.fnOf "must_things" "must_things" (defArgs (topS 28)) (defBody (topS 28)) (defScope (topS 28)) .none kV5 dc5 pm5 an5 cd5 ct5), sl5⟩)
    (c5 : PySem.W.codeIn K cd5 "must_things" = true)
    (k5 : PySem.W.keepIn K (.ref f5) = true)
    (a6 : PySem.W.nsIn K mainGlobals "must_field" = some (some (.ref f6)))
    (l6 : K.lookup f6 = some ⟨oc6, od6, .func (PySem.W.fnOf "must_field" "must_field" (defArgs (topS 29)) (defBody (topS 29)) (defScope (topS 29)) .none kV6 dc6 pm6 an6 cd6 ct6), sl6⟩)
    (c6 : PySem.W.codeIn K cd6 "must_field" = true)
    (k6 : PySem.W.keepIn K (.ref f6) = true)
    (a7 : PySem.W.nsIn K mainGlobals "parts_of" = some (some (.ref f7)))
    (l7 : K.lookup f7 = some ⟨oc7, od7, .func (PySem.W.fnOf "parts_of" "parts_of" (defArgs (topS 30)) (defBody (topS 30)) (defScope (topS 30)) .none kV7 dc7 pm7 an7 cd7 ct7), sl7⟩)
    (c7 : PySem.W.codeIn K cd7 "parts_of" = true)
    (k7 : PySem.W.keepIn K (.ref f7) = true)
    (a8 : PySem.W.nsIn K mainGlobals "size_of" = some (some (.ref f8)))
    (l8 : K.lookup f8 = some ⟨oc8, od8, .func (PySem.W.fnOf "size_of" "size_of" (defArgs (topS 31)) (defBody (topS 31)) (defScope (topS 31)) .none kV8 dc8 pm8 an8 cd8 ct8), sl8⟩)
    (c8 : PySem.W.codeIn K cd8 "size_of" = true)
    (k8 : PySem.W.keepIn K (.ref f8) = true)
    (a9 : PySem.W.nsIn K mainGlobals "put" = some (some (.ref f9)))
    (l9 : K.lookup f9 = some ⟨oc9, od9, .func (PySem.W.fnOf "put" "put" (defArgs (topS 32)) (defBody (topS 32)) (defScope (topS 32)) .none kV9 dc9 pm9 an9 cd9 ct9), sl9⟩)
    (c9 : PySem.W.codeIn K cd9 "put" = true)
    (k9 : PySem.W.keepIn K (.ref f9) = true)
    (a10 : PySem.W.nsIn K mainGlobals "steps_into" = some (some (.ref f10)))
    (l10 : K.lookup f10 = some ⟨oc10, od10, .func (PySem.W.fnOf "steps_into" "steps_into" (defArgs (topS 33)) (defBody (topS 33)) (defScope (topS 33)) .none kV10 dc10 pm10 an10 cd10 ct10), sl10⟩)
    (c10 : PySem.W.codeIn K cd10 "steps_into" = true)
    (k10 : PySem.W.keepIn K (.ref f10) = true)
    (a11 : PySem.W.nsIn K mainGlobals "steps_in" = some (some (.ref f11)))
    (l11 : K.lookup f11 = some ⟨oc11, od11, .func (PySem.W.fnOf "steps_in" "steps_in" (defArgs (topS 34)) (defBody (topS 34)) (defScope (topS 34)) .none kV11 dc11 pm11 an11 cd11 ct11), sl11⟩)
    (c11 : PySem.W.codeIn K cd11 "steps_in" = true)
    (k11 : PySem.W.keepIn K (.ref f11) = true)
    (a12 : PySem.W.nsIn K mainGlobals "must_rules" = some (some (.ref f12)))
    (l12 : K.lookup f12 = some ⟨oc12, od12, .func (PySem.W.fnOf "must_rules" "must_rules" (defArgs (topS 35)) (defBody (topS 35)) (defScope (topS 35)) .none kV12 dc12 pm12 an12 cd12 ct12), sl12⟩)
    (c12 : PySem.W.codeIn K cd12 "must_rules" = true)
    (k12 : PySem.W.keepIn K (.ref f12) = true)
    (a13 : PySem.W.nsIn K mainGlobals "steps_of" = some (some (.ref f13)))
    (l13 : K.lookup f13 = some ⟨oc13, od13, .func (PySem.W.fnOf "steps_of" "steps_of" (defArgs (topS 36)) (defBody (topS 36)) (defScope (topS 36)) .none kV13 dc13 pm13 an13 cd13 ct13), sl13⟩)
    (c13 : PySem.W.codeIn K cd13 "steps_of" = true)
    (k13 : PySem.W.keepIn K (.ref f13) = true)
    (a14 : PySem.W.nsIn K mainGlobals "noise_at" = some (some (.ref f14)))
    (l14 : K.lookup f14 = some ⟨oc14, od14, .func (PySem.W.fnOf "noise_at" "noise_at" (defArgs (topS 37)) (defBody (topS 37)) (defScope (topS 37)) .none kV14 dc14 pm14 an14 cd14 ct14), sl14⟩)
    (c14 : PySem.W.codeIn K cd14 "noise_at" = true)
    (k14 : PySem.W.keepIn K (.ref f14) = true)
    (a15 : PySem.W.nsIn K mainGlobals "reckoned" = some (some (.ref f15)))
    (l15 : K.lookup f15 = some ⟨oc15, od15, .func (PySem.W.fnOf "reckoned" "reckoned" (defArgs (topS 38)) (defBody (topS 38)) (defScope (topS 38)) .none kV15 dc15 pm15 an15 cd15 ct15), sl15⟩)
    (c15 : PySem.W.codeIn K cd15 "reckoned" = true)
    (k15 : PySem.W.keepIn K (.ref f15) = true)
    (a16 : PySem.W.nsIn K mainGlobals "run_steps" = some (some (.ref f16)))
    (l16 : K.lookup f16 = some ⟨oc16, od16, .func (PySem.W.fnOf "run_steps" "run_steps" (defArgs (topS 39)) (defBody (topS 39)) (defScope (topS 39)) .none kV16 dc16 pm16 an16 cd16 ct16), sl16⟩)
    (c16 : PySem.W.codeIn K cd16 "run_steps" = true)
    (k16 : PySem.W.keepIn K (.ref f16) = true)
    (a17 : PySem.W.nsIn K mainGlobals "value_at" = some (some (.ref f17)))
    (l17 : K.lookup f17 = some ⟨oc17, od17, .func (PySem.W.fnOf "value_at" "value_at" (defArgs (topS 40)) (defBody (topS 40)) (defScope (topS 40)) .none kV17 dc17 pm17 an17 cd17 ct17), sl17⟩)
    (c17 : PySem.W.codeIn K cd17 "value_at" = true)
    (k17 : PySem.W.keepIn K (.ref f17) = true)
    (a18 : PySem.W.nsIn K mainGlobals "cuts" = some (some (.ref f18)))
    (l18 : K.lookup f18 = some ⟨oc18, od18, .func (PySem.W.fnOf "cuts" "cuts" (defArgs (topS 41)) (defBody (topS 41)) (defScope (topS 41)) .none kV18 dc18 pm18 an18 cd18 ct18), sl18⟩)
    (c18 : PySem.W.codeIn K cd18 "cuts" = true)
    (k18 : PySem.W.keepIn K (.ref f18) = true)
    (a19 : PySem.W.nsIn K mainGlobals "noise_range" = some (some (.ref f19)))
    (l19 : K.lookup f19 = some ⟨oc19, od19, .func (PySem.W.fnOf "noise_range" "noise_range" (defArgs (topS 42)) (defBody (topS 42)) (defScope (topS 42)) .none kV19 dc19 pm19 an19 cd19 ct19), sl19⟩)
    (c19 : PySem.W.codeIn K cd19 "noise_range" = true)
    (k19 : PySem.W.keepIn K (.ref f19) = true)
    (a20 : PySem.W.nsIn K mainGlobals "range_of" = some (some (.ref f20)))
    (l20 : K.lookup f20 = some ⟨oc20, od20, .func (PySem.W.fnOf "range_of" "range_of" (defArgs (topS 43)) (defBody (topS 43)) (defScope (topS 43)) .none kV20 dc20 pm20 an20 cd20 ct20), sl20⟩)
    (c20 : PySem.W.codeIn K cd20 "range_of" = true)
    (k20 : PySem.W.keepIn K (.ref f20) = true)
    (a21 : PySem.W.nsIn K mainGlobals "ranges_of" = some (some (.ref f21)))
    (l21 : K.lookup f21 = some ⟨oc21, od21, .func (PySem.W.fnOf "ranges_of" "ranges_of" (defArgs (topS 44)) (defBody (topS 44)) (defScope (topS 44)) .none kV21 dc21 pm21 an21 cd21 ct21), sl21⟩)
    (c21 : PySem.W.codeIn K cd21 "ranges_of" = true)
    (k21 : PySem.W.keepIn K (.ref f21) = true)
    (a22 : PySem.W.nsIn K mainGlobals "_law_at" = some (some (.ref f22)))
    (l22 : K.lookup f22 = some ⟨oc22, od22, .func (PySem.W.fnOf "_law_at" "_law_at" (defArgs (topS 46)) (defBody (topS 46)) (defScope (topS 46)) .none kV22 dc22 pm22 an22 cd22 ct22), sl22⟩)
    (c22 : PySem.W.codeIn K cd22 "_law_at" = true)
    (k22 : PySem.W.keepIn K (.ref f22) = true)
    (a23 : PySem.W.nsIn K mainGlobals "_law_mixed" = some (some (.ref f23)))
    (l23 : K.lookup f23 = some ⟨oc23, od23, .func (PySem.W.fnOf "_law_mixed" "_law_mixed" (defArgs (topS 47)) (defBody (topS 47)) (defScope (topS 47)) .none kV23 dc23 pm23 an23 cd23 ct23), sl23⟩)
    (c23 : PySem.W.codeIn K cd23 "_law_mixed" = true)
    (k23 : PySem.W.keepIn K (.ref f23) = true)
    (a24 : PySem.W.nsIn K mainGlobals "_law_purse" = some (some (.ref f24)))
    (l24 : K.lookup f24 = some ⟨oc24, od24, .func (PySem.W.fnOf "_law_purse" "_law_purse" (defArgs (topS 48)) (defBody (topS 48)) (defScope (topS 48)) .none kV24 dc24 pm24 an24 cd24 ct24), sl24⟩)
    (c24 : PySem.W.codeIn K cd24 "_law_purse" = true)
    (k24 : PySem.W.keepIn K (.ref f24) = true)
    (a25 : PySem.W.nsIn K mainGlobals "_law_draw" = some (some (.ref f25)))
    (l25 : K.lookup f25 = some ⟨oc25, od25, .func (PySem.W.fnOf "_law_draw" "_law_draw" (defArgs (topS 49)) (defBody (topS 49)) (defScope (topS 49)) .none kV25 dc25 pm25 an25 cd25 ct25), sl25⟩)
    (c25 : PySem.W.codeIn K cd25 "_law_draw" = true)
    (k25 : PySem.W.keepIn K (.ref f25) = true)
    (a26 : PySem.W.nsIn K mainGlobals "_law_whole" = some (some (.ref f26)))
    (l26 : K.lookup f26 = some ⟨oc26, od26, .func (PySem.W.fnOf "_law_whole" "_law_whole" (defArgs (topS 50)) (defBody (topS 50)) (defScope (topS 50)) .none kV26 dc26 pm26 an26 cd26 ct26), sl26⟩)
    (c26 : PySem.W.codeIn K cd26 "_law_whole" = true)
    (k26 : PySem.W.keepIn K (.ref f26) = true)
    (a27 : PySem.W.nsIn K mainGlobals "_law_knot" = some (some (.ref f27)))
    (l27 : K.lookup f27 = some ⟨oc27, od27, .func (PySem.W.fnOf "_law_knot" "_law_knot" (defArgs (topS 51)) (defBody (topS 51)) (defScope (topS 51)) .none kV27 dc27 pm27 an27 cd27 ct27), sl27⟩)
    (c27 : PySem.W.codeIn K cd27 "_law_knot" = true)
    (k27 : PySem.W.keepIn K (.ref f27) = true)
    (a28 : PySem.W.nsIn K mainGlobals "_law_noise" = some (some (.ref f28)))
    (l28 : K.lookup f28 = some ⟨oc28, od28, .func (PySem.W.fnOf "_law_noise" "_law_noise" (defArgs (topS 52)) (defBody (topS 52)) (defScope (topS 52)) .none kV28 dc28 pm28 an28 cd28 ct28), sl28⟩)
    (c28 : PySem.W.codeIn K cd28 "_law_noise" = true)
    (k28 : PySem.W.keepIn K (.ref f28) = true)
    (a29 : PySem.W.nsIn K mainGlobals "_law_grain" = some (some (.ref f29)))
    (l29 : K.lookup f29 = some ⟨oc29, od29, .func (PySem.W.fnOf "_law_grain" "_law_grain" (defArgs (topS 53)) (defBody (topS 53)) (defScope (topS 53)) .none kV29 dc29 pm29 an29 cd29 ct29), sl29⟩)
    (c29 : PySem.W.codeIn K cd29 "_law_grain" = true)
    (k29 : PySem.W.keepIn K (.ref f29) = true)
    (a30 : PySem.W.nsIn K mainGlobals "_law_place" = some (some (.ref f30)))
    (l30 : K.lookup f30 = some ⟨oc30, od30, .func (PySem.W.fnOf "_law_place" "_law_place" (defArgs (topS 54)) (defBody (topS 54)) (defScope (topS 54)) .none kV30 dc30 pm30 an30 cd30 ct30), sl30⟩)
    (c30 : PySem.W.codeIn K cd30 "_law_place" = true)
    (k30 : PySem.W.keepIn K (.ref f30) = true)
    (a31 : PySem.W.nsIn K mainGlobals "_law_spots" = some (some (.ref f31)))
    (l31 : K.lookup f31 = some ⟨oc31, od31, .func (PySem.W.fnOf "_law_spots" "_law_spots" (defArgs (topS 55)) (defBody (topS 55)) (defScope (topS 55)) .none kV31 dc31 pm31 an31 cd31 ct31), sl31⟩)
    (c31 : PySem.W.codeIn K cd31 "_law_spots" = true)
    (k31 : PySem.W.keepIn K (.ref f31) = true)
    (a32 : PySem.W.nsIn K mainGlobals "_law_line_right" = some (some (.ref f32)))
    (l32 : K.lookup f32 = some ⟨oc32, od32, .func (PySem.W.fnOf "_law_line_right" "_law_line_right" (defArgs (topS 56)) (defBody (topS 56)) (defScope (topS 56)) .none kV32 dc32 pm32 an32 cd32 ct32), sl32⟩)
    (c32 : PySem.W.codeIn K cd32 "_law_line_right" = true)
    (k32 : PySem.W.keepIn K (.ref f32) = true)
    (a33 : PySem.W.nsIn K mainGlobals "_law_middles_right" = some (some (.ref f33)))
    (l33 : K.lookup f33 = some ⟨oc33, od33, .func (PySem.W.fnOf "_law_middles_right" "_law_middles_right" (defArgs (topS 57)) (defBody (topS 57)) (defScope (topS 57)) .none kV33 dc33 pm33 an33 cd33 ct33), sl33⟩)
    (c33 : PySem.W.codeIn K cd33 "_law_middles_right" = true)
    (k33 : PySem.W.keepIn K (.ref f33) = true)
    (a34 : PySem.W.nsIn K mainGlobals "law" = some (some (.ref f34)))
    (l34 : K.lookup f34 = some ⟨oc34, od34, .func (PySem.W.fnOf "law" "law" (defArgs (topS 58)) (defBody (topS 58)) (defScope (topS 58)) .none kV34 dc34 pm34 an34 cd34 ct34), sl34⟩)
    (c34 : PySem.W.codeIn K cd34 "law" = true)
    (k34 : PySem.W.keepIn K (.ref f34) = true)
    (g0 : PySem.W.nsIn K mainGlobals "FIRST" = some (some (.int 2147483647 gt0)))
    (g1 : PySem.W.nsIn K mainGlobals "SECOND" = some (some (.int 2147483629 gt1)))
    (g2 : PySem.W.nsIn K mainGlobals "THIRD" = some (some (.int 2147483587 gt2)))
    (g3 : PySem.W.nsIn K mainGlobals "LAST" = some (some (.int 2147483579 gt3)))
    (g4 : PySem.W.nsIn K mainGlobals "MOST" = some (some (.int 65536 gt4)))
    (g5 : PySem.W.nsIn K mainGlobals "LETTERS" = some (some (.str "abcdefghijklmnopqrstuvwxyz" gt5)))
    (g6 : PySem.W.nsIn K mainGlobals "FAREST" = some (some (.int 1000000 gt6)))
    (g7 : PySem.W.nsIn K mainGlobals "MOST_FIELDS" = some (some (.int 200 gt7)))
    (g8 : PySem.W.nsIn K mainGlobals "WHOLE_LAND" = some (some (.ref ga8)))
    (gl8 : K.lookup ga8 = some ⟨.type "tuple", gd8, .seq gi8 gn8, gs8⟩)
    (gv8 : Iv.intsAre gi8.toList [(-1000000), (-1000000), 1000000, 1000000] = true)
    (g9 : PySem.W.nsIn K mainGlobals "GREAT" = some (some (.int 1000000000000000000000000000000 gt9)))
    (g10 : PySem.W.nsIn K mainGlobals "MOST_SQUARES" = some (some (.int 64 gt10)))
    (g11 : PySem.W.nsIn K mainGlobals "MOST_KNOT" = some (some (.int 65535 gt11)))
    (d0 : PySem.W.nsIn K mainGlobals "FORMS" = some (some (.ref da0)))
    (dl0 : K.lookup da0 = some ⟨.type "dict", none, .dict des0 dn0, #[]⟩)
    (ds0 : (da0 == sysModules) = false)
    (dk0 : PySem.W.KeysLit w.params des0.toList)
    (de0_0 : PySem.W.nsIn K da0 "whole" = some (some (.str "N" dt0_0)))
    (de0_1 : PySem.W.nsIn K da0 "x" = some (some (.str "" dt0_1)))
    (de0_2 : PySem.W.nsIn K da0 "z" = some (some (.str "" dt0_2)))
    (de0_3 : PySem.W.nsIn K da0 "noise" = some (some (.str "SL" dt0_3)))
    (de0_4 : PySem.W.nsIn K da0 "plus" = some (some (.str "FF" dt0_4)))
    (de0_5 : PySem.W.nsIn K da0 "less" = some (some (.str "FF" dt0_5)))
    (de0_6 : PySem.W.nsIn K da0 "times" = some (some (.str "FF" dt0_6)))
    (de0_7 : PySem.W.nsIn K da0 "least" = some (some (.str "FF" dt0_7)))
    (de0_8 : PySem.W.nsIn K da0 "most" = some (some (.str "FF" dt0_8)))
    (de0_9 : PySem.W.nsIn K da0 "over" = some (some (.str "FD" dt0_9)))
    (de0_10 : PySem.W.nsIn K da0 "below" = some (some (.str "FFFF" dt0_10)))
    (de0_11 : PySem.W.nsIn K da0 "shift" = some (some (.str "MMF" dt0_11)))
    (de0_12 : PySem.W.nsIn K da0 "let" = some (some (.str "WFF" dt0_12)))
    (de0_13 : PySem.W.nsIn K da0 "name" = some (some (.str "W" dt0_13)))
    (d1 : PySem.W.nsIn K mainGlobals "REACHES" = some (some (.ref da1)))
    (dl1 : K.lookup da1 = some ⟨.type "dict", none, .dict des1 dn1, #[]⟩)
    (ds1 : (da1 == sysModules) = false)
    (dk1 : PySem.W.KeysLit w.params des1.toList)
    (de1_0 : PySem.W.nsIn K da1 "N" = some (some (.ref db1_0)))
    (df1_0 : K.lookup db1_0 = some ⟨.type "tuple", dd1_0, .seq di1_0 dm1_0, dx1_0⟩)
    (dv1_0 : Iv.intsAre di1_0.toList [(-999999999), 999999999] = true)
    (de1_1 : PySem.W.nsIn K da1 "S" = some (some (.ref db1_1)))
    (df1_1 : K.lookup db1_1 = some ⟨.type "tuple", dd1_1, .seq di1_1 dm1_1, dx1_1⟩)
    (dv1_1 : Iv.intsAre di1_1.toList [0, 1000000000] = true)
    (de1_2 : PySem.W.nsIn K da1 "L" = some (some (.ref db1_2)))
    (df1_2 : K.lookup db1_2 = some ⟨.type "tuple", dd1_2, .seq di1_2 dm1_2, dx1_2⟩)
    (dv1_2 : Iv.intsAre di1_2.toList [0, 8] = true)
    (de1_3 : PySem.W.nsIn K da1 "D" = some (some (.ref db1_3)))
    (df1_3 : K.lookup db1_3 = some ⟨.type "tuple", dd1_3, .seq di1_3 dm1_3, dx1_3⟩)
    (dv1_3 : Iv.intsAre di1_3.toList [1, 1000000000] = true)
    (de1_4 : PySem.W.nsIn K da1 "M" = some (some (.ref db1_4)))
    (df1_4 : K.lookup db1_4 = some ⟨.type "tuple", dd1_4, .seq di1_4 dm1_4, dx1_4⟩)
    (dv1_4 : Iv.intsAre di1_4.toList [(-1000), 1000] = true)
    (z0 : PySem.W.nsIn K mainGlobals "isinstance" = some none)
    (z1 : PySem.W.nsIn K mainGlobals "int" = some none)
    (z2 : PySem.W.nsIn K mainGlobals "bool" = some none)
    (z3 : PySem.W.nsIn K mainGlobals "str" = some none)
    (z4 : PySem.W.nsIn K mainGlobals "len" = some none)
    (z5 : PySem.W.nsIn K mainGlobals "all" = some none)
    (z6 : PySem.W.nsIn K mainGlobals "abs" = some none)
    (z7 : PySem.W.nsIn K mainGlobals "tuple" = some none)
    (z8 : PySem.W.nsIn K mainGlobals "enumerate" = some none)
    (z9 : PySem.W.nsIn K mainGlobals "dict" = some none)
    (z10 : PySem.W.nsIn K mainGlobals "zip" = some none)
    (z11 : PySem.W.nsIn K mainGlobals "sum" = some none)
    (z12 : PySem.W.nsIn K mainGlobals "divmod" = some none)
    (z13 : PySem.W.nsIn K mainGlobals "min" = some none)
    (z14 : PySem.W.nsIn K mainGlobals "max" = some none)
    (z15 : PySem.W.nsIn K mainGlobals "range" = some none)
    : ∃ fd : FuncData, (∀ (s : Shared) (v : Value), BindsTo s fd ⟨[v], []⟩ [("_law_script", v)]) ∧ ∀ base : Heap, K.In base → base.Ns mainGlobals mg → FnOk l.prog w K mg base CX0 30 fa fd ["_law_script"] (@Iv.spOf K ⟨l.prog, w⟩ T 30 34) := by
  letI : Iv.Wd := ⟨l.prog, w⟩
  have e := hfa.symm.trans (PySem.W.mg_of X G a34)
  cases e
  have F0 := Iv.funG_mk (st := topS 10) l0 c0 k0
  have F1 := Iv.funG_mk (st := topS 24) l1 c1 k1
  have F2 := Iv.funG_mk (st := topS 25) l2 c2 k2
  have F3 := Iv.funG_mk (st := topS 26) l3 c3 k3
  have F4 := Iv.funG_mk (st := topS 27) l4 c4 k4
  have F5 := Iv.funG_mk (st := topS 28) l5 c5 k5
  have F6 := Iv.funG_mk (st := topS 29) l6 c6 k6
  have F7 := Iv.funG_mk (st := topS 30) l7 c7 k7
  have F8 := Iv.funG_mk (st := topS 31) l8 c8 k8
  have F9 := Iv.funG_mk (st := topS 32) l9 c9 k9
  have F10 := Iv.funG_mk (st := topS 33) l10 c10 k10
  have F11 := Iv.funG_mk (st := topS 34) l11 c11 k11
  have F12 := Iv.funG_mk (st := topS 35) l12 c12 k12
  have F13 := Iv.funG_mk (st := topS 36) l13 c13 k13
  have F14 := Iv.funG_mk (st := topS 37) l14 c14 k14
  have F15 := Iv.funG_mk (st := topS 38) l15 c15 k15
  have F16 := Iv.funG_mk (st := topS 39) l16 c16 k16
  have F17 := Iv.funG_mk (st := topS 40) l17 c17 k17
  have F18 := Iv.funG_mk (st := topS 41) l18 c18 k18
  have F19 := Iv.funG_mk (st := topS 42) l19 c19 k19
  have F20 := Iv.funG_mk (st := topS 43) l20 c20 k20
  have F21 := Iv.funG_mk (st := topS 44) l21 c21 k21
  have F22 := Iv.funG_mk (st := topS 46) l22 c22 k22
  have F23 := Iv.funG_mk (st := topS 47) l23 c23 k23
  have F24 := Iv.funG_mk (st := topS 48) l24 c24 k24
  have F25 := Iv.funG_mk (st := topS 49) l25 c25 k25
  have F26 := Iv.funG_mk (st := topS 50) l26 c26 k26
  have F27 := Iv.funG_mk (st := topS 51) l27 c27 k27
  have F28 := Iv.funG_mk (st := topS 52) l28 c28 k28
  have F29 := Iv.funG_mk (st := topS 53) l29 c29 k29
  have F30 := Iv.funG_mk (st := topS 54) l30 c30 k30
  have F31 := Iv.funG_mk (st := topS 55) l31 c31 k31
  have F32 := Iv.funG_mk (st := topS 56) l32 c32 k32
  have F33 := Iv.funG_mk (st := topS 57) l33 c33 k33
  have F34 := Iv.funG_mk (st := topS 58) l34 c34 k34
  have m0 := PySem.W.mg_of X G a0
  have m1 := PySem.W.mg_of X G a1
  have m2 := PySem.W.mg_of X G a2
  have m3 := PySem.W.mg_of X G a3
  have m4 := PySem.W.mg_of X G a4
  have m5 := PySem.W.mg_of X G a5
  have m6 := PySem.W.mg_of X G a6
  have m7 := PySem.W.mg_of X G a7
  have m8 := PySem.W.mg_of X G a8
  have m9 := PySem.W.mg_of X G a9
  have m10 := PySem.W.mg_of X G a10
  have m11 := PySem.W.mg_of X G a11
  have m12 := PySem.W.mg_of X G a12
  have m13 := PySem.W.mg_of X G a13
  have m14 := PySem.W.mg_of X G a14
  have m15 := PySem.W.mg_of X G a15
  have m16 := PySem.W.mg_of X G a16
  have m17 := PySem.W.mg_of X G a17
  have m18 := PySem.W.mg_of X G a18
  have m19 := PySem.W.mg_of X G a19
  have m20 := PySem.W.mg_of X G a20
  have m21 := PySem.W.mg_of X G a21
  have m22 := PySem.W.mg_of X G a22
  have m23 := PySem.W.mg_of X G a23
  have m24 := PySem.W.mg_of X G a24
  have m25 := PySem.W.mg_of X G a25
  have m26 := PySem.W.mg_of X G a26
  have m27 := PySem.W.mg_of X G a27
  have m28 := PySem.W.mg_of X G a28
  have m29 := PySem.W.mg_of X G a29
  have m30 := PySem.W.mg_of X G a30
  have m31 := PySem.W.mg_of X G a31
  have m32 := PySem.W.mg_of X G a32
  have m33 := PySem.W.mg_of X G a33
  have m34 := PySem.W.mg_of X G a34
  have H : Iv.Hd K mg tx tbl := by
    refine ⟨?_, ?_, rfl, ?_, ?_, ?_, ck_all⟩
    · exact (all_cons ⟨_, _, m0, F0⟩ (all_cons ⟨_, _, m1, F1⟩ (all_cons ⟨_, _, m2, F2⟩ (all_cons ⟨_, _, m3, F3⟩ (all_cons ⟨_, _, m4, F4⟩ (all_cons ⟨_, _, m5, F5⟩ (all_cons ⟨_, _, m6, F6⟩ (all_cons ⟨_, _, m7, F7⟩ (all_cons ⟨_, _, m8, F8⟩ (all_cons ⟨_, _, m9, F9⟩ (all_cons ⟨_, _, m10, F10⟩ (all_cons ⟨_, _, m11, F11⟩ (all_cons ⟨_, _, m12, F12⟩ (all_cons ⟨_, _, m13, F13⟩ (all_cons ⟨_, _, m14, F14⟩ (all_cons ⟨_, _, m15, F15⟩ (all_cons ⟨_, _, m16, F16⟩ (all_cons ⟨_, _, m17, F17⟩ (all_cons ⟨_, _, m18, F18⟩ (all_cons ⟨_, _, m19, F19⟩ (all_cons ⟨_, _, m20, F20⟩ (all_cons ⟨_, _, m21, F21⟩ (all_cons ⟨_, _, m22, F22⟩ (all_cons ⟨_, _, m23, F23⟩ (all_cons ⟨_, _, m24, F24⟩ (all_cons ⟨_, _, m25, F25⟩ (all_cons ⟨_, _, m26, F26⟩ (all_cons ⟨_, _, m27, F27⟩ (all_cons ⟨_, _, m28, F28⟩ (all_cons ⟨_, _, m29, F29⟩ (all_cons ⟨_, _, m30, F30⟩ (all_cons ⟨_, _, m31, F31⟩ (all_cons ⟨_, _, m32, F32⟩ (all_cons ⟨_, _, m33, F33⟩ (all_cons ⟨_, _, m34, F34⟩ all_nil)))))))))))))))))))))))))))))))))))
    · exact (all_cons ⟨t_is_name, _, _, rfl, m2, F2, Iv.shOk_mk rfl (fun us ws hu hw => match us, ws, hu, hw with | [u0], [], _, _ => rfl) rfl (by decide)⟩
      (all_cons ⟨t_must_field, _, _, rfl, m6, F6, Iv.shOk_mk rfl (fun us ws hu hw => match us, ws, hu, hw with | [u0, u1, u2], [], _, _ => rfl) rfl (by decide)⟩
      (all_cons ⟨t_is_whole, _, _, rfl, m1, F1, Iv.shOk_mk rfl (fun us ws hu hw => match us, ws, hu, hw with | [u0, u1, u2], [], _, _ => rfl) rfl (by decide)⟩
      (all_cons ⟨t_must_kind, _, _, rfl, m4, F4, Iv.shOk_mk rfl (fun us ws hu hw => match us, ws, hu, hw with | [u0, u1], [], _, _ => rfl) rfl (by decide)⟩
      (all_cons ⟨t_must_things, _, _, rfl, m5, F5, Iv.shOk_mk rfl (fun us ws hu hw => match us, ws, hu, hw with | [u0, u1, u2], [], _, _ => rfl) rfl (by decide)⟩
      (all_cons ⟨t_size_of, _, _, rfl, m8, F8, Iv.shOk_mk rfl (fun us ws hu hw => match us, ws, hu, hw with | [u0, u1], [], _, _ => rfl) rfl (by decide)⟩
      (all_cons ⟨t_parts_of, _, _, rfl, m7, F7, Iv.shOk_mk rfl (fun us ws hu hw => match us, ws, hu, hw with | [u0], [], _, _ => rfl) rfl (by decide)⟩
      (all_cons ⟨t_steps_into, _, _, rfl, m10, F10, Iv.shOk_mk rfl (fun us ws hu hw => match us, ws, hu, hw with | [u0, u1, u2, u3, u4], [], _, _ => rfl) rfl (by decide)⟩
      (all_cons ⟨t_put, _, _, rfl, m9, F9, Iv.shOk_mk rfl (fun us ws hu hw => match us, ws, hu, hw with | [u0, u1, u2], [], _, _ => rfl) rfl (by decide)⟩
      (all_cons ⟨t_ranges_of, _, _, rfl, m21, F21, Iv.shOk_mk rfl (fun us ws hu hw => match us, ws, hu, hw with | [u0, u1, u2], [], _, _ => rfl) rfl (by decide)⟩
      (all_cons ⟨t_steps_in, _, _, rfl, m11, F11, Iv.shOk_mk rfl (fun us ws hu hw => match us, ws, hu, hw with | [u0], [], _, _ => rfl) rfl (by decide)⟩
      (all_cons ⟨t_must_rules, _, _, rfl, m12, F12, Iv.shOk_mk rfl (fun us ws hu hw => match us, ws, hu, hw with | [u0], [], _, _ => rfl) rfl (by decide)⟩
      (all_cons ⟨t_knot, _, _, rfl, m0, F0, Iv.shOk_mk rfl (fun us ws hu hw => match us, ws, hu, hw with | [u0, u1, u2, u3], [], _, _ => rfl) rfl (by decide)⟩
      (all_cons ⟨t_noise_at, _, _, rfl, m14, F14, Iv.shOk_mk rfl (fun us ws hu hw => match us, ws, hu, hw with | [u0, u1, u2, u3, u4], [], _, _ => rfl) rfl (by decide)⟩
      (all_cons ⟨t_reckoned, _, _, rfl, m15, F15, Iv.shOk_mk rfl (fun us ws hu hw => match us, ws, hu, hw with | [u0, u1], [], _, _ => rfl) rfl (by decide)⟩
      (all_cons ⟨t_must_point, _, _, rfl, m3, F3, Iv.shOk_mk rfl (fun us ws hu hw => match us, ws, hu, hw with | [u0, u1], [], _, _ => rfl) rfl (by decide)⟩
      (all_cons ⟨t_run_steps, _, _, rfl, m16, F16, Iv.shOk_mk rfl (fun us ws hu hw => match us, ws, hu, hw with | [u0, u1, u2, u3], [], _, _ => rfl) rfl (by decide)⟩
      (all_cons ⟨t_cuts, _, _, rfl, m18, F18, Iv.shOk_mk rfl (fun us ws hu hw => match us, ws, hu, hw with | [u0, u1, u2], [], _, _ => rfl) rfl (by decide)⟩
      (all_cons ⟨t_noise_range, _, _, rfl, m19, F19, Iv.shOk_mk rfl (fun us ws hu hw => match us, ws, hu, hw with | [u0, u1, u2], [], _, _ => rfl) rfl (by decide)⟩
      (all_cons ⟨t_range_of, _, _, rfl, m20, F20, Iv.shOk_mk rfl (fun us ws hu hw => match us, ws, hu, hw with | [u0, u1], [], _, _ => rfl) rfl (by decide)⟩
      (all_cons ⟨tL_at, _, _, rfl, m22, F22, Iv.shOk_mk rfl (fun us ws hu hw => match us, ws, hu, hw with | [u0, u1], [], _, _ => rfl) rfl (by decide)⟩
      (all_cons ⟨tL_mixed, _, _, rfl, m23, F23, Iv.shOk_mk rfl (fun us ws hu hw => match us, ws, hu, hw with | [u0, u1], [], _, _ => rfl) rfl (by decide)⟩
      (all_cons ⟨tL_knot, _, _, rfl, m27, F27, Iv.shOk_mk rfl (fun us ws hu hw => match us, ws, hu, hw with | [u0, u1, u2, u3], [], _, _ => rfl) rfl (by decide)⟩
      (all_cons ⟨tL_draw, _, _, rfl, m25, F25, Iv.shOk_mk rfl (fun us ws hu hw => match us, ws, hu, hw with | [u0, u1], [], _, _ => rfl) rfl (by decide)⟩
      (all_cons ⟨tL_place, _, _, rfl, m30, F30, Iv.shOk_mk rfl (fun us ws hu hw => match us, ws, hu, hw with | [u0], [], _, _ => rfl) rfl (by decide)⟩
      (all_cons ⟨tL_noise, _, _, rfl, m28, F28, Iv.shOk_mk rfl (fun us ws hu hw => match us, ws, hu, hw with | [u0, u1, u2, u3], [], _, _ => rfl) rfl (by decide)⟩
      (all_cons ⟨t_value_at, _, _, rfl, m17, F17, Iv.shOk_mk rfl (fun us ws hu hw => match us, ws, hu, hw with | [u0, u1, u2, u3], [], _, _ => rfl) rfl (by decide)⟩
      (all_cons ⟨tL_purse, _, _, rfl, m24, F24, Iv.shOk_mk rfl (fun us ws hu hw => match us, ws, hu, hw with | [u0, u1], [], _, _ => rfl) rfl (by decide)⟩
      (all_cons ⟨tL_grain, _, _, rfl, m29, F29, Iv.shOk_mk rfl (fun us ws hu hw => match us, ws, hu, hw with | [u0], [], _, _ => rfl) rfl (by decide)⟩
      (all_cons ⟨tL_spots, _, _, rfl, m31, F31, Iv.shOk_mk rfl (fun us ws hu hw => match us, ws, hu, hw with | [u0, u1], [], _, _ => rfl) rfl (by decide)⟩
      (all_cons ⟨tL_whole, _, _, rfl, m26, F26, Iv.shOk_mk rfl (fun us ws hu hw => match us, ws, hu, hw with | [u0], [], _, _ => rfl) rfl (by decide)⟩
      (all_cons ⟨t_steps_of, _, _, rfl, m13, F13, Iv.shOk_mk rfl (fun us ws hu hw => match us, ws, hu, hw with | [u0], [], _, _ => rfl) rfl (by decide)⟩
      (all_cons ⟨tL_line_right, _, _, rfl, m32, F32, Iv.shOk_mk rfl (fun us ws hu hw => match us, ws, hu, hw with | [u0, u1, u2, u3], [], _, _ => rfl) rfl (by decide)⟩
      (all_cons ⟨tL_middles_right, _, _, rfl, m33, F33, Iv.shOk_mk rfl (fun us ws hu hw => match us, ws, hu, hw with | [u0, u1, u2], [], _, _ => rfl) rfl (by decide)⟩
      all_nil))))))))))))))))))))))))))))))))))
    · exact (all_cons (Iv.gl_int rfl (PySem.W.mg_of X G g0)) (all_cons (Iv.gl_int rfl (PySem.W.mg_of X G g1)) (all_cons (Iv.gl_int rfl (PySem.W.mg_of X G g2)) (all_cons (Iv.gl_int rfl (PySem.W.mg_of X G g3)) (all_cons (Iv.gl_int rfl (PySem.W.mg_of X G g4)) (all_cons (Iv.gl_str rfl (PySem.W.mg_of X G g5)) (all_cons (Iv.gl_int rfl (PySem.W.mg_of X G g6)) (all_cons (Iv.gl_int rfl (PySem.W.mg_of X G g7)) (all_cons (Iv.gl_tup (js := [(-1000000), (-1000000), 1000000, 1000000]) rfl (PySem.W.mg_of X G g8) gl8 gv8 (by decide)) (all_cons (Iv.gl_int rfl (PySem.W.mg_of X G g9)) (all_cons (Iv.gl_int rfl (PySem.W.mg_of X G g10)) (all_cons (Iv.gl_int rfl (PySem.W.mg_of X G g11)) all_nil))))))))))))
    · exact (all_cons (PySem.W.mg_none_of X G z0) (all_cons (PySem.W.mg_none_of X G z1) (all_cons (PySem.W.mg_none_of X G z2) (all_cons (PySem.W.mg_none_of X G z3) (all_cons (PySem.W.mg_none_of X G z4) (all_cons (PySem.W.mg_none_of X G z5) (all_cons (PySem.W.mg_none_of X G z6) (all_cons (PySem.W.mg_none_of X G z7) (all_cons (PySem.W.mg_none_of X G z8) (all_cons (PySem.W.mg_none_of X G z9) (all_cons (PySem.W.mg_none_of X G z10) (all_cons (PySem.W.mg_none_of X G z11) (all_cons (PySem.W.mg_none_of X G z12) (all_cons (PySem.W.mg_none_of X G z13) (all_cons (PySem.W.mg_none_of X G z14) (all_cons (PySem.W.mg_none_of X G z15) all_nil))))))))))))))))
    · exact (all_cons ⟨da0, PySem.W.mg_of X G d0, ds0, ⟨_, _, dl0, dk0⟩, (all_cons (Iv.kd_str dl0 dk0 de0_0) (all_cons (Iv.kd_str dl0 dk0 de0_1) (all_cons (Iv.kd_str dl0 dk0 de0_2) (all_cons (Iv.kd_str dl0 dk0 de0_3) (all_cons (Iv.kd_str dl0 dk0 de0_4) (all_cons (Iv.kd_str dl0 dk0 de0_5) (all_cons (Iv.kd_str dl0 dk0 de0_6) (all_cons (Iv.kd_str dl0 dk0 de0_7) (all_cons (Iv.kd_str dl0 dk0 de0_8) (all_cons (Iv.kd_str dl0 dk0 de0_9) (all_cons (Iv.kd_str dl0 dk0 de0_10) (all_cons (Iv.kd_str dl0 dk0 de0_11) (all_cons (Iv.kd_str dl0 dk0 de0_12) (all_cons (Iv.kd_str dl0 dk0 de0_13) all_nil))))))))))))))⟩ (all_cons ⟨da1, PySem.W.mg_of X G d1, ds1, ⟨_, _, dl1, dk1⟩, (all_cons (Iv.kd_tup (js := [(-999999999), 999999999]) dl1 dk1 de1_0 df1_0 dv1_0 (by decide)) (all_cons (Iv.kd_tup (js := [0, 1000000000]) dl1 dk1 de1_1 df1_1 dv1_1 (by decide)) (all_cons (Iv.kd_tup (js := [0, 8]) dl1 dk1 de1_2 df1_2 dv1_2 (by decide)) (all_cons (Iv.kd_tup (js := [1, 1000000000]) dl1 dk1 de1_3 df1_3 dv1_3 (by decide)) (all_cons (Iv.kd_tup (js := [(-1000), 1000]) dl1 dk1 de1_4 df1_4 dv1_4 (by decide)) all_nil)))))⟩ all_nil))
  exact ⟨_, fun s v => .of_eq rfl, fun base _ _ => Iv.all_ok rfl rfl H 30 34 t_law _ _ rfl m34 F34⟩
end Law
open PySem PySem.W PyProof.Rows
set_option maxHeartbeats 0 in
theorem PySem.Challenge.cw_landweave_k11_noise_by_itself_holds : PySem.Challenge.rw_landweave_k11_noise_by_itself.Holds := by
  w_on; o_law; k_head; (case hw => w_witness2)
  k_fill
  refine L2.walk_of (l := PySem.Challenge.rw_landweave_k11_noise_by_itself) (n := 63) (k := 30) (x := "_law_script") (CX := fun _ => L2.CX0) (sp := fun w => @Iv.spOf _ ⟨PySem.Challenge.rw_landweave_k11_noise_by_itself.prog, w⟩ Law.T 30 34) rfl (by decide) rfl ⟨rfl, by decide, by decide⟩ (fun w h Y => PySem.W.kIn_of Y) ?F (fun w H a ns hl _ hS => @Iv.sp_law _ ⟨PySem.Challenge.rw_landweave_k11_noise_by_itself.prog, w⟩ _ _ _ _ _ _ _ hS rfl (Law.law_true ns hl)) (fun _ _ _ _ _ h => h)
  case F =>
    intro w mg fa h KX G hmg
    refine' Law.all_mk KX G hmg ?q_a0 ?q_l0 ?q_c0 ?q_k0 ?q_a1 ?q_l1 ?q_c1 ?q_k1 ?q_a2 ?q_l2 ?q_c2 ?q_k2 ?q_a3 ?q_l3 ?q_c3 ?q_k3 ?q_a4 ?q_l4 ?q_c4 ?q_k4 ?q_a5 ?q_l5 ?q_c5 ?q_k5 ?q_a6 ?q_l6 ?q_c6 ?q_k6 ?q_a7 ?q_l7 ?q_c7 ?q_k7 ?q_a8 ?q_l8 ?q_c8 ?q_k8 ?q_a9 ?q_l9 ?q_c9 ?q_k9 ?q_a10 ?q_l10 ?q_c10 ?q_k10 ?q_a11 ?q_l11 ?q_c11 ?q_k11 ?q_a12 ?q_l12 ?q_c12 ?q_k12 ?q_a13 ?q_l13 ?q_c13 ?q_k13 ?q_a14 ?q_l14 ?q_c14 ?q_k14 ?q_a15 ?q_l15 ?q_c15 ?q_k15 ?q_a16 ?q_l16 ?q_c16 ?q_k16 ?q_a17 ?q_l17 ?q_c17 ?q_k17 ?q_a18 ?q_l18 ?q_c18 ?q_k18 ?q_a19 ?q_l19 ?q_c19 ?q_k19 ?q_a20 ?q_l20 ?q_c20 ?q_k20 ?q_a21 ?q_l21 ?q_c21 ?q_k21 ?q_a22 ?q_l22 ?q_c22 ?q_k22 ?q_a23 ?q_l23 ?q_c23 ?q_k23 ?q_a24 ?q_l24 ?q_c24 ?q_k24 ?q_a25 ?q_l25 ?q_c25 ?q_k25 ?q_a26 ?q_l26 ?q_c26 ?q_k26 ?q_a27 ?q_l27 ?q_c27 ?q_k27 ?q_a28 ?q_l28 ?q_c28 ?q_k28 ?q_a29 ?q_l29 ?q_c29 ?q_k29 ?q_a30 ?q_l30 ?q_c30 ?q_k30 ?q_a31 ?q_l31 ?q_c31 ?q_k31 ?q_a32 ?q_l32 ?q_c32 ?q_k32 ?q_a33 ?q_l33 ?q_c33 ?q_k33 ?q_a34 ?q_l34 ?q_c34 ?q_k34 ?q_g0 ?q_g1 ?q_g2 ?q_g3 ?q_g4 ?q_g5 ?q_g6 ?q_g7 ?q_g8 ?q_gl8 ?q_gv8 ?q_g9 ?q_g10 ?q_g11 ?q_d0 ?q_dl0 ?q_ds0 ?q_dk0 ?q_de0_0 ?q_de0_1 ?q_de0_2 ?q_de0_3 ?q_de0_4 ?q_de0_5 ?q_de0_6 ?q_de0_7 ?q_de0_8 ?q_de0_9 ?q_de0_10 ?q_de0_11 ?q_de0_12 ?q_de0_13 ?q_d1 ?q_dl1 ?q_ds1 ?q_dk1 ?q_de1_0 ?q_df1_0 ?q_dv1_0 ?q_de1_1 ?q_df1_1 ?q_dv1_1 ?q_de1_2 ?q_df1_2 ?q_dv1_2 ?q_de1_3 ?q_df1_3 ?q_dv1_3 ?q_de1_4 ?q_df1_4 ?q_dv1_4 ?q_z0 ?q_z1 ?q_z2 ?q_z3 ?q_z4 ?q_z5 ?q_z6 ?q_z7 ?q_z8 ?q_z9 ?q_z10 ?q_z11 ?q_z12 ?q_z13 ?q_z14 ?q_z15
    (case q_a0 => k_is)
    (case q_l0 => k_is)
    (case q_c0 => k_is)
    (case q_k0 => k_is)
    (case q_a1 => k_is)
    (case q_l1 => k_is)
    (case q_c1 => k_is)
    (case q_k1 => k_is)
    (case q_a2 => k_is)
    (case q_l2 => k_is)
    (case q_c2 => k_is)
    (case q_k2 => k_is)
    (case q_a3 => k_is)
    (case q_l3 => k_is)
    (case q_c3 => k_is)
    (case q_k3 => k_is)
    (case q_a4 => k_is)
    (case q_l4 => k_is)
    (case q_c4 => k_is)
    (case q_k4 => k_is)
    (case q_a5 => k_is)
    (case q_l5 => k_is)
    (case q_c5 => k_is)
    (case q_k5 => k_is)
    (case q_a6 => k_is)
    (case q_l6 => k_is)
    (case q_c6 => k_is)
    (case q_k6 => k_is)
    (case q_a7 => k_is)
    (case q_l7 => k_is)
    (case q_c7 => k_is)
    (case q_k7 => k_is)
    (case q_a8 => k_is)
    (case q_l8 => k_is)
    (case q_c8 => k_is)
    (case q_k8 => k_is)
    (case q_a9 => k_is)
    (case q_l9 => k_is)
    (case q_c9 => k_is)
    (case q_k9 => k_is)
    (case q_a10 => k_is)
    (case q_l10 => k_is)
    (case q_c10 => k_is)
    (case q_k10 => k_is)
    (case q_a11 => k_is)
    (case q_l11 => k_is)
    (case q_c11 => k_is)
    (case q_k11 => k_is)
    (case q_a12 => k_is)
    (case q_l12 => k_is)
    (case q_c12 => k_is)
    (case q_k12 => k_is)
    (case q_a13 => k_is)
    (case q_l13 => k_is)
    (case q_c13 => k_is)
    (case q_k13 => k_is)
    (case q_a14 => k_is)
    (case q_l14 => k_is)
    (case q_c14 => k_is)
    (case q_k14 => k_is)
    (case q_a15 => k_is)
    (case q_l15 => k_is)
    (case q_c15 => k_is)
    (case q_k15 => k_is)
    (case q_a16 => k_is)
    (case q_l16 => k_is)
    (case q_c16 => k_is)
    (case q_k16 => k_is)
    (case q_a17 => k_is)
    (case q_l17 => k_is)
    (case q_c17 => k_is)
    (case q_k17 => k_is)
    (case q_a18 => k_is)
    (case q_l18 => k_is)
    (case q_c18 => k_is)
    (case q_k18 => k_is)
    (case q_a19 => k_is)
    (case q_l19 => k_is)
    (case q_c19 => k_is)
    (case q_k19 => k_is)
    (case q_a20 => k_is)
    (case q_l20 => k_is)
    (case q_c20 => k_is)
    (case q_k20 => k_is)
    (case q_a21 => k_is)
    (case q_l21 => k_is)
    (case q_c21 => k_is)
    (case q_k21 => k_is)
    (case q_a22 => k_is)
    (case q_l22 => k_is)
    (case q_c22 => k_is)
    (case q_k22 => k_is)
    (case q_a23 => k_is)
    (case q_l23 => k_is)
    (case q_c23 => k_is)
    (case q_k23 => k_is)
    (case q_a24 => k_is)
    (case q_l24 => k_is)
    (case q_c24 => k_is)
    (case q_k24 => k_is)
    (case q_a25 => k_is)
    (case q_l25 => k_is)
    (case q_c25 => k_is)
    (case q_k25 => k_is)
    (case q_a26 => k_is)
    (case q_l26 => k_is)
    (case q_c26 => k_is)
    (case q_k26 => k_is)
    (case q_a27 => k_is)
    (case q_l27 => k_is)
    (case q_c27 => k_is)
    (case q_k27 => k_is)
    (case q_a28 => k_is)
    (case q_l28 => k_is)
    (case q_c28 => k_is)
    (case q_k28 => k_is)
    (case q_a29 => k_is)
    (case q_l29 => k_is)
    (case q_c29 => k_is)
    (case q_k29 => k_is)
    (case q_a30 => k_is)
    (case q_l30 => k_is)
    (case q_c30 => k_is)
    (case q_k30 => k_is)
    (case q_a31 => k_is)
    (case q_l31 => k_is)
    (case q_c31 => k_is)
    (case q_k31 => k_is)
    (case q_a32 => k_is)
    (case q_l32 => k_is)
    (case q_c32 => k_is)
    (case q_k32 => k_is)
    (case q_a33 => k_is)
    (case q_l33 => k_is)
    (case q_c33 => k_is)
    (case q_k33 => k_is)
    (case q_a34 => k_is)
    (case q_l34 => k_is)
    (case q_c34 => k_is)
    (case q_k34 => k_is)
    (case q_g0 => k_is)
    (case q_g1 => k_is)
    (case q_g2 => k_is)
    (case q_g3 => k_is)
    (case q_g4 => k_is)
    (case q_g5 => k_is)
    (case q_g6 => k_is)
    (case q_g7 => k_is)
    (case q_g8 => k_is)
    (case q_gl8 => k_is)
    (case q_gv8 => rfl)
    (case q_g9 => k_is)
    (case q_g10 => k_is)
    (case q_g11 => k_is)
    (case q_d0 => k_is)
    (case q_dl0 => k_is)
    (case q_ds0 => rfl)
    (case q_dk0 => exact ⟨⟨_, _, rfl, rfl⟩, ⟨⟨_, _, rfl, rfl⟩, ⟨⟨_, _, rfl, rfl⟩, ⟨⟨_, _, rfl, rfl⟩, ⟨⟨_, _, rfl, rfl⟩, ⟨⟨_, _, rfl, rfl⟩, ⟨⟨_, _, rfl, rfl⟩, ⟨⟨_, _, rfl, rfl⟩, ⟨⟨_, _, rfl, rfl⟩, ⟨⟨_, _, rfl, rfl⟩, ⟨⟨_, _, rfl, rfl⟩, ⟨⟨_, _, rfl, rfl⟩, ⟨⟨_, _, rfl, rfl⟩, ⟨⟨_, _, rfl, rfl⟩, trivial⟩⟩⟩⟩⟩⟩⟩⟩⟩⟩⟩⟩⟩⟩)
    (case q_de0_0 => k_is)
    (case q_de0_1 => k_is)
    (case q_de0_2 => k_is)
    (case q_de0_3 => k_is)
    (case q_de0_4 => k_is)
    (case q_de0_5 => k_is)
    (case q_de0_6 => k_is)
    (case q_de0_7 => k_is)
    (case q_de0_8 => k_is)
    (case q_de0_9 => k_is)
    (case q_de0_10 => k_is)
    (case q_de0_11 => k_is)
    (case q_de0_12 => k_is)
    (case q_de0_13 => k_is)
    (case q_d1 => k_is)
    (case q_dl1 => k_is)
    (case q_ds1 => rfl)
    (case q_dk1 => exact ⟨⟨_, _, rfl, rfl⟩, ⟨⟨_, _, rfl, rfl⟩, ⟨⟨_, _, rfl, rfl⟩, ⟨⟨_, _, rfl, rfl⟩, ⟨⟨_, _, rfl, rfl⟩, trivial⟩⟩⟩⟩⟩)
    (case q_de1_0 => k_is)
    (case q_df1_0 => k_is)
    (case q_dv1_0 => rfl)
    (case q_de1_1 => k_is)
    (case q_df1_1 => k_is)
    (case q_dv1_1 => rfl)
    (case q_de1_2 => k_is)
    (case q_df1_2 => k_is)
    (case q_dv1_2 => rfl)
    (case q_de1_3 => k_is)
    (case q_df1_3 => k_is)
    (case q_dv1_3 => rfl)
    (case q_de1_4 => k_is)
    (case q_df1_4 => k_is)
    (case q_dv1_4 => rfl)
    (case q_z0 => k_is)
    (case q_z1 => k_is)
    (case q_z2 => k_is)
    (case q_z3 => k_is)
    (case q_z4 => k_is)
    (case q_z5 => k_is)
    (case q_z6 => k_is)
    (case q_z7 => k_is)
    (case q_z8 => k_is)
    (case q_z9 => k_is)
    (case q_z10 => k_is)
    (case q_z11 => k_is)
    (case q_z12 => k_is)
    (case q_z13 => k_is)
    (case q_z14 => k_is)
    (case q_z15 => k_is)

