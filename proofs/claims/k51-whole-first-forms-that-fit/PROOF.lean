import PyProof.Rows.All
import Wide.All
import OpenK.AllK
import Wide.FinOn
import KE.GoesEnumKw
import HandS.ForMost
import HandS.Zip0
import HandS.Zip
import KE.GoesNew
import HandS.IsInst
import HandS.Defaults
import HandS.TupAny
import PySem.Challenge.RW_macroasm_k51_whole_first_forms_that_fit
import KE.KExcSuper
import KE.OsGo
import HandS.ForExc
import OpenK.KMeth
import KE.KStar
import HandS.MakeKwOnly
import HandS.Star
import HandS.ClsMeth
import PyProof.DictCompW
import HandS.DictComp
import PyProof.ReprRoads
import PyProof.Rows.RegFStrParts
import PyProof.StrOps2
import HandS.HeadEnd
import KE.KStateDown
import HandS.Head0
import HandS.Head1
import HandS.Head2
import HandS.HeadHook1
import HandS.HeadHook2
import HandS.HeadNt
set_option Elab.async false
set_option linter.all false
set_option maxRecDepth 100000
set_option maxHeartbeats 4000000
/-! zip(t, u, strict=True) of two tuples, as a for walks it. -/
namespace K51
open PySem PySem.Spec PyProof.Rows L2
abbrev IsZs (h : Heap) (z TI TO : Addr) (f0 : Value) : Prop :=
  h.get? z = some { cls := .type "zip", dict := none, data := .fields #[f0, .bool false, .bool true, .ref TI, .ref TO], slots := #[] }
section
variable {prog : Program} {w : World} {A : Around} {E : Value → Shared → Prop} {s : Shared}
theorem noe_item {it l : Addr} {i : Nat} {items} {x : Value} {Q : Option Value → Shared → Prop} (hit : s.heap.IsTupleIter it l i) (hl : s.heap.IsTuple l items) (hx : items[i]? = some x)
    (hQ : ∀ h', h'.IsTupleIter it l (i + 1) → Heap.SameBut it s.heap h' → Q (some x) { s with heap := h' }) : wpAny (model prog w) A (Builtin.SmallTypes.nextOrEnd (.ref it)) Q E s := by
  unfold Builtin.SmallTypes.nextOrEnd
  exact wpAny_bind (wpAny_attempt (RZ.nextOf_tuple_item hit hl hx fun h' k1 k2 => wpAny_pure (hQ h' k1 k2)))
theorem noe_end {it l : Addr} {i : Nat} {items} {Q : Option Value → Shared → Prop} (hh : A.handled = none) (hit : s.heap.IsTupleIter it l i) (hl : s.heap.IsTuple l items) (hx : items[i]? = none)
    (hQ : ∀ h', Heap.ExtBut it s.heap h' → Q none { s with heap := h' }) : wpAny (model prog w) A (Builtin.SmallTypes.nextOrEnd (.ref it)) Q E s := by
  unfold Builtin.SmallTypes.nextOrEnd
  refine wpAny_bind (wpAny_attempt (RZ.nextOf_tuple_end hh hit hl hx fun h' e k1 k2 => ?_))
  obtain ⟨o, ho, hc⟩ := k2
  refine wpAny_bind (wpAny_isInstance (T := "StopIteration") (b := true) ⟨o, ho, hc⟩ isSubtype_stop ?_)
  exact wpAny_pure (hQ h' k1)
/-- one turn -/
theorem zs_item {z TI TO i1 i2 l1 l2 : Addr} {k1 k2 : Nat} {xs ys : Array Value} {x y a b : Value} {Q : Value → Shared → Prop} (D : ZipApart z TI TO i1 i2 l1 l2)
    (hz : IsZs s.heap z TI TO .none) (hTI : IsPair s.heap TI (.ref i1) (.ref i2)) (hTO : IsPair s.heap TO a b)
    (h1 : s.heap.IsTupleIter i1 l1 k1) (h2 : s.heap.IsTupleIter i2 l2 k2) (hl1 : s.heap.IsTuple l1 xs) (hl2 : s.heap.IsTuple l2 ys) (hx : xs[k1]? = some x) (hy : ys[k2]? = some y)
    (hQ : ∀ h', IsZs h' z TI TO (rawInt s.heap.objs.size) → IsPair h' TO x y → h'.IsTupleIter i1 l1 (k1 + 1) → h'.IsTupleIter i2 l2 (k2 + 1) → IsPair h' s.heap.objs.size x y → h'.objs.size = s.heap.objs.size + 1 →
      (∀ c o, c ≠ z → c ≠ TO → c ≠ i1 → c ≠ i2 → s.heap.get? c = some o → h'.get? c = some o) → Q (.ref s.heap.objs.size) { s with heap := h' }) :
    wpAny (model prog w) A (Builtin.«zip.__next__» ⟨[.ref z], []⟩) (fun fin s' => ∃ v, fin = .done (.ret v) ∧ Q v s') E s := by
  show wpAny _ _ (field (.ref z) 2 >>= _) _ _ _
  refine wpAny_bind (wpAny_field hz rfl (x := .bool true) rfl ?_)
  show wpAny _ _ (field (.ref z) 3 >>= _) _ _ _
  refine wpAny_bind (wpAny_field hz rfl (x := .ref TI) rfl (wpAny_bind (wpAny_seqItems hTI rfl ?_)))
  show wpAny _ _ (Builtin.SmallTypes.ownedTupleIsFree (.ref z) >>= _) _ _ _
  refine wpAny_bind ?_
  unfold Builtin.SmallTypes.ownedTupleIsFree
  refine wpAny_bind (wpAny_field hz rfl (x := .none) rfl (wpAny_pure ?_))
  simp only [if_true]
  refine wpAny_bind (wpAny_rule (wpAny_bind (wpAny_field hz rfl (x := .ref TO) rfl ?_)))
  refine wpAny_bind (wpAny_setField_rec hz (by simp) fun g1 z1 s1 => ?_)
  replace z1 : IsZs g1 z TI TO .ellipsis := z1
  refine wpAny_bind ?_
  simp only [List.zipIdx_cons, List.zipIdx_nil, List.forIn_cons, List.forIn_nil]
  refine wpAny_bind (wpAny_bind (wpAny_onRaise ?_))
  show wpAny _ _ (Builtin.SmallTypes.nextOrEnd (.ref i1)) _ _ _
  refine noe_item (h1.extBut s1.extBut D.i1z) (hl1.extBut s1.extBut D.l1z) hx fun g2 it2 s2 => ?_
  have TO2 : IsPair g2 TO a b := s2.extBut _ _ D.TOi1 (s1.extBut _ _ D.TOz hTO)
  refine wpAny_bind (wpAny_seqItems TO2 rfl (wpAny_bind (wpAny_updateSeq_pair TO2 fun g3 TO3 s3 => ?_)))
  replace TO3 : IsPair g3 TO x b := TO3
  refine wpAny_bind (wpAny_letGo (wpAny_pure (wpAny_bind (wpAny_bind (wpAny_onRaise ?_)))))
  show wpAny _ _ (Builtin.SmallTypes.nextOrEnd (.ref i2)) _ _ _
  refine noe_item (((h2.extBut s1.extBut D.i2z).extBut s2.extBut D.i12.symm).extBut s3.extBut D.TOi2.symm) (((hl2.extBut s1.extBut D.l2z).extBut s2.extBut D.l2i1).extBut s3.extBut D.l2TO) hy fun g4 it4 s4 => ?_
  have TO4 : IsPair g4 TO x b := s4.extBut _ _ D.TOi2 TO3
  refine wpAny_bind (wpAny_seqItems TO4 rfl (wpAny_bind (wpAny_updateSeq_pair TO4 fun g5 TO5 s5 => ?_)))
  replace TO5 : IsPair g5 TO x y := TO5
  refine wpAny_bind (wpAny_letGo (wpAny_pure (wpAny_pure (wpAny_bind (wpAny_seqItems TO5 rfl (wpAny_bind (wpAny_newTuple ?_)))))))
  have sz : g5.objs.size = s.heap.objs.size := by rw [s5.1, s4.1, s3.1, s2.1, s1.1]
  have z5 : IsZs g5 z TI TO .ellipsis := s5.extBut _ _ D.TOz.symm (s4.extBut _ _ D.i2z.symm (s3.extBut _ _ D.TOz.symm (s2.extBut _ _ D.i1z.symm z1)))
  have kp : ∀ c o, c ≠ z → c ≠ TO → c ≠ i1 → c ≠ i2 → s.heap.get? c = some o → g5.get? c = some o := fun c o c1 c2 c3 c4 e =>
    s5.extBut _ _ c2 (s4.extBut _ _ c4 (s3.extBut _ _ c2 (s2.extBut _ _ c3 (s1.extBut _ _ c1 e))))
  have it1' : g5.IsTupleIter i1 l1 (k1 + 1) := ((it2.extBut s3.extBut D.TOi1.symm).extBut s4.extBut D.i12).extBut s5.extBut D.TOi1.symm
  have it2' : g5.IsTupleIter i2 l2 (k2 + 1) := it4.extBut s5.extBut D.TOi2.symm
  have zl : z < g5.objs.size := Heap.lt_size z5
  show wpAny _ _ (Builtin.SmallTypes.ownedTupleHandOut (.ref z) (.ref g5.objs.size) >>= _) _ _ _
  refine wpAny_bind ?_
  unfold Builtin.SmallTypes.ownedTupleHandOut
  have z6 : IsZs (g5.push { cls := .type "tuple", data := .seq #[x, y] }) z TI TO .ellipsis := Heap.get?_push_of_some _ z5
  refine wpAny_bind (wpAny_setField_rec z6 (by simp) fun g7 z7 s7 => ?_)
  replace z7 : IsZs g7 z TI TO (rawInt g5.objs.size) := z7
  refine wpAny_setField_rec z7 (by simp) fun g8 z8 s8 => ?_
  replace z8 : IsZs g8 z TI TO (rawInt g5.objs.size) := z8
  have up : ∀ c o, c ≠ z → g5.get? c = some o → g8.get? c = some o := fun c o c1 e => s8.extBut _ _ c1 (s7.extBut _ _ c1 (Heap.get?_push_of_some _ e))
  have T8 : IsPair g8 g5.objs.size x y := s8.extBut _ _ (Nat.ne_of_gt zl) (s7.extBut _ _ (Nat.ne_of_gt zl) (Heap.get?_push_size _ rfl))
  have sz8 : g8.objs.size = g5.objs.size + 1 := by rw [s8.1, s7.1, Heap.size_push]
  rw [sz] at z8 T8 sz8
  refine wpAny_pure ⟨_, rfl, ?_⟩
  show Q (.ref g5.objs.size) _
  rw [sz]
  exact hQ g8 z8 (up _ _ D.TOz TO5) (it1'.at fun o e => up _ o D.i1z e) (it2'.at fun o e => up _ o D.i2z e) T8 sz8 fun c o c1 c2 c3 c4 e => up c o c1 (kp c o c1 c2 c3 c4 e)
/-- both are at their end -/
theorem zs_end {z TI TO i1 i2 l1 l2 : Addr} {k1 k2 : Nat} {xs ys : Array Value} {a b : Value} {Q : Fin → Shared → Prop} (hh : A.handled = none) (D : ZipApart z TI TO i1 i2 l1 l2)
    (hz : IsZs s.heap z TI TO .none) (hTI : IsPair s.heap TI (.ref i1) (.ref i2)) (hTO : IsPair s.heap TO a b)
    (h1 : s.heap.IsTupleIter i1 l1 k1) (h2 : s.heap.IsTupleIter i2 l2 k2) (hl1 : s.heap.IsTuple l1 xs) (hl2 : s.heap.IsTuple l2 ys) (hx : xs[k1]? = none) (hy : ys[k2]? = none)
    (hE : ∀ h' e, (∀ c o, c ≠ z → c ≠ TO → c ≠ i1 → c ≠ i2 → s.heap.get? c = some o → h'.get? c = some o) → (∃ o, h'.get? e = some o ∧ o.cls = .type "StopIteration") → E (.ref e) { s with heap := h' }) :
    wpAny (model prog w) A (Builtin.«zip.__next__» ⟨[.ref z], []⟩) Q E s := by
  show wpAny _ _ (field (.ref z) 2 >>= _) _ _ _
  refine wpAny_bind (wpAny_field hz rfl (x := .bool true) rfl ?_)
  show wpAny _ _ (field (.ref z) 3 >>= _) _ _ _
  refine wpAny_bind (wpAny_field hz rfl (x := .ref TI) rfl (wpAny_bind (wpAny_seqItems hTI rfl ?_)))
  show wpAny _ _ (Builtin.SmallTypes.ownedTupleIsFree (.ref z) >>= _) _ _ _
  refine wpAny_bind ?_
  unfold Builtin.SmallTypes.ownedTupleIsFree
  refine wpAny_bind (wpAny_field hz rfl (x := .none) rfl (wpAny_pure ?_))
  simp only [if_true]
  refine wpAny_bind (wpAny_rule (wpAny_bind (wpAny_field hz rfl (x := .ref TO) rfl ?_)))
  refine wpAny_bind (wpAny_setField_rec hz (by simp) fun g1 z1 s1 => ?_)
  replace z1 : IsZs g1 z TI TO .ellipsis := z1
  refine wpAny_bind ?_
  simp only [List.zipIdx_cons, List.zipIdx_nil, List.forIn_cons, List.forIn_nil]
  refine wpAny_bind (wpAny_bind (wpAny_onRaise ?_))
  show wpAny _ _ (Builtin.SmallTypes.nextOrEnd (.ref i1)) _ _ _
  refine noe_end hh (h1.extBut s1.extBut D.i1z) (hl1.extBut s1.extBut D.l1z) hx fun g2 s2 => ?_
  have z2 : IsZs g2 z TI TO .ellipsis := s2 _ _ D.i1z.symm z1
  refine wpAny_bind (wpAny_setField_rec z2 (by simp) fun g3 z3 s3 => ?_)
  refine wpAny_bind (wpAny_bind ?_)
  show wpAny _ _ (bind (m := Sem) _ _) _ _ _
  refine wpAny_bind (wpAny_bind ?_)
  have it2 : g3.IsTupleIter i2 l2 k2 := (((h2.extBut s1.extBut D.i2z).at fun o e => s2 _ _ D.i12.symm e).extBut s3.extBut D.i2z)
  have tl2 : g3.IsTuple l2 ys := (((hl2.extBut s1.extBut D.l2z).at fun o e => s2 _ _ D.l2i1 e).extBut s3.extBut D.l2z)
  refine noe_end hh it2 tl2 hy fun g4 s4 => ?_
  refine PySem.W.KFB.if_not rfl (wpAny_pure (wpAny_pure (wpAny_bind (wpAny_rule ?_))))
  show wpAny _ _ (newExc (.type "StopIteration") [] >>= _) _ _ _
  refine wpAny_bind ?_
  simp only [newExc, newTuple]
  refine wpAny_bind (wpAny_newObj_type ?_ (by size_fits))
  refine wpAny_bind (m := firstArgMember _ _) (wpAny_of_eq (a := Value.none) (by first | rfl | (simp only [firstArgMember]; rfl)) ?_)
  refine wpAny_newObj_type ?_ (by size_fits)
  simp only [raiseNew]
  refine wpAny_bind (wpAny_handled ?_)
  rw [hh]
  refine wpAny_bind (wpAny_pure (wpAny_throw (hE _ _ (fun c o c1 c2 c3 c4 e => ?_) ⟨_, Heap.get?_push_size _ rfl, rfl⟩)))
  exact Heap.get?_push_of_some _ (Heap.get?_push_of_some _ (s4 _ _ c4 (s3.extBut _ _ c1 (s2 _ _ c3 (s1.extBut _ _ c1 e)))))
theorem zs_next_item {z TI TO i1 i2 l1 l2 : Addr} {k1 k2 : Nat} {xs ys : Array Value} {x y a b : Value} {Q : Option Value → Shared → Prop} (D : ZipApart z TI TO i1 i2 l1 l2)
    (hz : IsZs s.heap z TI TO .none) (hTI : IsPair s.heap TI (.ref i1) (.ref i2)) (hTO : IsPair s.heap TO a b)
    (h1 : s.heap.IsTupleIter i1 l1 k1) (h2 : s.heap.IsTupleIter i2 l2 k2) (hl1 : s.heap.IsTuple l1 xs) (hl2 : s.heap.IsTuple l2 ys) (hx : xs[k1]? = some x) (hy : ys[k2]? = some y)
    (hQ : ∀ h', IsZs h' z TI TO (rawInt s.heap.objs.size) → IsPair h' TO x y → h'.IsTupleIter i1 l1 (k1 + 1) → h'.IsTupleIter i2 l2 (k2 + 1) → IsPair h' s.heap.objs.size x y → h'.objs.size = s.heap.objs.size + 1 →
      (∀ c o, c ≠ z → c ≠ TO → c ≠ i1 → c ≠ i2 → s.heap.get? c = some o → h'.get? c = some o) → Q (some (.ref s.heap.objs.size)) { s with heap := h' }) :
    wpAny (model prog w) A (pyNext (.ref z)) Q E s := by
  have hT : s.TypeIs (.ref z) "zip" := ⟨_, hz, rfl⟩
  have body := zs_item (prog := prog) (w := w) (A := A.in1) (E := fun _ _ => False) (Q := fun v s' => wpAny (model prog w) A (pure (some v)) Q E s') D hz hTI hTO h1 h2 hl1 hl2 hx hy fun h' a1 a2 a3 a4 a5 a6 a7 => wpAny_pure (hQ h' a1 a2 a3 a4 a5 a6 a7)
  unfold pyNext
  exact wpAny_bind (wpAny_attempt (wpAny_callSpecial?_slot (name := Str.ofString "__next__") hT F.slot_zip_next (wpAny_call_entry F.slot_zip_next hT F.entry_zip_next
    (zs_item D hz hTI hTO h1 h2 hl1 hl2 hx hy fun h' a1 a2 a3 a4 a5 a6 a7 => wpAny_pure (hQ h' a1 a2 a3 a4 a5 a6 a7)) (F.args_zip_next_1 _))))
theorem zs_next_end {z TI TO i1 i2 l1 l2 : Addr} {k1 k2 : Nat} {xs ys : Array Value} {a b : Value} {Q : Option Value → Shared → Prop} (hh : A.handled = none) (D : ZipApart z TI TO i1 i2 l1 l2)
    (hz : IsZs s.heap z TI TO .none) (hTI : IsPair s.heap TI (.ref i1) (.ref i2)) (hTO : IsPair s.heap TO a b)
    (h1 : s.heap.IsTupleIter i1 l1 k1) (h2 : s.heap.IsTupleIter i2 l2 k2) (hl1 : s.heap.IsTuple l1 xs) (hl2 : s.heap.IsTuple l2 ys) (hx : xs[k1]? = none) (hy : ys[k2]? = none)
    (hQ : ∀ h', (∀ c o, c ≠ z → c ≠ TO → c ≠ i1 → c ≠ i2 → s.heap.get? c = some o → h'.get? c = some o) → Q none { s with heap := h' }) : wpAny (model prog w) A (pyNext (.ref z)) Q E s := by
  have hT : s.TypeIs (.ref z) "zip" := ⟨_, hz, rfl⟩
  unfold pyNext
  refine wpAny_bind (wpAny_attempt (wpAny_callSpecial?_slot (name := Str.ofString "__next__") hT F.slot_zip_next
    (wpAny_call_entry F.slot_zip_next hT F.entry_zip_next (zs_end hh D hz hTI hTO h1 h2 hl1 hl2 hx hy fun h' e hk he => ?_) (F.args_zip_next_1 _))))
  obtain ⟨o, ho, hc⟩ := he
  exact wpAny_bind (wpAny_isInstance (T := "StopIteration") (b := true) ⟨o, ho, hc⟩ isSubtype_stop (wpAny_pure (hQ _ hk)))
theorem zs_go {elts : List Expr} {x1} {pos : Pos} {z TI TO T : Addr} {Q : Unit → Shared → Prop} (hz : IsZs s.heap z TI TO (rawInt T))
    (hQ : ∀ h', IsZs h' z TI TO .none → Heap.SameBut z s.heap h' → Q () { s with heap := h' }) : wpAny (model prog w) A (letOwnedTupleGo (.Tuple elts x1 pos) (.ref z) (.ref T)) Q E s := by
  unfold letOwnedTupleGo
  refine wpAny_bind (wpAny_load hz ?_)
  show wpAny _ _ (if (["enumerate", "zip", "dict_itemiterator", "dict_reverseitemiterator", "odict_iterator", "itertools.zip_longest", "itertools.pairwise"].contains "zip" &&
      (#[rawInt T, .bool false, .bool true, .ref TI, .ref TO] : Array Value)[0]? == some (rawInt T)) = true then _ else _) Q E s
  rw [if_pos (by simp)]
  refine wpAny_bind (wpAny_rule ?_)
  show wpAny _ _ (setField (.ref z) 0 .none) Q E s
  exact wpAny_setField_rec hz (by simp) fun h' hz' hs' => hQ h' hz' hs'
theorem zs_iter {z TI TO : Addr} {f0 : Value} {Q : Value → Shared → Prop} (hz : IsZs s.heap z TI TO f0) (h : Q (.ref z) s) : wpAny (model prog w) A (pyIter (.ref z)) Q E s := by
  have hT : s.TypeIs (.ref z) "zip" := ⟨_, hz, rfl⟩
  refine wpAny_pyIter_slot hT F.slot_zip_iter (wpAny_call_entry F.slot_zip_iter hT F.entry_zip_iter ?_ (F.args_zip_iter_1 _))
  show wpAny _ _ (ret (.ref z)) _ _ s
  exact wpAny_pure ⟨_, rfl, "zip", _, hT, F.slot_zip_next.lookup, h⟩
end
/-! ### zip(t, u, strict=True) made -/
abbrev zsH5 (h : Heap) (l1 l2 : Addr) : Heap := (RZ.zipTH4 h l1 l2).push { cls := .type "zip", data := .fields #[.none, .bool false, .bool true, .ref (RZ.zipTH2 h l1 l2).objs.size, .ref (RZ.zipTH3 h l1 l2).objs.size] }
abbrev kwS : List (Str × Value) := [("strict", .bool true)]
theorem zs_new (l1 l2 : Addr) (xs ys : Array Value) :
    Meets (Builtin.«zip.__new__» ⟨[.type "zip", .ref l1, .ref l2], kwS⟩) (fun _ R s => s.heap.IsTuple l1 xs ∧ s.heap.IsTuple l2 ys ∧
      R (.ok (.ret (.ref (RZ.zipTH4 s.heap l1 l2).objs.size))) { s with heap := zsH5 s.heap l1 l2 }) :=
  .of_wp fun prog w A R s h => by
    obtain ⟨hp, g, d, tk, os⟩ := s; obtain ⟨hl1, hl2, h⟩ := h
    have hsub := sub_zip
    have e1 : (("strict" : Str) != ("strict" : Str)) = false := by decide +kernel
    have hL1 : Heap.IsTuple (Shared.heap ⟨hp, g, d, tk, os⟩) l1 xs := hl1
    have hL2 : Heap.IsTuple (Shared.heap ⟨hp.push { cls := .type "tuple_iterator", data := .fields #[.ref l1, .int 0 0] }, g, d, tk, os⟩) l2 ys := Heap.IsTuple.push hl2 _
    wp_walk using wpAny_pyIter_tuple hL1, wpAny_pyIter_tuple hL2
    exact ⟨_, rfl, h⟩
theorem zs_typeCall (a b : Value) : checkTypeCall "zip" ⟨[a, b], kwS⟩ = pure () := by kernel_rfl
theorem zs_newCall (a b : Value) : checkBuiltinCall "zip.__new__" ⟨[.type "zip", a, b], kwS⟩ = pure () := by kernel_rfl
theorem zs_init (o a b : Value) : argsOk "object.__init__" ⟨[o, a, b], kwS⟩ := by unfold argsOk; kernel_rfl
section
variable {prog : Program} {w : World} {A : Around} {E : Value → Shared → Prop} {s : Shared}
theorem zs_call {l1 l2 : Addr} {xs ys : Array Value} {Q : Value → Shared → Prop} (hl1 : s.heap.IsTuple l1 xs) (hl2 : s.heap.IsTuple l2 ys)
    (h : ∀ h', IsZs h' (s.heap.objs.size + 4) (s.heap.objs.size + 2) (s.heap.objs.size + 3) .none → IsPair h' (s.heap.objs.size + 2) (.ref s.heap.objs.size) (.ref (s.heap.objs.size + 1)) →
      IsPair h' (s.heap.objs.size + 3) .none .none → h'.IsTupleIter s.heap.objs.size l1 0 → h'.IsTupleIter (s.heap.objs.size + 1) l2 0 →
      (∀ c o, s.heap.get? c = some o → h'.get? c = some o) → Q (.ref (s.heap.objs.size + 4)) { s with heap := h' }) :
    wpAny (model prog w) A (call (.type "zip") [.ref l1, .ref l2] kwS) Q E s := by
  refine callType_newKw F.called_zip (by decide) (zs_typeCall _ _) (zs_newCall _ _) (fun obj => zs_init obj _ _) F.entry_zip_new (zs_new l1 l2 xs ys) ⟨hl1, hl2, ?_⟩
  have n1 : (RZ.zipTH1 s.heap l1).objs.size = s.heap.objs.size + 1 := Heap.size_push ..
  have n2 : (RZ.zipTH2 s.heap l1 l2).objs.size = s.heap.objs.size + 2 := by rw [Heap.size_push, n1]
  have n3 : (RZ.zipTH3 s.heap l1 l2).objs.size = s.heap.objs.size + 3 := by rw [Heap.size_push, n2]
  have n4 : (RZ.zipTH4 s.heap l1 l2).objs.size = s.heap.objs.size + 4 := by rw [Heap.size_push, n3]
  have q5 : (zsH5 s.heap l1 l2).get? (RZ.zipTH4 s.heap l1 l2).objs.size = some _ := Heap.get?_push_size _ rfl
  have q4 : (zsH5 s.heap l1 l2).get? (RZ.zipTH3 s.heap l1 l2).objs.size = some _ := Heap.get?_push_of_some _ (Heap.get?_push_size _ rfl)
  have q3 : (zsH5 s.heap l1 l2).get? (RZ.zipTH2 s.heap l1 l2).objs.size = some _ := Heap.get?_push_of_some _ (Heap.get?_push_of_some _ (Heap.get?_push_size _ rfl))
  have q2 : (zsH5 s.heap l1 l2).get? (RZ.zipTH1 s.heap l1).objs.size = some _ := Heap.get?_push_of_some _ (Heap.get?_push_of_some _ (Heap.get?_push_of_some _ (Heap.get?_push_size _ rfl)))
  have q1 : (zsH5 s.heap l1 l2).get? s.heap.objs.size = some _ := Heap.get?_push_of_some _ (Heap.get?_push_of_some _ (Heap.get?_push_of_some _ (Heap.get?_push_of_some _ (Heap.get?_push_size _ rfl))))
  show _ ∧ _
  rw [n2, n3, n4] at q5
  rw [n1, n2] at q3
  rw [n3] at q4
  rw [n1] at q2
  rw [n4]
  exact ⟨⟨_, q5, rfl⟩, h _ q5 q3 q4 ⟨_, q1, rfl, rfl⟩ ⟨_, q2, rfl, rfl⟩ fun c o x =>
    Heap.get?_push_of_some _ (Heap.get?_push_of_some _ (Heap.get?_push_of_some _ (Heap.get?_push_of_some _ (Heap.get?_push_of_some _ x))))⟩
end
/-! ### as the layer walks it -/
/-- the tuples at a and b, of one length -/
def Itzs (K : PySem.W.Frag) (a b : Addr) : It :=
  ⟨fun i H => ∃ (xs ys : List V) (x y : V), SqT K H a xs ∧ SqT K H b ys ∧ xs[i]? = some x ∧ ys[i]? = some y,
    fun i H v H' => ∃ T x y, v = .ref T ∧ H T = none ∧ H' = upd H T (.tup [x, y]) ∧ (∀ xs, SqT K H a xs → xs[i]? = some x) ∧ ∀ ys, SqT K H b ys → ys[i]? = some y,
    fun i H => ∃ xs ys : List V, SqT K H a xs ∧ SqT K H b ys ∧ xs.length ≤ i ∧ ys.length ≤ i⟩
theorem turn_zs {P : Program} {w : World} {K : PySem.W.Frag} {elts : List Expr} {kk : Nat} {tpos : Pos} {a b z TI TO i1 i2 : Addr} (D : ZipApart z TI TO i1 i2 a b) :
    Turn P w K (.Tuple elts kk tpos) (Itzs K a b) [z, TI, TO, i1, i2] z (fun i h => IsZs h z TI TO .none ∧ IsPair h TI (.ref i1) (.ref i2) ∧ (∃ x y, IsPair h TO x y) ∧ h.IsTupleIter i1 a i ∧ h.IsTupleIter i2 b i) := by
  have five : ∀ {c : Addr}, c ∈ [z, TI, TO, i1, i2] → c = z ∨ c = TI ∨ c = TO ∨ c = i1 ∨ c = i2 := fun hc => by simpa using hc
  refine ⟨by simp, ?_, ?_, ?_, ?_, fun A i s Q E st h => zs_iter st.1 h⟩
  · rintro i h ⟨hz, hTI, ⟨x, y, hTO⟩, ⟨o1, e1, _, d1⟩, ⟨o2, e2, _, d2⟩⟩ c hc
    rcases five hc with q | q | q | q | q
    · rw [q]; exact ⟨_, hz, fun v q => nomatch q⟩
    · rw [q]; exact ⟨_, hTI, fun v q => nomatch q⟩
    · rw [q]; exact ⟨_, hTO, fun v q => nomatch q⟩
    · rw [q]; exact ⟨o1, e1, fun v q => by rw [d1] at q; cases q⟩
    · rw [q]; exact ⟨o2, e2, fun v q => by rw [d2] at q; cases q⟩
  · rintro i h h' ⟨hz, hTI, ⟨x, y, hTO⟩, h1, h2⟩ k
    exact ⟨k z (by simp) _ hz, k TI (by simp) _ hTI, ⟨x, y, k TO (by simp) _ hTO⟩, h1.at fun o q => k i1 (by simp) o q, h2.at fun o q => k i2 (by simp) o q⟩
  · rintro X rfl rfl rfl hc i pins s σ H E I hf ⟨hz, hTI, ⟨x0, y0, hTO⟩, h1, h2⟩ ⟨xs, ys, x, y, hqx, hqy, hx, hy⟩
    obtain ⟨its, rv, p, _⟩ := I.tuple hqx
    obtain ⟨its2, rv2, p2, _⟩ := I.tuple hqy
    obtain ⟨u, hu, ru⟩ := rv.get hx
    obtain ⟨u2, hu2, ru2⟩ := rv2.get hy
    have hzl : z < s.heap.objs.size := Heap.lt_size hz
    refine zs_next_item D hz hTI hTO h1 h2 p p2 (x := u) (y := u2) (by simpa using hu) (by simpa using hu2) fun h' z' TO' h1' h2' hT hsz hk => ?_
    refine ⟨_, rfl, zs_go (s := { s with heap := h' }) z' fun h'' z'' sb => ?_⟩
    have hT2 : h''.get? s.heap.objs.size = some { cls := .type "tuple", data := .seq #[u, u2] } := (sb.2 _ (Nat.ne_of_gt hzl)).trans hT
    have new : ObjOk X.prog X.w (upd H s.heap.objs.size (.tup [x, y])) h'' s.heap.objs.size (.tup [x, y]) :=
      ⟨by show 2 ≤ sizeLine; decide, [u, u2], .cons ru (.cons ru2 .nil), ⟨_, hT2, rfl, _, rfl⟩⟩
    have I1 : Inv X pins σ (upd H s.heap.objs.size (.tup [x, y])) { s with heap := h'' } :=
      I.turnedNew (t' := s.toks) (ch := [z, TI, TO, i1, i2]) (fun c o hb q => (sb.2 c (fun q' => hb (by simp [q']))).trans (hk c o (fun q' => hb (by simp [q'])) (fun q' => hb (by simp [q'])) (fun q' => hb (by simp [q'])) (fun q' => hb (by simp [q'])) q)) hf (Nat.le_refl _) new
    refine ⟨.ref s.heap.objs.size, _, I1, rfl, ⟨_, x, y, rfl, I.hok.fresh (Nat.le_refl _), rfl, fun l hl => by rw [I.tuple_inj hl hqx]; exact hx, fun l hl => by rw [I.tuple_inj hl hqy]; exact hy⟩,
      ⟨z'', (sb.2 _ D.TIz).trans (hk _ _ D.TIz D.TITO D.TIi1 D.TIi2 hTI), ⟨u, u2, (sb.2 _ D.TOz).trans TO'⟩, h1'.at fun o q => (sb.2 _ D.i1z).trans q, h2'.at fun o q => (sb.2 _ D.i2z).trans q⟩, fun c hcm => ?_⟩
    have hlt : c < s.heap.objs.size := by
      rcases five hcm with q | q | q | q | q
      · rw [q]; exact hzl
      · rw [q]; exact Heap.lt_size hTI
      · rw [q]; exact Heap.lt_size hTO
      · rw [q]; obtain ⟨_, e1, _⟩ := h1; exact Heap.lt_size e1
      · rw [q]; obtain ⟨_, e2, _⟩ := h2; exact Heap.lt_size e2
    rw [upd_ne (Nat.ne_of_lt hlt)]
    exact (hf c hcm).1
  · rintro X rfl rfl rfl hc i pins s σ H E I hf ⟨hz, hTI, ⟨x0, y0, hTO⟩, h1, h2⟩ ⟨xs, ys, hqx, hqy, n1, n2⟩
    obtain ⟨its, rv, p, _⟩ := I.tuple hqx
    obtain ⟨its2, rv2, p2, _⟩ := I.tuple hqy
    have l1 := rv.length
    have l2 := rv2.length
    exact zs_next_end (I.ok.hd hc) D hz hTI hTO h1 h2 p p2 (by simp; omega) (by simp; omega) fun h' hk => ⟨rfl, I.turnedL (t' := s.toks) (ch := [z, TI, TO, i1, i2]) (fun c o hb q =>
      hk c o (fun q' => hb (by simp [q'])) (fun q' => hb (by simp [q'])) (fun q' => hb (by simp [q'])) (fun q' => hb (by simp [q'])) q) hf⟩
def iZs (K : PySem.W.Frag) (ta : TA) : TI := fun σ H R => ta σ H fun vs H1 => ∃ a b xs ys, vs = [.ref a, .ref b] ∧ SqT K H1 a xs ∧ SqT K H1 b ys ∧ R (Itzs K a b) H1
theorem pi_zs {X : Cx} {e e2 : Expr} {ta : TA} {p pos tpos p3 p4 : Pos} {elts : List Expr} {kk j : Nat} (hg : Gl X "zip") (hm : X.mg "zip" = none) (ha : PA X [e, e2] ta)
    (hs : starEach [e, e2] X.env = (false, eval e X.env) :: starEach [e2] X.env := by rfl) (hpl : ((backTo pos (starEach [e, e2] X.env)).any (·.1) || (backToKw pos (keywordEach [⟨some "strict", .Constant (.bool true) j p3, p4⟩] X.env)).any (·.1.isNone)) = false := by rfl)
    (hks : (backToKw pos (keywordEach [⟨some "strict", .Constant (.bool true) j p3, p4⟩] X.env)).filterMap (·.1) = [("strict" : Str)] := by rfl) (hall : (backToKw pos (keywordEach [⟨some "strict", .Constant (.bool true) j p3, p4⟩] X.env)).all (·.1.isSome) = true := by rfl) :
    PI X (.Tuple elts kk tpos) (.Call (.Name "zip" p) [e, e2] [⟨some "strict", .Constant (.bool true) j p3, p4⟩] pos) (iZs X.K ta) := by
  refine ⟨fun pins s σ H R I h => ?_⟩
  refine wpAny_Call_Name_kw (ld_blt I hg hm PyProof.Rows.boot_zip ?_)
  refine PySem.W.callWith_of (P := fun _ => True) hpl (fun h _ => ⟨.machine, .inr (.inl rfl), .now⟩) (evalArgs_kw2 hall (thn (ha.run pos pins s σ H _ I h) fun us s1 ⟨vs, H1, I1, r1, q1⟩ => ?_) hs)
  refine thn ((pk_cons (t := tNil) pe_bl pk_nil).run pos pins s1 σ H1 (fun zs H2 => zs = [.bl true] ∧ H2 = H1) I1 ⟨rfl, rfl⟩) fun ws s2 ⟨zs, H2, I2, rz, ez, eH⟩ => ⟨True.intro, ?_⟩
  subst ez eH
  rw [hks]
  obtain ⟨a, b, xs, ys, ex, hqx, hqy, q⟩ := q1
  subst ex
  obtain ⟨u, rfl, ru⟩ := vals1 rz
  obtain rfl : u = Value.bool true := ru
  obtain ⟨u1, u2, rfl, ra, rb⟩ := vals2 r1
  obtain rfl : u1 = Value.ref a := ra
  obtain rfl : u2 = Value.ref b := rb
  obtain ⟨its, rv, p1, _⟩ := I2.tuple hqx
  obtain ⟨its2, rv2, p2, _⟩ := I2.tuple hqy
  obtain ⟨o1, ho1, _⟩ := id p1
  obtain ⟨o2, ho2, _⟩ := id p2
  refine zs_call (show s2.heap.IsTuple a its.toArray from p1) (show s2.heap.IsTuple b its2.toArray from p2) fun h' hz hTI hTO h1 h2 hk => zs_iter hz ?_
  have I3 : Inv X pins σ H2 { s2 with heap := h' } := I2.kept (t' := s2.toks) hk
  refine ⟨s2.heap.objs.size + 4, [s2.heap.objs.size + 4, s2.heap.objs.size + 2, s2.heap.objs.size + 3, s2.heap.objs.size, s2.heap.objs.size + 1], _, _, H2, rfl, I3, turn_zs (PySem.W.ktu_apart s2.heap.objs.size a b (Heap.lt_size ho1) (Heap.lt_size ho2)), ⟨hz, hTI, ⟨_, _, hTO⟩, h1, h2⟩, fun c hcm => ?_, q⟩
  have e' : c = s2.heap.objs.size + 4 ∨ c = s2.heap.objs.size + 2 ∨ c = s2.heap.objs.size + 3 ∨ c = s2.heap.objs.size ∨ c = s2.heap.objs.size + 1 := by simpa using hcm
  have hle : s2.heap.objs.size ≤ c := by
    rcases e' with z | z | z | z | z <;> rw [z] <;> first | exact Nat.le_add_right _ _ | exact Nat.le_refl _
  exact I2.fpOk hle (I2.hok.fresh hle)
/-- a loop over it -/
theorem for_zs {K : PySem.W.Frag} {a b : Addr} {xs ys : List V} {g : TG} {tb : TS} {D : Ends} {σ : L2.St} {H : Hp} (hl : xs.length = ys.length) (Pv : Nat → L2.St → Hp → Prop) (h0 : Pv 0 σ H) (hq : ∀ i σ H, Pv i σ H → SqT K H a xs ∧ SqT K H b ys)
    (hs : ∀ i x y T σ H, xs[i]? = some x → ys[i]? = some y → Pv i σ H → H T = none → g (.ref T) σ (upd H T (.tup [x, y])) fun σ2 H2 => tb { D with nx := Pv (i + 1), ct := Pv (i + 1), bk := D.nx } σ2 H2) (hd : ∀ σ H, Pv xs.length σ H → D.nx σ H) :
    ∃ W : Nat → Nat → L2.St → Hp → Prop, (∃ m, W 0 m σ H) ∧ ∀ i m σ H, W i m σ H →
      ((Itzs K a b).stop i H ∧ D.nx σ H) ∨ ((Itzs K a b).go i H ∧ ∃ N : L2.St → Hp → Prop, (∀ σ' H', N σ' H' → ∃ m', m' < m ∧ W (i + 1) m' σ' H') ∧ ∀ x H', (Itzs K a b).yld i H x H' → g x σ H' fun σ2 H2 => tb { D with nx := N, ct := N, bk := D.nx } σ2 H2) := by
  refine ⟨fun i m σ H => m = xs.length - i ∧ i ≤ xs.length ∧ Pv i σ H, ⟨_, rfl, Nat.zero_le _, h0⟩, ?_⟩
  rintro i m σ H ⟨rfl, hi, pv⟩
  obtain ⟨k1, k2⟩ := hq i σ H pv
  by_cases hlt : i < xs.length
  · have hlt2 : i < ys.length := hl ▸ hlt
    refine .inr ⟨⟨xs, ys, xs[i], ys[i], k1, k2, List.getElem?_eq_getElem hlt, List.getElem?_eq_getElem hlt2⟩, Pv (i + 1), fun σ' H' q => ⟨xs.length - (i + 1), by omega, rfl, hlt, q⟩, ?_⟩
    rintro v H' ⟨T, x, y, rfl, hT, rfl, f1, f2⟩
    exact hs i x y T σ H (f1 xs k1) (f2 ys k2) pv hT
  · have e : i = xs.length := by omega
    subst e
    exact .inl ⟨⟨xs, ys, k1, k2, Nat.le_refl _, by omega⟩, hd σ H pv⟩
end K51
set_option Elab.async false
set_option linter.all false
set_option maxRecDepth 100000
set_option maxHeartbeats 4000000
/-! enumerate(t), t a tuple, as a for walks it. -/
namespace K51
open PySem PySem.Spec PyProof.Rows L2
theorem en_new (l : Addr) (items : Array Value) :
    Meets (Builtin.«enumerate.__new__» ⟨[.type "enumerate", .ref l], []⟩) (fun _ R s => s.heap.IsTuple l items ∧
      R (.ok (.ret (.ref (s.heap.push { cls := .type "tuple_iterator", data := .fields #[.ref l, .int 0 0] }).objs.size)))
        { s with heap := (s.heap.push { cls := .type "tuple_iterator", data := .fields #[.ref l, .int 0 0] }).push { cls := .type "enumerate", data := .fields #[.none, .bool false, .ref s.heap.objs.size, rawInt 0, .none, .none] } }) :=
  .of_wp fun prog w A R s h => by
    obtain ⟨hp, g, d, tk, os⟩ := s; obtain ⟨hl, h⟩ := h
    have hsub := sub_enumerate
    have hL : Heap.IsTuple (Shared.heap ⟨hp, g, d, tk, os⟩) l items := hl
    obtain ⟨o, ho, hc, n, hd⟩ := id hl
    wp_walk using AutoSeq1.wpAny_loadPart' ho, wpAny_pyIter_tuple hL
    refine wpAny_stack_any fun st => wpAny_pure ?_
    split
    · rename_i c _ _ _ _ _
      cases (c == Value.type "enumerate")
      · wp_walk using AutoSeq1.wpAny_loadPart' ho, wpAny_pyIter_tuple hL
        exact ⟨_, rfl, h⟩
      · wp_walk using AutoSeq1.wpAny_loadPart' ho, wpAny_pyIter_tuple hL
        exact ⟨_, rfl, h⟩
    · wp_walk using AutoSeq1.wpAny_loadPart' ho, wpAny_pyIter_tuple hL
      exact ⟨_, rfl, h⟩
section
variable {prog : Program} {w : World} {A : Around} {E : Value → Shared → Prop} {s : Shared}
theorem en_call {l : Addr} {items : Array Value} {Q : Value → Shared → Prop} (hL : s.heap.IsTuple l items)
    (h : ∀ h', IsEnum h' (s.heap.objs.size + 1) s.heap.objs.size 0 .none → h'.IsTupleIter s.heap.objs.size l 0 →
      (∀ b o, s.heap.get? b = some o → h'.get? b = some o) → Q (.ref (s.heap.objs.size + 1)) { s with heap := h' }) :
    wpAny (model prog w) A (call (.type "enumerate") [.ref l]) Q E s := by
  refine callType_new F.called_enumerate (by decide) (F.typeCall_enumerate_1 _) (F.newCall_enumerate_1 _) (fun obj => F.args_object_init_2 obj _) F.entry_enumerate_new (en_new l items) ⟨hL, ?_⟩
  have hz : (s.heap.push { cls := .type "tuple_iterator", data := .fields #[.ref l, .int 0 0] }).objs.size = s.heap.objs.size + 1 := Heap.size_push ..
  show _ ∧ _
  rw [hz]
  have he : IsEnum ((s.heap.push { cls := .type "tuple_iterator", data := .fields #[.ref l, .int 0 0] }).push { cls := .type "enumerate", data := .fields #[.none, .bool false, .ref s.heap.objs.size, rawInt 0, .none, .none] }) (s.heap.objs.size + 1) s.heap.objs.size 0 .none := by
    have q := Heap.get?_push_size (s.heap.push { cls := .type "tuple_iterator", data := .fields #[.ref l, .int 0 0] }) (o := { cls := .type "enumerate", data := .fields #[.none, .bool false, .ref s.heap.objs.size, rawInt 0, .none, .none] }) rfl
    rw [hz] at q
    exact q
  exact ⟨⟨_, he, rfl⟩, h _ he ⟨_, Heap.get?_push_of_some _ (Heap.get?_push_size _ rfl), rfl, rfl⟩ fun b o x => Heap.get?_push_of_some _ (Heap.get?_push_of_some _ x)⟩
end
/-- the tuple at a, each item in a new pair -/
def Iten (K : PySem.W.Frag) (a : Addr) : It :=
  ⟨fun i H => ∃ (xs : List V) (x : V), SqT K H a xs ∧ xs[i]? = some x, fun i H v H' => ∃ T x, v = .ref T ∧ H T = none ∧ H' = upd H T (.tup [.int (i : Nat), x]) ∧ ∀ xs, SqT K H a xs → xs[i]? = some x, fun i H => ∃ xs : List V, SqT K H a xs ∧ xs.length = i⟩
theorem turn_en {P : Program} {w : World} {K : PySem.W.Frag} {elts : List Expr} {kk : Nat} {tpos : Pos} (a e it : Addr) (hei : e ≠ it) (hae : a ≠ e) (hai : a ≠ it) :
    Turn P w K (.Tuple elts kk tpos) (Iten K a) [e, it] e (fun i h => (∃ old, IsEnum h e it (0 + (i : Int)) old) ∧ h.IsTupleIter it a i) := by
  have two : ∀ {b : Addr}, b ∈ [e, it] → b = e ∨ b = it := fun hb => by simpa using hb
  have G : ∀ (A : Around) (hh : A.handled = none) (items : Array Value), GoesN P w A (.Tuple elts kk tpos) e (e :: [it, a]) [e, it] items.size
      (fun i h₀ v h => ∃ T t x, v = .ref T ∧ h₀.objs.size ≤ T ∧ items[i]? = some x ∧ h.IsTuple T #[.int (0 + (i : Int)) t, x]) (fun i h => (∃ old, IsEnum h e it (0 + (i : Int)) old) ∧ (h.IsTupleIter it a i ∧ h.IsTuple a items)) :=
    fun A hh items => GoesN.enumFrom 0 (Draws.tuple (prog := P) (w := w) (A := A.in1) hh it a hai items) e hei (by simp [hei, Ne.symm hae]) (by simp)
  refine ⟨by simp, ?_, ?_, ?_, ?_, fun A i s Q E st h => let ⟨⟨_, he⟩, _⟩ := st; wpAny_pyIter_enum he h⟩
  · rintro i h ⟨⟨old, he⟩, o, ho, hc, hd⟩ b hb
    rcases two hb with z | z
    · rw [z]; exact ⟨_, he, fun v q => nomatch q⟩
    · rw [z]; exact ⟨o, ho, fun v q => by rw [hd] at q; cases q⟩
  · rintro i h h' ⟨⟨old, he⟩, hi⟩ k
    exact ⟨⟨old, k e (by simp) _ he⟩, hi.at fun o q => k it (by simp) o q⟩
  · rintro X rfl rfl rfl hc i pins s σ H E I hf ⟨he, hit⟩ ⟨xs, x, hq, hx⟩
    obtain ⟨its, rv, p, hz⟩ := I.tuple hq
    obtain ⟨u, hu, ru⟩ := rv.get hx
    have hlt : i < its.toArray.size := by
      have z := (List.getElem?_eq_some_iff.mp hu).1
      simpa using z
    have old : ∀ b ∈ [e, it], b < s.heap.objs.size := fun b hb => by
      rcases two hb with z | z
      · rw [z]; obtain ⟨_, q⟩ := he; exact Heap.lt_size q
      · rw [z]; obtain ⟨_, q, _⟩ := hit; exact Heap.lt_size q
    refine (G X.A (I.ok.hd hc) its.toArray).goes i s (fun v s2 => ∃ x H', Inv X pins σ H' s2 ∧ RelV x v ∧ (Iten X.K a).yld i H x H' ∧ ((∃ old, IsEnum s2.heap e it (0 + ((i + 1 : Nat) : Int)) old) ∧ s2.heap.IsTupleIter it a (i + 1)) ∧ ∀ b ∈ [e, it], H' b = none) E hlt ⟨he, hit, p⟩ ?_
    rintro v h' tk ⟨T, t, y, rfl, hT, hy, o, ho, hoc, n, hod⟩ ⟨e', it', _⟩ hk _
    have ey : u = y := by
      have z : its.toArray[i]? = some u := by simpa using hu
      rw [hy] at z
      exact (Option.some.inj z).symm
    subst ey
    have new : ObjOk X.prog X.w (upd H T (.tup [.int (i : Nat), x])) h' T (.tup [.int (i : Nat), x]) :=
      ⟨by show 2 ≤ sizeLine; decide, [.int (0 + (i : Int)) t, u], .cons ⟨t, by rw [Int.zero_add]⟩ (.cons ru .nil), ⟨o, ho, hoc, n, hod⟩⟩
    have I1 := I.turnedNew (t' := tk) (ch := [e, it]) hk hf hT new
    refine ⟨.ref T, _, I1, rfl, ⟨T, x, rfl, I.hok.fresh hT, rfl, fun ys hy => by rw [I.tuple_inj hy hq]; exact hx⟩, ⟨e', it'⟩, fun b hb => ?_⟩
    rw [upd_ne (Nat.ne_of_lt (Nat.lt_of_lt_of_le (old b hb) hT))]
    exact (hf b hb).1
  · rintro X rfl rfl rfl hc i pins s σ H E I hf ⟨he, hit⟩ ⟨xs, hq, hx⟩
    obtain ⟨its, rv, p, hz⟩ := I.tuple hq
    have hsz : its.toArray.size = i := by
      have l := rv.length
      simp
      omega
    subst hsz
    exact (G X.A (I.ok.hd hc) its.toArray).stops s _ E ⟨he, hit, p⟩ fun h' tk hk _ => I.turnedL (t' := tk) (ch := [e, it]) hk hf
def iEn (K : PySem.W.Frag) (ta : TA) : TI := fun σ H R => ta σ H fun vs H1 => ∃ a xs, vs = [.ref a] ∧ SqT K H1 a xs ∧ R (Iten K a) H1
theorem pi_en {X : Cx} {e : Expr} {ta : TA} {p pos tpos : Pos} {elts : List Expr} {kk : Nat} (hg : Gl X "enumerate") (hm : X.mg "enumerate" = none) (ha : PA X [e] ta) (hs : starEach [e] X.env = [(false, eval e X.env)] := by rfl) :
    PI X (.Tuple elts kk tpos) (.Call (.Name "enumerate" p) [e] [] pos) (iEn X.K ta) := by
  refine ⟨fun pins s σ H R I h => ?_⟩
  refine Call_ (ld_blt I hg hm PyProof.Rows.boot_enumerate (PyProof.Rows.callWith_type1 (thn (ha.run pos pins s σ H _ I h) fun us s1 ⟨vs, H1, I1, r1, q1⟩ => ?_) hs rfl))
  obtain ⟨a, xs, ex, hq, q⟩ := q1
  subst ex
  obtain ⟨u, rfl, ru⟩ := vals1 r1
  obtain rfl : u = Value.ref a := ru
  obtain ⟨its, rv, p', hz⟩ := I1.tuple hq
  obtain ⟨o1, ho1, _⟩ := id p'
  have la := Heap.lt_size ho1
  refine en_call (show s1.heap.IsTuple a its.toArray from p') fun h' he hit hk => wpAny_pyIter_enum he ?_
  have I2 : Inv X pins σ H1 { s1 with heap := h' } := I1.kept (t' := s1.toks) hk
  refine ⟨s1.heap.objs.size + 1, [s1.heap.objs.size + 1, s1.heap.objs.size], _, _, H1, rfl, I2, turn_en a (s1.heap.objs.size + 1) s1.heap.objs.size (Nat.succ_ne_self _) (Nat.ne_of_lt (Nat.lt_succ_of_lt la)) (Nat.ne_of_lt la), ⟨⟨.none, he⟩, hit⟩, fun b hb => ?_, q⟩
  have e' : b = s1.heap.objs.size + 1 ∨ b = s1.heap.objs.size := by simpa using hb
  have hle : s1.heap.objs.size ≤ b := by
    rcases e' with z | z <;> rw [z] <;> first | exact Nat.le_add_right _ _ | exact Nat.le_refl _
  exact I1.fpOk hle (I1.hok.fresh hle)
/-- a loop over it -/
theorem for_en {K : PySem.W.Frag} {a : Addr} {xs : List V} {g : TG} {tb : TS} {D : Ends} {σ : L2.St} {H : Hp} (Pv : Nat → L2.St → Hp → Prop) (h0 : Pv 0 σ H) (hq : ∀ i σ H, Pv i σ H → SqT K H a xs)
    (hs : ∀ i x T σ H, xs[i]? = some x → Pv i σ H → H T = none → g (.ref T) σ (upd H T (.tup [.int (i : Nat), x])) fun σ2 H2 => tb { D with nx := Pv (i + 1), ct := Pv (i + 1), bk := D.nx } σ2 H2) (hd : ∀ σ H, Pv xs.length σ H → D.nx σ H) :
    ∃ W : Nat → Nat → L2.St → Hp → Prop, (∃ m, W 0 m σ H) ∧ ∀ i m σ H, W i m σ H →
      ((Iten K a).stop i H ∧ D.nx σ H) ∨ ((Iten K a).go i H ∧ ∃ N : L2.St → Hp → Prop, (∀ σ' H', N σ' H' → ∃ m', m' < m ∧ W (i + 1) m' σ' H') ∧ ∀ x H', (Iten K a).yld i H x H' → g x σ H' fun σ2 H2 => tb { D with nx := N, ct := N, bk := D.nx } σ2 H2) := by
  refine ⟨fun i m σ H => m = xs.length - i ∧ i ≤ xs.length ∧ Pv i σ H, ⟨_, rfl, Nat.zero_le _, h0⟩, ?_⟩
  rintro i m σ H ⟨rfl, hi, pv⟩
  have k1 := hq i σ H pv
  by_cases hlt : i < xs.length
  · refine .inr ⟨⟨xs, xs[i], k1, List.getElem?_eq_getElem hlt⟩, Pv (i + 1), fun σ' H' q => ⟨xs.length - (i + 1), by omega, rfl, hlt, q⟩, ?_⟩
    rintro v H' ⟨T, x, rfl, hT, rfl, f1⟩
    exact hs i x T σ H (f1 xs k1) pv hT
  · have e : i = xs.length := by omega
    subst e
    exact .inl ⟨⟨xs, k1, rfl⟩, hd σ H pv⟩
end K51
set_option Elab.async false
set_option linter.all false
set_option maxRecDepth 100000
set_option maxHeartbeats 4000000
/-! the text by places, the facts a def wants, the data -/
namespace K51
open PySem PySem.Spec PyProof.Rows L2
/-! ### the text -/
def top (i : Nat) : Stmt := PySem.Challenge.pw_macroasm_k51_whole_first_forms_that_fit.main.body.getD i (.Pass ⟨0, 0, 0, 0⟩)
/-! ### facts -/
/-- the built-in names stay built-in -/
structure Tb (mg : Str → Option Value) : Prop where
  isi : mg "isinstance" = none
  int : mg "int" = none
  bool : mg "bool" = none
  str : mg "str" = none
  tuple : mg "tuple" = none
  len : mg "len" = none
  range : mg "range" = none
  enumerate : mg "enumerate" = none
  all : mg "all" = none
  any : mg "any" = none
  sum : mg "sum" = none
  list : mg "list" = none
  zip : mg "zip" = none
  max : mg "max" = none
  min : mg "min" = none
  repr : mg "repr" = none
  super : mg "super" = none
theorem bt_str : bootBuiltins "str" = some (.type "str") := by decide +kernel
theorem bt_int : bootBuiltins "int" = some (.type "int") := by decide +kernel
theorem bt_bool : bootBuiltins "bool" = some (.type "bool") := by decide +kernel
theorem bt_tuple : bootBuiltins "tuple" = some (.type "tuple") := by decide +kernel
theorem bt_list : bootBuiltins "list" = some (.type "list") := by decide +kernel
/-- a def of the top -/
def Df (K : PySem.W.Frag) (mg : Str → Option Value) (x : Str) (st : Stmt) : Prop := ∃ f fd, mg x = some (.ref f) ∧ FunD K x x (defArgs st) (defBody st) (defScope st) [] [] f fd
/-- its promise -/
def Pm (P : Program) (w : World) (K : PySem.W.Frag) (mg : Str → Option Value) (base : Heap) (x : Str) (k : Nat) (ps : List Str) (sp : Sp) : Prop :=
  ∃ f fd, mg x = some (.ref f) ∧ PySem.W.keepIn K (.ref f) = true ∧ FnOk P w K mg base CX0 k f fd ps sp ∧ Binds K fd ps []
section
variable {P : Program} {w : World} {K : PySem.W.Frag} {mg : Str → Option Value} {base : Heap} {x : Str} {st : Stmt} {N ps : List Str} {k : Nat} {sp : Sp}
theorem Pm.of (D : Df K mg x st) (S : FnScope N ps (defScope st)) (len : ∀ vs H Q E, sp vs H Q E → vs.length = ps.length)
    (hb : ∀ (kV doc pm : Value) (an : Option Addr) (cdv ct : Value) (us : List Value), us.length = ps.length → bindArgs (PySem.W.fnOf x x (defArgs st) (defBody st) (defScope st) .none kV doc pm an cdv ct) ⟨us, []⟩ = pure (ps.zip us))
    (body : ∀ (f : Addr) (cdv : Value) (A : Around) (outer : List Env) (s : Shared) (H : Hp) (vs : List V) (Q : VK) (E : XK), Room k (A.deeper (envOfC x (defScope st) s.heap.objs.size f cdv)) → sp vs H Q E →
      ∃ t, PSs (cxOf CX0 P w K mg base N x (defScope st) f cdv A outer s H E).nox (defBody st) t ∧ t { nx := fun _ H' => Q .non H', rt := Q } (start N vs) H) : Pm P w K mg base x (k + 1) ps sp := by
  obtain ⟨f, fd, hm, F⟩ := D
  refine ⟨f, fd, hm, F.kp, F.ok S len fun cdv A outer s H vs Q E hr h => ?_, F.bindsN hb⟩
  obtain ⟨t, h1, h2⟩ := body f cdv A outer s H vs Q E hr h
  exact ⟨t, PSs.nox h1, h2⟩
theorem Pm.mono {j : Nat} (p : Pm P w K mg base x j ps sp) (h : j ≤ k) : Pm P w K mg base x k ps sp := by
  obtain ⟨f, fd, h1, h2, h3, h4⟩ := p
  exact ⟨f, fd, h1, h2, h3.mono h, h4⟩
end
section
variable {X : Cx} {x : Str} {ps : List Str} {k : Nat} {sp : Sp} {p pos p2 : Pos} {e : Expr} {es : List Expr} {te : TE} {t : TA}
/-- f(e, ..), f a def with a promise -/
theorem pe_pm (F : Pm X.prog X.w X.K X.mg X.base x k ps sp) (hr : Room k X.A) (ha : PA X (e :: es) t) (hg : Gl X x := by rfl)
    (hdb : (x == ("__debug__" : Str)) = false := by decide) (he : starEach (e :: es) X.env = (false, eval e X.env) :: starEach es X.env := by rfl) (hpl : (backTo pos (starEach es X.env)).any (·.1) = false := by rfl) :
    PE X (.Call (.Name x p) (e :: es) [] pos) (tCall sp [] E0 t) := by
  obtain ⟨f, fd, h1, h2, h3, h4⟩ := F
  exact pe_call h3 hr hg h1 h2 h4 .nil pass0 ha hdb he hpl
/-- isinstance(e, T), T a built-in type -/
def tIsi (K : PySem.W.Frag) (n : String) (te : TE) : TE := fun σ H Q => te σ H fun v H1 => ∃ (t : String) (b : Bool), TyX K H1 v (.type t) ∧ kitB t n = some b ∧ Q (.bl b) H1
/-- what is to be shown behind the arguments -/
def isiK (K : PySem.W.Frag) (Q : VK) : List V → Hp → Prop
  | [v, .ty m], H1 => ∃ (t : String) (b : Bool), TyX K H1 v (.type t) ∧ kitB t m = some b ∧ Q (.bl b) H1
  | _, _ => False
theorem isiK_ok {K : PySem.W.Frag} {Q : VK} {vs : List V} {H1 : Hp} (h : isiK K Q vs H1) : ∃ (v : V) (m t : String) (b : Bool), vs = [v, .ty m] ∧ TyX K H1 v (.type t) ∧ kitB t m = some b ∧ Q (.bl b) H1 := by
  unfold isiK at h
  split at h
  · obtain ⟨t, b, h⟩ := h
    exact ⟨_, _, t, b, rfl, h⟩
  · exact h.elim
theorem pe_isi {n : String} (T : Tb X.mg) (hm : X.mg x = none) (hv : bootBuiltins x = some (.type n)) (he : PE X e te) (hg : Gl X "isinstance" := by rfl) (hgx : Gl X x := by rfl) (hn : x ≠ "__name__" := by decide) (hd : (x == ("__debug__" : Str)) = false := by decide)
    (he1 : starEach (e :: [.Name x p2]) X.env = (false, eval e X.env) :: starEach [.Name x p2] X.env := by rfl) (he2 : starEach (.Name x p2 :: []) X.env = (false, eval (.Name x p2) X.env) :: starEach [] X.env := by rfl)
    (hpl : (backTo pos (starEach [.Name x p2] X.env)).any (·.1) = false := by rfl) :
    PE X (.Call (.Name "isinstance" p) [e, .Name x p2] [] pos) (tIsi X.K n te) := by
  refine ⟨fun pins s σ H Q I h => ?_⟩
  have pa : PA X [e, .Name x p2] (tCons te (tCons (tC (.ty n)) tNil)) := pa_cons he (pa_cons (pe_bltn (v := .ty n) (pos := p2) hgx hm hv rfl hn hd) pa_nil he2) he1
  have q : wpAny (model X.prog X.w) X.A (spliced (backTo pos (starEach [e, .Name x p2] X.env))) (AP X pins σ (isiK X.K Q)) X.xe s := pa.run pos pins s σ H (isiK X.K Q) I h
  refine wpAny_Call_Name_kw (ld_blt I hg T.isi (show bootBuiltins "isinstance" = some (.builtin "isinstance") by decide +kernel) ?_)
  refine PyProof.Rows.callWith_builtin1 (thn q fun us s1 ⟨vs, H1, I1, r1, q1⟩ => ?_) he1 hpl
  obtain ⟨v, m, t, b, rfl, ty, hk, q2⟩ := isiK_ok q1
  exact call_isi pins s1 σ H1 _ us Q I1 r1 ⟨v, .ty m, .type t, .type m, b, rfl, .ty m, ty, kit_ty hk, q2⟩
end
/-! ### a comprehension, a loop whose turns leave everything as it was -/
section
variable {K : PySem.W.Frag} {a D : Addr} {xs ys : List V} {te : TE} {vs : List Nat} {j : Nat} {σ : L2.St} {H1 : Hp} {Qd : Hp → Prop}
theorem lc_pure (hD : H1 D = none) (hw : ∀ x, wipe ((wipe σ vs).set j (some x)) vs = wipe σ vs) (hl : ys.length = xs.length) (hz : xs.length < sizeLine) (ht : SqT K H1 a xs)
    (hs : ∀ (i : Nat) (x y : V) (H : Hp) (Q : VK), xs[i]? = some x → ys[i]? = some y → Same H1 H → (∀ H4, Same H H4 → Q y H4) → te ((wipe σ vs).set j (some x)) H Q)
    (hd : ∀ H, Same H1 H → H D = some (.lst ys) → Qd H) :
    ∃ W : Nat → Nat → Hp → Prop, (∃ m, W 0 m (upd H1 D (.lst []))) ∧ ∀ i m H, W i m H →
      ((Itt K a).stop i H ∧ Qd H) ∨ ((Itt K a).go i H ∧ ∃ Nx : Hp → Prop, (∀ H', Nx H' → ∃ m', m' < m ∧ W (i + 1) m' H') ∧ ∀ x H', (Itt K a).yld i H x H' → gName j x (wipe σ vs) H' fun σ2 H2 => wipe σ2 vs = wipe σ vs ∧ tYes σ2 H2 fun b H3 =>
        if b = true then te σ2 H3 fun y H4 => ∃ acc, H4 D = some (.lst acc) ∧ acc.length < sizeLine ∧ Nx (upd H4 D (.lst (acc ++ [y]))) else Nx H3) := by
  have s0 : ∀ H, Same H1 H → SqT K H a xs := fun H e => by
    rcases ht with (h | ⟨o, h⟩) | h
    · exact .inl (.inl (e _ _ h))
    · exact .inl (.inr ⟨o, e _ _ h⟩)
    · exact .inr h
  have sD : ∀ {H : Hp} {o : HO}, Same H1 H → Same H1 (upd H D o) := fun {H o} e b u q => by
    rw [upd_ne (ne_of_none q hD)]
    exact e b u q
  refine lc_tup (K := K) (a := a) (xs := xs) (fun i H => Same H1 H ∧ H D = some (.lst (ys.take i))) ⟨sD (Same.refl H1), upd_same⟩ (fun i H _ p => s0 H p.1) (fun i x H hx p => ?_) fun H p => ?_
  · obtain ⟨hi, _⟩ := List.getElem?_eq_some_iff.mp hx
    have hy : ys[i]? = some (ys[i]'(by omega)) := List.getElem?_eq_getElem (by omega)
    refine ⟨hw x, ?_⟩
    refine iteT (B := Same H1 H ∧ H D = some (.lst (ys.take (i + 1)))) ?_
    refine hs i x _ H _ hx hy p.1 fun H4 e4 => ⟨ys.take i, e4 _ _ p.2, ?_, sD (p.1.trans e4), ?_⟩
    · rw [List.length_take]
      omega
    · rw [upd_same, List.take_succ, hy]
      rfl
  · refine hd H p.1 ?_
    rw [← hl, List.take_length] at p
    exact p.2
end
end K51
set_option Elab.async false
set_option linter.all false
set_option maxRecDepth 100000
set_option maxHeartbeats 4000000
/-! match over written values -/
namespace K51
open PySem PySem.Spec PyProof.Rows L2
/-- the cases: each a written value and its block -/
def tCs (x : V) : List (V × TS) → TS
  | [] => fun D σ H => D.nx σ H
  | c :: cs => fun D σ H => scal x c.1 = true ∧ (if x = c.1 then c.2 D σ H else tCs x cs D σ H)
def tMatch (te : TE) (cs : List (V × TS)) : TS := fun D σ H => te σ H fun x H1 => tCs x cs D σ H1
/-- the cases of a match -/
inductive Cas (X : Cx) : List MatchCase → List (V × TS) → Prop
  | nil : Cas X [] []
  | cons {value : Expr} {pos : Pos} {body : List Stmt} {ms : List MatchCase} {c : V} {tb : TS} {cs : List (V × TS)} (hv : PE X value (tC c)) (hb : PSs X body tb) (t : Cas X ms cs) : Cas X (⟨.MatchValue value pos, none, body⟩ :: ms) ((c, tb) :: cs)
theorem cas_run {X : Cx} {x : V} {u : Value} (rx : RelV x u) : ∀ {ms : List MatchCase} {cs : List (V × TS)} (h : Cas X ms cs) (first : Bool) (pins : List (Addr × Obj)) (s : Shared) (σ : L2.St) (H : Hp) (D : Ends), L2.Inv X pins σ H s → tCs x cs D σ H →
    wpAny (model X.prog X.w) X.A (matchCases ms X.env u first) (SP X pins D) X.xe s
  | _, _, .nil, first, pins, s, σ, H, D, I, q => wpAny_matchCases_nil ⟨σ, H, I, q⟩
  | _, _, .cons (c := c) hv hb t, first, pins, s, σ, H, D, I, q => by
    obtain ⟨hsc, q⟩ := q
    refine wpAny_matchCases_cons (wpAny_matchPattern_Value (thn (hv.run pins s σ H (fun y H1 => y = c ∧ H1 = H) I ⟨rfl, rfl⟩) fun y s1 hy => ?_))
    obtain ⟨y', H1, I1, ry, ey, eH⟩ := hy
    subst ey
    subst eH
    refine thn (op_eq pins s1 σ H1 x y' u y (fun v H2 => v = .bl (decide (x = y')) ∧ H2 = H1) I1 rx ry ⟨hsc, rfl, rfl⟩) fun r s2 hr => ?_
    obtain ⟨v, H2, I2, rr, ev, eH⟩ := hr
    subst ev
    subst eH
    obtain rfl : r = Value.bool (decide (x = y')) := rr
    refine wpAny_truthy_bool ?_
    by_cases e : x = y'
    · rw [decide_eq_true e]
      rw [if_pos e] at q
      exact wpAny_assignInOrder_none (hb.run pins s2 σ H2 D I2 q)
    · rw [decide_eq_false e]
      rw [if_neg e] at q
      exact cas_run rx t false pins s2 σ H2 D I2 q
theorem ps_match {X : Cx} {e : Expr} {te : TE} {ms : List MatchCase} {cs : List (V × TS)} {pos : Pos} (he : PE X e te) (hc : Cas X ms cs) : PS X (.Match e ms pos) (tMatch te cs) := by
  refine ⟨fun pins s σ H D I h => ?_⟩
  refine wpAny_Match (thn (he.run pins s σ H _ I h) fun u s1 ⟨x, H1, I1, rx, q⟩ => ?_)
  exact cas_run rx hc true pins s1 σ H1 D I1 q
end K51
set_option Elab.async false
set_option linter.all false
set_option maxRecDepth 100000
set_option maxHeartbeats 4000000
/-! BadOperands: an error whose __init__ calls super().__init__ and stores a field -/
namespace K51
open PySem PySem.W PySem.Calls PyProof.Rows PySem.HandSPX
abbrev sBO : Stmt := L2.inClass (PySem.Challenge.pw_macroasm_k51_whole_first_forms_that_fit.main.body.getD 4 (.Pass ⟨0, 0, 0, 0⟩)) 0
/-- what the written part says of BadOperands, at C, and of its __init__, at fI -/
structure BoTxt (P : Program) (K : Frag) (mg : Str → Option Value) (C fI : Addr) : Prop where
  gC : mg "BadOperands" = some (.ref C)
  gS : mg "super" = none
  cls : ∃ nm q N bs bm sn sub ab col dd k0 k1 k2 k3 k5, K.lookup C = some (excClassObj nm q C N bs bm true sn sub ab col dd k0 k1 k2 k3 k5 "ValueError.__new__") ∧ refsVE bm = true
  sa : findIn K (.ref C) "__setattr__" = some (some (.builtin "object.__setattr__"))
  ga : findIn K (.ref C) "__getattribute__" = some (some (.builtin "BaseException.__getattribute__"))
  gg : findIn K (.ref C) "__getattr__" = some none
  noN : findIn K (.ref C) "index" = some none
  iC : findIn K (.ref C) "__init__" = some (some (.ref fI))
  tC : typeIn K (.ref fI) = some (.type "function")
  kC : keepIn K (.ref C) = true
  exC : subIn K (.ref C) (.type "BaseException") = some true
  tyC : typeIn K (.ref C) = some (.type "type")
  hdC : hasDictIn K C = true
  te : exmOne K (.ref C) (.ref C) = some true
  self : mroIn K C (.ref C) = some true
  sup : ks_superIn K C C "__init__" = some (some (.builtin "ValueError.__init__"))
  ve : subIn K (.ref C) (.type "ValueError") = some true
  opq : nsIn K cStatics "thirdparty.any" = some none
  fn : ∃ (oc : Value) (od : Option Addr) (doc pm : Value) (an : Option Addr) (cda cc : Addr) (ct : Value) (osl : Array (Option Value)) (oc2 : Value) (od2 : Option Addr) (vs : Array Value) (sl2 : Array (Option Value)) (file : Str) (tf : Tok) (oc3 : Value) (od3 : Option Addr) (sl3 : Array (Option Value)) (kV : Value),
    K.lookup fI = some ⟨oc, od, .func (ksFn "__init__" "BadOperands.__init__" (L2.defArgs sBO) (L2.defBody sBO) (L2.defScope sBO) .none kV doc pm an (.ref cda) ct cc), osl⟩ ∧ codeIn K (.ref cda) "BadOperands.__init__" = true ∧
    K.lookup cda = some ⟨oc2, od2, .fields vs, sl2⟩ ∧ vs[2]? = some (.str file tf) ∧ ((P.main.file : Str) == file) = true ∧ K.lookup cc = some ⟨oc3, od3, .cell (some (.ref C)), sl3⟩
  top : (P.main.scope.names.lookup ("super" : Str)).isSome = false
/-- what __init__ leaves of a fresh exception at x -/
structure InitEnd (h h' : Heap) (x C dx t1 : Addr) (v : Value) : Prop where
  keep : ∀ b o, b ≠ x → h.get? b = some o → h'.get? b = some o
  obj : h'.get? x = some { cls := .ref C, dict := some dx, data := .fields #[.ref t1, .none, .none, .none, .bool false, .none] }
  dbig : h.objs.size ≤ dx
  dne : dx ≠ x
  ns : h'.Ns1 dx (fun y => if y = "index" then some v else none)
theorem one_size (v : Value) : [v].length ≤ sizeLine := by
  rw [sizeLine_eq]
  exact (by decide : 1 ≤ 16777216)
section
variable {P : Program} {w : World} {A : Around} {E : Value → Shared → Prop} {R : Result → Shared → Prop} {s : Shared} {K : Frag} {mg mb : Str → Option Value} {C fI : Addr}
theorem bo_init (T : BoTxt P K mg C fI) {x t0 : Addr} {v : Value} (X : K.In s.heap) (hlim : s.heap.NoLimit) (hg : s.heap.Ns mainGlobals mg) (hb : s.heap.Ns builtinsNs mb) (hbb : ∀ x : Str, x ≠ "__name__" → mb x = bootBuiltins x)
    (hx : s.heap.get? x = some (excO C t0)) (hnx : K.lookup x = none) (hroom : A.depth < recursionLimit) (hq : ∀ h' tk dx t1, InitEnd s.heap h' x C dx t1 v → R (.ok (.ret .none)) { s with heap := h', toks := tk }) :
    codeAny (model P w) A (.call (.ref fI) ⟨[.ref x, v], []⟩) R s := by
  obtain ⟨oc, od, doc, pm, an, cda, cc, ct, osl, oc2, od2, vs, sl2, file, tf, oc3, od3, sl3, kV, ho, hcd, hcda, hvs, hfile, hcell⟩ := T.fn
  obtain ⟨nm, q, N, bs, bm, sn, sub, ab, col, dd, k0, k1, k2, k3, k5, hC, hbm⟩ := T.cls
  have hcl : clsIn K C = some { name := nm, bases := bs, mro := .ref C :: bm, ns := N, qualname := q, hasDict := true, slotNames := sn, subclasses := sub, abstract := ab, collection := col, hasDel := false } := by unfold clsIn; rw [hC] <;> rfl
  refine ks_codeAny_call_defAt (fd := ksFn "__init__" "BadOperands.__init__" (L2.defArgs sBO) (L2.defBody sBO) (L2.defScope sBO) .none kV doc pm an (.ref cda) ct cc) (body := L2.defBody sBO) (binds := [("self", .ref x), ("index", v)]) hroom (X _ _ ho) rfl hlim (codeRec_of X hcd) rfl (BindsTo.of_eq (by rfl)) (by show ∀ y ∈ (L2.defScope sBO).names, y.2 ≠ .cell; decide +kernel) (fun y hy => ?_) (fun h₁ hns hk => ?_)
  · rcases List.mem_cons.mp hy with rfl | hy
    · rfl
    · rw [List.mem_singleton] at hy
      subst hy
      rfl
  have X₁ : K.In h₁ := X.keeps hk
  have hx₁ := hk _ _ hx
  refine ks_wpAt_execs_cons (ks_wpAt_Expr_any (ks_wpAt_MethodCall ?_))
  have xne : x ≠ C := fun e => by
    have h0 := X _ _ hC
    rw [← e, hx] at h0
    cases h0
  have hlt : x < s.heap.objs.size := Heap.lt_size hx
  refine ks_wpAt_super_base (by rfl) (by rfl) (by decide) rfl (X₁ _ _ ho) rfl rfl rfl (X₁ _ _ hcda) rfl hvs hfile T.top ?_
  have hg₁ : h₁.Ns mainGlobals mg := let ⟨o, es, ep, e1, e2⟩ := hg; ⟨o, es, ep, hk _ _ e1, e2⟩
  have hb₁ : h₁.Ns builtinsNs mb := let ⟨o, es, ep, e1, e2⟩ := hb; ⟨o, es, ep, hk _ _ e1, e2⟩
  refine ks_loadName_global rfl (by rfl) (loadGlobal_builtin hg₁ T.gS hb₁ ((hbb _ (by decide)).trans (by decide +kernel : bootBuiltins "super" = some (.type "super"))) ⟨rfl, ?_⟩)
  refine wpAny_loadName_free rfl (by rfl) rfl ⟨_, X₁ _ _ hcell, rfl⟩ ?_
  refine wpAny_loadName_local rfl (by rfl) hns (v := .ref x) (by rfl) ?_
  refine ks_wpAny_isType_cls (X₁ _ _ hC) rfl ⟨rfl, ?_⟩
  refine ks_wpAny_call_super (X₁ _ _ hC) rfl hx₁ rfl (fun c e => by cases e) (looks_mroIn X₁ T.self) (fun h₂ e₂ k₂ => ?_)
  have X₂ : K.In h₂ := X₁.keeps k₂
  have hx₂ := k₂ _ _ hx₁
  have hal : alongIn K "__init__" (((Value.ref C :: bm).dropWhile (· != .ref C)).drop 1) = some (some (.builtin "ValueError.__init__")) := by
    have z := T.sup
    unfold ks_superIn at z
    rw [hcl] at z
    exact z
  have I₂ : InstAt h₂ x (excO C t0) C none := ⟨hx₂, rfl, rfl, trivial⟩
  have hinst : ∀ M : Model, Looks M h₂ (isInstance (.ref x) (.type "ValueError")) true := fun M => I₂.type.andThen (looks_subIn X₂ T.ve)
  refine kxs_getMethod kxs_ValueError e₂ (looks_opaque X₂ T.opq) (l₀ := .ref C :: bm) ?_ rfl X₂ hal (hinst _) xne (by decide) ?_
  · exact (looks_clsIn X₂ hcl).andThen .now
  have hu : ({ heap := h₂.push (kxs_mw "ValueError.__init__" x), gens := s.gens, drawn := s.drawn, toks := s.toks + [(Str.ofString "self", Value.ref x), (Str.ofString "index", v)].length + 1, os := s.os } : Shared).heap.get? h₂.objs.size = some (kxs_mw "ValueError.__init__" x) := Heap.get?_push_at rfl rfl
  have k₃ : ∀ b o, h₂.get? b = some o → (h₂.push (kxs_mw "ValueError.__init__" x)).get? b = some o := fun b o e => Heap.get?_push_of_some _ e
  refine kxs_callWith (i := "ValueError.__init__") (x := x) (u := h₂.objs.size) rfl ?_
  refine evalArgs_plain ?_
  refine Calls.spliced_cons ?_
  show wpAny _ _ (eval (.Constant (.str "wrong operands") 0 ⟨12, 25, 12, 41⟩) _) _ _ _
  refine Calls.Constant_str ?_
  refine Calls.spliced_nil ⟨hu, ?_⟩
  have X₃ := X₂.keeps k₃
  have hx₃ := k₃ _ _ hx₂
  have hC₃ := X₃ _ _ hC
  refine wpAny_call (codeAny_of_tree ?_)
  show wpAny _ _ (callAny (.ref h₂.objs.size) ⟨[.str "wrong operands" _], []⟩) _ _ _
  simp only [callAny]
  refine wpAny_bind (wpAny_load hu ?_)
  simp only [kxs_mw, show (Value.type "method-wrapper" == Value.type "method" || Value.type "method-wrapper" == Value.type "builtin_function_or_method" || Value.type "method-wrapper" == Value.type "method-wrapper") = true by decide, if_true]
  refine KFB.if_so (by decide) ?_
  refine wpAny_bind (check_bound_init F.excBase_ValueError.toExcCallFacts hC₃ hx₃ rfl ?_)
  refine wpAny_bind (wpAny_pure (wpAny_pure ?_))
  refine ⟨plainId_quiet F.excBase_ValueError.init.plain _, codeAny_builtin F.excBase_ValueError.initEntry ?_⟩
  refine exc_init_tree (cls := .ref C) (t0 := t0) (dv := none) (c2 := .none) (c3 := .none) (b4 := .bool false) hx₃ (one_size _) fun h₄ k₄ e₄ t₄ => ?_
  have x0 : s.heap.objs.size ≠ x := Nat.ne_of_gt hlt
  have kall : ∀ b o, b ≠ x → h₁.get? b = some o → h₄.get? b = some o := fun b o hb e => k₄ b o hb (k₃ b o (k₂ b o e))
  have X₄ : K.In h₄ := fun b o e => kall b o (fun z => by
    rw [z] at e
    rw [hnx] at e
    cases e) (X₁ b o e)
  have hns₄ : h₄.Ns s.heap.objs.size (fun y => ([("self", Value.ref x), ("index", v)] : List (Str × Value)).reverse.lookup y) := by
    obtain ⟨o, es, ep, e1, e2⟩ := hns
    exact ⟨o, es, ep, kall _ _ x0 e1, e2⟩
  refine ks_wpAt_execs_cons (ks_wpAt_Assign_Attr (wpAt_of_wpAny ?_))
  refine wpAny_Name (wpAny_loadName_local rfl (by rfl) hns₄ (v := v) (by rfl) ?_) (by decide)
  refine wpAny_Name (wpAny_loadName_local rfl (by rfl) hns₄ (v := .ref x) (by rfl) ?_) (by decide)
  refine set_plain X₄ (ox := excO C _) (od := none) ⟨e₄, rfl, rfl, trivial⟩ T.sa ?_
  refine exc_osa X₄ e₄ hcl (show refsVE (.ref C :: bm) = true from hbm) rfl T.noN (fun h₅ tk₅ dx k₅ dn dne hx₅ hn₅ => ?_)
  have z : s.heap.objs.size < h₄.objs.size := hns₄.lt
  exact wpAt_of_wpAny (wpAny_execs_nil (hq h₅ tk₅ dx _ ⟨fun b o hb e => k₅ b o hb (kall b o hb (hk b o e)), hx₅, Nat.le_of_lt (Nat.lt_of_lt_of_le z dn), dne, hn₅⟩))
/-- a made BadOperands: e the error, d its dict -/
structure OwnMade (h h' : Heap) (e C d : Addr) (v : Value) : Prop where
  keep : ∀ b o, h.get? b = some o → h'.get? b = some o
  new : h.objs.size ≤ e
  obj : ∃ oe vs, h'.get? e = some oe ∧ oe.cls = .ref C ∧ oe.dict = some d ∧ oe.data = .fields vs ∧ vs[1]? = some .none
  dbig : h.objs.size ≤ d
  dne : d ≠ e
  ns : h'.Ns1 d (fun y => if y = "index" then some v else none)
theorem bo_made (T : BoTxt P K mg C fI) {v : Value} (X : K.In s.heap) (hlim : s.heap.NoLimit) (hg : s.heap.Ns mainGlobals mg) (hb : s.heap.Ns builtinsNs mb) (hbb : ∀ x : Str, x ≠ "__name__" → mb x = bootBuiltins x) (hroom : A.depth + 1 < recursionLimit)
    (hq : ∀ h' tk e d, OwnMade s.heap h' e C d v → R (.ok (.ret (.ref e))) { s with heap := h', toks := tk }) : codeAny (model P w) A (.call (.ref C) ⟨[v], []⟩) R s := by
  obtain ⟨nm, q, N, bs, bm, sn, sub, ab, col, dd, k0, k1, k2, k3, k5, hC, hbm⟩ := T.cls
  obtain ⟨hp, g, dr, tk, os⟩ := s
  have k : ∀ b o, hp.get? b = some o → ((hp.push (kdv_tup [v])).push (excO C hp.objs.size)).get? b = some o := fun b o e => Heap.get?_push_of_some _ (Heap.get?_push_of_some _ e)
  have hget : ((hp.push (kdv_tup [v])).push (excO C hp.objs.size)).get? (hp.objs.size + 1) = some (excO C hp.objs.size) := by heap_get
  have hnx : K.lookup (hp.objs.size + 1) = none := by
    cases e : K.lookup (hp.objs.size + 1) with
    | none => rfl
    | some o => exact absurd (Nat.lt_of_succ_lt (Heap.lt_size (show hp.get? (hp.objs.size + 1) = some o from X _ _ e))) (Nat.lt_irrefl _)
  have nsk : ∀ {a : Addr} {m : Str → Option Value}, hp.Ns a m → ((hp.push (kdv_tup [v])).push (excO C hp.objs.size)).Ns a m := fun ⟨o, es, ep, e1, e2⟩ => ⟨o, es, ep, k _ _ e1, e2⟩
  refine call_own F.excBase_ValueError (fun X => refsVE_contains X bm hbm) (X _ _ hC) (looks_findIn X T.iC) (fun self => bind_fn X self T.tC) (one_size v) ?_
  refine bo_init (mb := mb) (s := ⟨(hp.push (kdv_tup [v])).push (excO C hp.objs.size), g, dr, tk, os⟩) T (X.keeps k) (hlim.keeps k) (nsk hg) (nsk hb) hbb hget hnx ?_ fun h' tk' dx t1 M => ?_
  · show A.depth + 1 < recursionLimit
    exact hroom
  · have old : ∀ b o, hp.get? b = some o → h'.get? b = some o := fun b o e => M.keep b o (Nat.ne_of_lt (Nat.lt_succ_of_lt (Heap.lt_size e))) (k b o e)
    have z : hp.objs.size + 1 + 1 ≤ dx := by
      have q := M.dbig
      first
        | (simpa only [Heap.size_push] using q)
        | exact q
    exact ⟨rfl, hq h' tk' (hp.objs.size + 1) dx ⟨old, Nat.le_succ _, ⟨_, _, M.obj, rfl, rfl, rfl, rfl⟩, Nat.le_trans (Nat.le_trans (Nat.le_succ _) (Nat.le_succ _)) z, M.dne, M.ns⟩⟩
end
end K51
namespace K51
open PySem PySem.Spec PyProof.Rows L2
theorem relO_ix {v : V} {v' : Value} (r : RelV v v') (f : Str) : RelO (List.lookup f [(("index" : Str), v)]) (if f = "index" then some v' else none) := by
  by_cases hw : f = "index"
  · subst hw
    rw [if_pos rfl]
    have q : List.lookup ("index" : Str) [(("index" : Str), v)] = some v := by simp [List.lookup]
    rw [q]
    exact r
  · rw [if_neg hw]
    have qw : (f == ("index" : Str)) = false := by simpa using hw
    have q2 : List.lookup f [(("index" : Str), v)] = none := by simp [List.lookup, qw]
    rw [q2]
    trivial
section
variable {X : Cx} {C fI : Addr}
/-- BadOperands(e) -/
def tMkBo (C : Addr) (ta : TA) : L2.St → Hp → XK → Prop := fun σ H Q => ta σ H fun vs H1 => ∃ v, vs = [v] ∧ ∀ d, H1 d = none → Q (.ref C) (some d) (upd H1 d (.xd [(("index" : Str), v)]))
theorem pmk_bo {a : Expr} {ta : TA} {p pos : Pos} {k : Nat} (T : BoTxt X.prog X.K X.mg C fI) (hr : Room k X.A) (ha : PA X [a] ta) (hg : Gl X "BadOperands" := by rfl)
    (he : starEach (a :: []) X.env = (false, eval a X.env) :: starEach [] X.env := by rfl) (hpl : (backTo pos (starEach [] X.env)).any (·.1) = false := by rfl) :
    PMk X (.Call (.Name "BadOperands" p) [a] [] pos) (tMkBo C ta) := by
  intro pins s σ H Q I h
  refine wpAny_Call_Name_kw (ld_glob I hg T.gC ?_)
  refine PySem.W.callWith_K (h₀ := X.base) I.ok.mod.kin T.kC (thn (ha.run pos pins s σ H _ I h) fun us s1 hh => ?_) he hpl
  obtain ⟨vs, H1, I1, r1, v, ev, q1⟩ := hh
  subst ev
  refine ⟨I1.kIn, ?_⟩
  cases r1 with
  | cons rv rn =>
    rename_i v' us'
    cases rn
    show wpAny _ _ (call (.ref C) [v']) _ _ _
    have hlim := I1.nolimit
    have hgl := I1.ok.mod.glob
    obtain ⟨mb, hbl, hbb⟩ := I1.ok.mod.blt
    have hbk := I1.bk
    obtain ⟨hp, g, dr, tk, os⟩ := s1
    have nsk : ∀ {a : Addr} {m : Str → Option Value}, X.base.Ns a m → hp.Ns a m := fun ⟨o, es, ep, e1, e2⟩ => ⟨o, es, ep, hbk _ _ e1, e2⟩
    refine wpAny_call (bo_made T I1.kIn hlim (nsk hgl) (nsk hbl) hbb (by have := hr.dp; omega) fun h' tk' e d M => ?_)
    show MkP X pins σ Q (.ref e) ⟨h', g, dr, tk', os⟩
    obtain ⟨oe, fv, hoe, hc, hd, hdat, h1⟩ := M.obj
    have hns := M.ns
    obtain ⟨G', g1, g2⟩ := restrict h' fun b => decide (b ≠ e)
    have gk : ∀ b, b ≠ e → G'.get? b = h'.get? b := fun b hb => g1 b (decide_eq_true hb)
    have ge : G'.get? e = none := g2 e (by simp)
    have old : ∀ b o, hp.get? b = some o → G'.get? b = some o := fun b o q => (gk b (Nat.ne_of_lt (Nat.lt_of_lt_of_le (Heap.lt_size q) M.new))).trans (M.keep b o q)
    have ob : ObjOk X.prog X.w (upd H1 d (.xd [(("index" : Str), v)])) G' d (.xd [(("index" : Str), v)]) :=
      ⟨_, hns.at (fun o q => (gk d M.dne).trans q), fun f => relO_ix rv f⟩
    have J : L2.Inv X pins σ (upd H1 d (.xd [(("index" : Str), v)])) ⟨G', g, dr, tk', os⟩ := I1.laid (t' := tk') old M.dbig ob
    refine ⟨e, oe, fv, ⟨G', g, dr, tk', os⟩, _, .ref C, some d, rfl, J, fun b o q => ?_, ge, hoe, ⟨hc, hd⟩, hdat, h1, ?_, rfl, I1.bare, raises_own T.exC T.tyC, q1 d (I1.hok.fresh M.dbig)⟩
    · by_cases hb : b = e
      · have q' : G'.get? b = some o := q
        rw [hb, ge] at q'; cases q'
      · exact (gk b hb).symm.trans q
    · rw [upd_ne (Ne.symm M.dne)]
      exact I1.hok.fresh M.new
/-- raise BadOperands(e) -/
def tRaiseBo (C : Addr) (W : WX) (ta : TA) : TS := fun _ σ H => tMkBo C ta σ H fun cls d H' => W cls d σ H'
theorem ps_raiseBo {a : Expr} {ta : TA} {W : WX} {p pos pos2 : Pos} {k : Nat} (hc : X.calm = true) (T : BoTxt X.prog X.K X.mg C fI) (hr : Room k X.A) (tk : Takes X W) (ha : PA X [a] ta) (hg : Gl X "BadOperands" := by rfl)
    (he : starEach (a :: []) X.env = (false, eval a X.env) :: starEach [] X.env := by rfl) (hpl : (backTo pos (starEach [] X.env)).any (·.1) = false := by rfl) :
    PS X (.Raise (some (.Call (.Name "BadOperands" p) [a] [] pos)) none pos2) (tRaiseBo C W ta) := ps_raise hc tk (pmk_bo T hr ha hg he hpl)
/-- e.index, e the exception that the suite holds -/
def tByIx (C : Addr) (a : Addr) (cls : Value) (d : Option Addr) (te : TE) : TE := fun σ H Q => te σ H fun x H1 => x = .ref a ∧ cls = .ref C ∧ ∃ (dd : Addr) (v : V), d = some dd ∧ H1 dd = some (.xd [(("index" : Str), v)]) ∧ Q v H1
theorem pe_byIx {a : Addr} {oe : Obj} {cls : Value} {d : Option Addr} {pn : List (Addr × Obj)} {e : Expr} {te : TE} {pos : Pos} (T : BoTxt X.prog X.K X.mg C fI) (hz : Zc cls d oe) (hf : ∃ vs, oe.data = .fields vs) (he : PE (X.suite a ((a, oe) :: pn)) e te)
    (hb : attributeBase e "index" X.env (eval e X.env) = eval e X.env := by rfl) :
    PE (X.suite a ((a, oe) :: pn)) (.Attribute e "index" pos) (tByIx C a cls d te) := by
  refine ⟨fun pins s σ H Q I h => ?_⟩
  refine attr_of hb (thn (he.run pins s σ H _ I h) fun u s1 hh => ?_)
  obtain ⟨x, H1, I1, rx, ex, ec, dd, v, ed, ea, q⟩ := hh
  subst ex
  obtain rfl : u = Value.ref a := rx
  subst ec
  subst ed
  obtain ⟨ha, _⟩ := I1.pin (a, oe) (List.mem_append_left _ List.mem_cons_self)
  obtain ⟨vs, hd⟩ := hf
  have hx : ObjOk X.prog X.w H1 s1.heap dd (.xd [(("index" : Str), v)]) := I1.hok dd _ ea
  obtain ⟨mA, hns, hr⟩ := hx
  obtain ⟨od, ho, hl⟩ := lookIn_ns hns
  have l : List.lookup ("index" : Str) [(("index" : Str), v)] = some v := by simp [List.lookup]
  obtain ⟨u, hu, ru⟩ := RelO.some_of (v := v) (o := mA "index") (by rw [← l]; exact hr "index")
  have J : PySem.W.InstAt s1.heap a oe C (some od) := ⟨ha, hz.1, by unfold PySem.W.notCls; rw [hd] <;> rfl, by rw [hz.2]; exact ho⟩
  exact HandSPX.exc_get I1.kIn J T.ga T.gg T.exC (PySem.W.findObj_own T.hdC T.noN rfl (by rw [hl, hu])) (handed_of ru) ⟨v, H1, I1.tok _, ru, q⟩
end
end K51
set_option Elab.async false
set_option linter.all false
set_option maxRecDepth 100000
set_option maxHeartbeats 4000000
/-! further calls: o[i] by an own __getitem__, o.m(.., k = v), cls(*t) -/
namespace K51
open PySem PySem.Spec PyProof.Rows L2
section
variable {X : Cx} {k : Nat} {C f : Addr} {fd : FuncData} {ps ks : List Str} {sp : Sp} {m x : Str} {o i e : Expr} {es : List Expr} {kws : List Keyword} {to ti ta te : TE} {t tk : TA} {p pos apos sp_ : Pos}
/-- what a class must have that its instances may be subscripted -/
structure SubO (K : PySem.W.Frag) (C f : Addr) : Prop where
  at_ : PySem.W.findIn K (.ref C) "__getitem__" = some (some (.ref f))
  fn : PySem.W.isFn K (.ref f) = true
  fi : PySem.W.fnIn K f = true
def tSubO (C : Addr) (sp : Sp) (to ti : TE) : TE := fun σ H Q => to σ H fun x H1 => ti σ H1 fun y H2 => ∃ a dx fs, x = V.ref a ∧ H2 a = some (.ins C dx fs) ∧ sp [x, y] H2 Q E0
theorem pe_subO (ho : PE X o to) (hi : PE X i ti) (c : SubO X.K C f) (F : L2.FnR X.prog X.w X.K X.mg X.base CX0 k f sp) (hr : Room (k + 1) X.A)
    (hsl : ∀ (a : Addr) (v : Value), subscripted i true (.ref a) v = runValue (.builtin "lifetime.subscript" ⟨[.ref a, v], []⟩) := by intro _ _; with_unfolding_all rfl) :
    PE X (.Subscript o i pos) (tSubO C sp to ti) := by
  refine ⟨fun pins s σ H Q I h => ?_⟩
  refine Subscript_ (thn (ho.run pins s σ H _ I h) fun u s1 ⟨y1, H1, I1, r1, q1⟩ => thn (hi.run pins s1 σ H1 _ I1 q1) fun v s2 ⟨y2, H2, I2, r2, a, dx, fs, ex, ea, q⟩ => ?_)
  subst ex
  obtain rfl : u = Value.ref a := r1
  obtain ⟨ox, od, J, _⟩ := StX.insC_at I2 (.inr ⟨dx, fs, ea⟩)
  obtain ⟨mm, fr⟩ := I2.fr
  refine PySem.W.sub_K fr I2.ok.mod.kin J c.at_ c.fi c.fn ?_ (hsl a v)
  refine wpAny_call (codeAny_mono (F X.A.in1 X.stack s2 H2 [.ref a, v] [.ref a, y2] Q E0 hr.in1 I2.env0.in1 (.cons rfl (.cons r2 .nil)) q) fun r s' hq => ?_)
  cases r with
  | error e => exact hq.elim
  | ok fl =>
    cases fl with
    | ret w => exact I2.after hq
    | next => exact False.elim hq
    | brk => exact False.elim hq
    | cont => exact False.elim hq
/-- o.m(e, .., k = v, ..) -/
def tMethK (C : Addr) (m : Str) (n nk : Nat) (sp : Sp) (gV : List V → List V → List V) (ta : TE) (t tk : TA) : TE := fun σ H Q => ta σ H fun x H1 => ∃ a dx fs, x = V.ref a ∧ H1 a = some (.ins C dx fs) ∧ fs.lookup m = none ∧
  t σ H1 fun vs H2 => tk σ H2 fun zs H3 => vs.length = n ∧ zs.length = nk ∧ sp (gV (V.ref a :: vs) zs) H3 Q E0
theorem pe_methK {n : Nat} {g : List Value → List Value → List Value} {gV : List V → List V → List V} {pl : Sem Bool} (he : PE X o ta) (c : Cls X.K C) (hm : Meth X.K C m f) (F : FnOk X.prog X.w X.K X.mg X.base CX0 k f fd ps sp) (hr : Room k X.A) (hb : KBn X.K fd ps (n + 1) ks g gV) (ha : PA X (e :: es) t) (hkw : PK X kws tk)
    (hall : (backToKw pos (keywordEach kws X.env)).all (·.1.isSome) = true := by rfl) (hks : (backToKw pos (keywordEach kws X.env)).filterMap (·.1) = ks := by rfl)
    (hst : starEach (e :: es) X.env = (false, eval e X.env) :: starEach es X.env := by rfl) (hpl : ((backTo pos (starEach (e :: es) X.env)).any (·.1) || (backToKw pos (keywordEach kws X.env)).any (·.1.isNone)) = false := by rfl)
    (ht : eval (.Call (.Attribute o m apos) (e :: es) kws pos) X.env = (do
      let ov ← eval o X.env
      standAt apos.atName
      let (f, first) ← holding [ov] (getMethod ov m pl)
      callWith pos f first (backTo pos (starEach (e :: es) X.env)) (backToKw pos (keywordEach kws X.env))) := by rfl) :
    PE X (.Call (.Attribute o m apos) (e :: es) kws pos) (tMethK C m n ks.length sp gV ta t tk) := by
  refine ⟨fun pins s σ H Q I h => ?_⟩
  refine PySem.W.methodCall_KW (pl := pl) (thn (he.run pins s σ H _ I h) fun u s1 ⟨x, H1, I1, rx, a, dx, fs, ex, ea, l, q⟩ => ?_) ht
  subst ex
  obtain rfl : u = Value.ref a := rx
  refine getmeth_ok I1 ea c hm l ?_
  refine PySem.W.callWith_KW (first := [.ref a]) (h₀ := X.base) I.ok.mod.kin hm.kp hall (thn (ha.run pos pins s1 σ H1 _ I1 q) fun us s2 ⟨vs, H2, I2, r, q2⟩ => ?_) hpl hst
  refine thn (hkw.run pos pins s2 σ H2 _ I2 q2) fun ws s3 ⟨zs, H3, I3, rz, l1, l2, q3⟩ => ⟨I3.kIn, ?_⟩
  rw [hks]
  have r1 : Vals (V.ref a :: vs) (Value.ref a :: us) := .cons rfl r
  have n1 : (Value.ref a :: us).length = n + 1 := by rw [List.length_cons, ← r.length, l1]
  refine wpAny_call (codeAny_mono (F.run X.A X.stack s3 H3 ⟨Value.ref a :: us, ks.zip ws⟩ (g (Value.ref a :: us) ws) _ Q E0 hr I3.env0 (hb.to _ _ ws I3.kIn n1 (rz.length.symm.trans l2)) (hb.rel r1 rz) q3) fun r s' hq => ?_)
  cases r with
  | error e => exact hq.elim
  | ok fl =>
    cases fl with
    | ret w => exact I3.after hq
    | next => exact False.elim hq
    | brk => exact False.elim hq
    | cont => exact False.elim hq
/-- cls(*t), cls a name that holds the class at C -/
def tClsS (K : PySem.W.Frag) (C : Addr) (sp : Sp) (tc te : TE) : TE := fun σ H Q => tc σ H fun y0 H1 => y0 = V.ref C ∧ te σ H1 fun y H2 => ∃ a xs, y = V.ref a ∧ SqT K H2 a xs ∧
  ∀ x dx, H2 x = none → H2 dx = none → dx ≠ x → sp (V.ref x :: xs) (upd (upd H2 dx (.own x)) x (.ins C dx [])) (fun v H3 => v = .non ∧ Q (.ref x) H3) E0
theorem pe_clsS {tc : TE} (hc : PE X (.Name x p) tc) (M : Mk X.K C f) (F : L2.FnR X.prog X.w X.K X.mg X.base CX0 k f sp) (hr : Room (k + 1) X.A) (he : PE X e te) (hst : starEach [.Starred e sp_] X.env = [(true, eval e X.env)] := by rfl) :
    PE X (.Call (.Name x p) [.Starred e sp_] [] pos) (tClsS X.K C sp tc te) := by
  refine ⟨fun pins s σ H Q I h => ?_⟩
  refine wpAny_Call_Name_kw (thn (hc.run pins s σ H _ I h) fun u s0 ⟨y0, H0, I0, r0, e0, q0⟩ => ?_)
  subst e0
  obtain rfl : u = Value.ref C := r0
  refine PySem.W.callWith_S (h₀ := X.base) I.ok.mod.kin M.kp (thn (he.run pins s0 σ H0 _ I0 q0) fun v s1 ⟨y, H1, I1, ry, a, xs, ey, hxs, q⟩ => ?_) hst
  subst ey
  obtain rfl : v = Value.ref a := ry
  exact StX.star_any I1 (.inl hxs) fun us s2 I2 rv => ⟨I2.kIn, StX.run_makeR M F hr pass0 I2 rv q⟩
end
end K51
set_option Elab.async false
set_option linter.all false
set_option maxRecDepth 100000
set_option maxHeartbeats 4000000
/-! an instance called, with a wish of what it may raise -/
namespace K51
open PySem PySem.Spec PyProof.Rows L2
section
variable {X : Cx} {CX : CXT} {k : Nat} {C g : Addr} {sp : Sp} {E : L2.St → XK} {e fe : Expr} {es : List Expr} {tf : TE} {t : TA} {pos : Pos}
/-- nothing is let out where nothing is wished -/
theorem passCX {P : Program} {w : World} : Passes (L2.CX P w) X E0 := fun _ _ _ _ _ _ _ h => by
  obtain ⟨_, _, _, _, _, _, _, _, _, _, _, _, z⟩ := h
  exact z.elim
def tCallOS (C : Addr) (sp : Sp) (E : L2.St → XK) (tf : TE) (t : TA) : TE := fun σ H Q => tf σ H fun y H1 => ∃ a, y = V.ref a ∧ t σ H1 fun vs H2 => (∃ dx fs, H2 a = some (.ins C dx fs)) ∧ sp (V.ref a :: vs) H2 Q (E σ)
theorem pe_callOS (hf : PE X fe tf) (c : StX.CallO X.K C g) (F : L2.FnR X.prog X.w X.K X.mg X.base CX k g sp) (hr : Room k X.A) (hx : ∀ σ, PassesAt CX X σ (E σ)) (ha : PA X (e :: es) t)
    (ht : eval (.Call fe (e :: es) [] pos) X.env = (do callWith pos (← eval fe X.env) [] (backTo pos (starEach (e :: es) X.env)) (backToKw pos (keywordEach [] X.env))) := by rfl)
    (he : starEach (e :: es) X.env = (false, eval e X.env) :: starEach es X.env := by rfl) (hpl : (backTo pos (starEach es X.env)).any (·.1) = false := by rfl) : PE X (.Call fe (e :: es) [] pos) (tCallOS C sp E tf t) := by
  refine ⟨fun pins s σ H Q I h => ?_⟩
  refine Call_ (thn (hf.run pins s σ H _ I h) fun u s1 ⟨y, H1, I1, ry, a, ey, q⟩ => ?_) ht
  subst ey
  obtain rfl : u = Value.ref a := ry
  refine StX.callO_with (thn (ha.run pos pins s1 σ H1 _ I1 q) fun us s2 ⟨vs, H2, I2, r, hi, q2⟩ => ?_) he hpl
  obtain ⟨ox, od, J, hd⟩ := StX.insC_at I2 (.inr hi)
  refine ⟨⟨C, ox, od, J, hd⟩, ?_⟩
  refine wpAny_call (PySem.W.kco_code I2.kIn J hd c.at_ c.fn c.fi (codeAny_mono (F X.A X.stack s2 H2 (.ref a :: us) (.ref a :: vs) Q (E σ) hr I2.env0 (.cons rfl r) q2) fun r s' hq => ?_))
  cases r with
  | error e => exact hx σ pins H2 s2 e s' I2 hq
  | ok fl =>
    cases fl with
    | ret w => exact I2.after hq
    | next => exact False.elim hq
    | brk => exact False.elim hq
    | cont => exact False.elim hq
end
end K51
set_option Elab.async false
set_option linter.all false
set_option maxRecDepth 100000
set_option maxHeartbeats 4000000
/-! {k: v for t in e for u in f}, the keys tuples -/
namespace K51
open PySem PySem.Spec PyProof.Rows L2
abbrev DC2 (ke ve a b a' b' : Expr) (c c' : List Expr) (sc : Scope) (p : Pos) : Expr := .DictComp ke ve [⟨a, b, c, 0⟩, ⟨a', b', c', 0⟩] sc p
section
variable {ke ve a b a' b' : Expr} {c c' : List Expr} {sc : Scope} {p : Pos} {it acc : Value} {dd : Addr} {env : Env}
theorem dturn_out : compTurn (DC2 ke ve a b a' b' c c' sc p) 0 it acc env = (do
    standAt b.pos
    match ← pyNext it with
    | none => pure (.done .next)
    | some v =>
      letOwnedTupleGo a it v
      assign a env v
      let mut ok := true
      for z in c do
        if ok then ok ← isTrue z env (eval z env)
      if ok then
        let x ← eval b' env
        standAt b'.pos
        let x ← foldedSetIterable b' env x
        let _ ← runOwn (.compStart (DC2 ke ve a b a' b' c c' sc p) 1 (← holding [x] (pyIter x)) acc env) env
      again (.compLoop (DC2 ke ve a b a' b' c c' sc p) 0 it acc env)) := by rfl
theorem dturn_in : compTurn (DC2 ke ve a b a' b' c c' sc p) 1 it (.ref dd) env = (do
    standAt b'.pos
    match ← pyNext it with
    | none => pure (.done .next)
    | some v =>
      letOwnedTupleGo a' it v
      assign a' env v
      let mut ok := true
      for z in c' do
        if ok then ok ← isTrue z env (eval z env)
      if ok then
        (do
          let kv ← eval ke env
          let vv ← holding [kv] (eval ve env)
          standAt { ke.pos with endLine := ve.pos.endLine, endCol := ve.pos.endCol }
          holding [kv, vv] (dictSet dd kv vv))
      again (.compLoop (DC2 ke ve a b a' b' c c' sc p) 1 it (.ref dd) env)) := by rfl
end
/-- where an error of the block goes -/
abbrev NB (P : Program) (w : World) (A : Around) (env : Env) (R : Result → Shared → Prop) : Value → Shared → Prop := notedBy (model P w) A env fun e s' => R (.error e) s'
abbrev Tests (c : List Expr) (env : Env) : Sem Bool := forIn c true fun z r => if r = true then do let ok ← isTrue z env (eval z env); pure (ForInStep.yield ok) else pure (ForInStep.yield r)
section
variable {P : Program} {w : World} {A : Around} {R : Result → Shared → Prop} {s : Shared} {ke ve a b a' b' : Expr} {c c' : List Expr} {sc : Scope} {p : Pos} {it acc : Value} {dd : Addr} {env : Env}
theorem dloop_out (hs : ∀ x, foldedSetIterable b' env x = pure x) (J : Nat → Shared → Prop)
    (turn : ∀ n s, J n s → wpAny (model P w) A (pyNext it) (fun r s1 => match r with
      | none => R (.ok .next) s1
      | some v => wpAny (model P w) A (letOwnedTupleGo a it v) (fun _ s2 => wpAny (model P w) A (assign a env v) (fun _ s3 => wpAny (model P w) A (Tests c env) (fun ok s4 =>
          if ok = true then wpAny (model P w) A (eval b' env) (fun x s5 => wpAny (model P w) A (pyIter x) (fun it1 s6 =>
            codeAny (model P w) A (.compStart (DC2 ke ve a b a' b' c c' sc p) 1 it1 acc env) (fun r s7 => match r with
              | .ok _ => ∃ m, m < n ∧ J m s7
              | .error _ => False) s6) (NB P w A env R) s5) (NB P w A env R) s4
          else ∃ m, m < n ∧ J m s4) (NB P w A env R) s3) (NB P w A env R) s2) (NB P w A env R) s1) (NB P w A env R) s)
    (n : Nat) (h : J n s) : codeAny (model P w) A (.compLoop (DC2 ke ve a b a' b' c c' sc p) 0 it acc env) R s := by
  refine codeAny_loop rfl J (fun n s hJ => ?_) n h
  show wpAny _ A ((compTurn (DC2 ke ve a b a' b' c c' sc p) 0 it acc env).onRaise (fun x => do noteFrame x env; theTreesLotGoes x)) _ _ s
  refine wpAny_noted ?_
  rw [dturn_out]
  refine wpAny_bind (wpAny_standAt (wpAny_bind (thn (turn n s hJ) fun r s1 h1 => ?_)))
  cases r with
  | none => exact wpAny_pure h1
  | some v =>
    refine wpAny_bind (thn h1 fun _ s2 h2 => ?_)
    refine wpAny_bind (thn h2 fun _ s3 h3 => wpAny_bind (thn h3 fun ok s4 h4 => ?_))
    cases ok with
    | false => exact wpAny_pure ⟨rfl, h4⟩
    | true =>
      refine wpAny_bind (thn h4 fun x s5 h5 => ?_)
      refine wpAny_bind (wpAny_standAt (wpAny_bind (wpAny_of_eq (hs x) (wpAny_bind (wpAny_holding (thn h5 fun it1 s6 h6 => ?_))))))
      refine wpAny_bind (wpAny_runOwn ?_)
      rw [Around.mark_none]
      refine codeAny_mono h6 fun r s7 hr => ?_
      cases r with
      | error e => exact hr.elim
      | ok f =>
        first
          | exact wpAny_pure ⟨rfl, hr⟩
          | exact wpAny_bind (wpAny_pure (wpAny_pure ⟨rfl, hr⟩))
theorem dloop_in (J : Nat → Shared → Prop)
    (turn : ∀ n s, J n s → wpAny (model P w) A (pyNext it) (fun r s1 => match r with
      | none => R (.ok .next) s1
      | some v => wpAny (model P w) A (letOwnedTupleGo a' it v) (fun _ s2 => wpAny (model P w) A (assign a' env v) (fun _ s3 => wpAny (model P w) A (Tests c' env) (fun ok s4 =>
          if ok = true then wpAny (model P w) A (eval ke env) (fun kv s5 => wpAny (model P w) A (eval ve env) (fun vv s6 =>
            wpAny (model P w) A (dictSet dd kv vv) (fun _ s7 => ∃ m, m < n ∧ J m s7) (NB P w A env R) s6) (NB P w A env R) s5) (NB P w A env R) s4
          else ∃ m, m < n ∧ J m s4) (NB P w A env R) s3) (NB P w A env R) s2) (NB P w A env R) s1) (NB P w A env R) s)
    (n : Nat) (h : J n s) : codeAny (model P w) A (.compLoop (DC2 ke ve a b a' b' c c' sc p) 1 it (.ref dd) env) R s := by
  refine codeAny_loop rfl J (fun n s hJ => ?_) n h
  show wpAny _ A ((compTurn (DC2 ke ve a b a' b' c c' sc p) 1 it (.ref dd) env).onRaise (fun x => do noteFrame x env; theTreesLotGoes x)) _ _ s
  refine wpAny_noted ?_
  rw [dturn_in]
  refine wpAny_bind (wpAny_standAt (wpAny_bind (thn (turn n s hJ) fun r s1 h1 => ?_)))
  cases r with
  | none => exact wpAny_pure h1
  | some v =>
    refine wpAny_bind (thn h1 fun _ s2 h2 => ?_)
    refine wpAny_bind (thn h2 fun _ s3 h3 => wpAny_bind (thn h3 fun ok s4 h4 => ?_))
    cases ok with
    | false => exact wpAny_pure ⟨rfl, h4⟩
    | true =>
      exact wpAny_bind (wpAny_bind (thn h4 fun kv s5 h5 => wpAny_bind (wpAny_holding (thn h5 fun vv s6 h6 => wpAny_bind (wpAny_standAt (wpAny_holding (thn h6 fun _ s7 h7 => wpAny_pure ⟨rfl, h7⟩)))))))
theorem dstart_in (h0 : codeAny (model P w) A (.compLoop (DC2 ke ve a b a' b' c c' sc p) 1 it acc env) R s)
    (h : wpAny (model P w) A (pyIter it) (fun it' s' => codeAny (model P w) A (.compLoop (DC2 ke ve a b a' b' c c' sc p) 1 it' acc env) R s') (NB P w A env R) s) :
    codeAny (model P w) A (.compStart (DC2 ke ve a b a' b' c c' sc p) 1 it acc env) R s := by
  refine codeAny_of_tree ?_
  show wpAny _ _ ((compStart (DC2 ke ve a b a' b' c c' sc p) 1 it acc env).onRaise (fun x => do noteFrame x env; standAt theWindowsPlace)) _ _ s
  refine wpAny_notedAt ?_
  unfold compStart
  show wpAny _ _ (ask >>= _) _ _ s
  refine wpAny_bind (wpAny_askSetting (wpAny_ite ?_))
  split
  · first
      | exact wpAny_bind (wpAny_pure (wpAny_pure ⟨rfl, h0⟩))
      | exact wpAny_pure ⟨rfl, h0⟩
  · first
      | exact wpAny_bind (wpAny_rule (wpAny_bind (wpAny_standAt (wpAny_bind (thn h fun it' s' h' => wpAny_pure ⟨rfl, h'⟩)))))
      | (refine wpAny_bind (wpAny_rule ?_); show wpAny _ _ (standAt b'.pos >>= _) _ _ s; exact wpAny_bind (wpAny_standAt (wpAny_bind (thn h fun it' s' h' => wpAny_pure ⟨rfl, h'⟩))))
end
/-- d[k] = v, k a tuple -/
theorem dset_tup {X : Cx} {pins : List (Addr × Obj)} {σ : L2.St} {H : Hp} {s : Shared} {E : Value → Shared → Prop} {D q : Addr} {kvs : List (List Key × V)} {k : List Key} {v : V} {r : Value} {Q : Unit → Shared → Prop} (hu : X.A.units < cLine) (I : L2.Inv X pins σ H s) (hD : H D = some (.dT kvs)) (hz : kvs.length < sizeLine)
    (hk : H q = some (.tup (k.map kV))) (rv : RelV v r) (h : ∀ s', L2.Inv X pins σ (upd H D (.dT (putK kvs k v))) s' → Q () s') : wpAny (model X.prog X.w) X.A (dictSet D (.ref q) r) Q E s := by
  obtain ⟨z, hd, xs, rel, dd⟩ := dt_of I.hok hD
  have h1 : xs.length ≤ sizeLine := by rw [← Paired.length rel]; exact z
  have h2 : (putK kvs k v).length ≤ sizeLine := by have := length_putK kvs k v; omega
  refine wpAny_dictSet_heap (hsz := h1) (knd := tupleKind (mixKind X.prog X.w)) hu (key_of I.hok hk) dd fun h' dd' hs => h _ ?_
  obtain ⟨o, es, ep, g1, g2, g3, g4, _, g5⟩ := dd'
  refine d_write I (by rw [hD]; exact True.intro) hs ⟨o, g1⟩ ⟨h2, hd, _, (rel.put k hk rv).keeps fun x ys ex => ?_, o, es, ep, g1, g2, g3, g4, g5⟩
  rw [upd_ne (ne_of ex hD (fun z => nomatch z))]
  exact ex
/-- the reading: behind the first clause's store the second source's own loop, from which Nx is reached -/
def tDc2 (wi : TI) (g : TG) (wi1 : TI) (g1 : TG) (tk tv : TE) (vs vs1 : List Nat) : TE := fun σ H Q => wi σ H fun J H1 => ∀ D, H1 D = none → ∃ W : Nat → Nat → Hp → Prop, (∃ m, W 0 m (upd H1 D (.dT []))) ∧ ∀ i m H, W i m H →
  (J.stop i H ∧ Q (.ref D) H) ∨ (J.go i H ∧ ∃ Nx : Hp → Prop, (∀ H', Nx H' → ∃ m', m' < m ∧ W (i + 1) m' H') ∧ ∀ x H', J.yld i H x H' → g x (wipe σ vs) H' fun σ2 H2 => wipe σ2 vs = wipe σ vs ∧
    wi1 σ2 H2 fun J1 H4 => ∃ W1 : Nat → Nat → Hp → Prop, (∃ m, W1 0 m H4) ∧ ∀ j k H, W1 j k H →
      (J1.stop j H ∧ Nx H) ∨ (J1.go j H ∧ ∃ Nx1 : Hp → Prop, (∀ H', Nx1 H' → ∃ k', k' < k ∧ W1 (j + 1) k' H') ∧ ∀ x H', J1.yld j H x H' → g1 x (wipe σ2 vs1) H' fun σ3 H5 => wipe σ3 vs1 = wipe σ2 vs1 ∧
        tk σ3 H5 fun y H6 => tv σ3 H6 fun z H7 => ∃ q kvs k, y = .ref q ∧ H7 q = some (.tup (k.map kV)) ∧ H7 D = some (.dT kvs) ∧ kvs.length < sizeLine ∧ Nx1 (upd H7 D (.dT (putK kvs k z)))))
section
variable {X : Cx} {ke ve a b a' b' : Expr} {scope : Scope} {own : List (Str × Nat)} {vs1 : List Nat} {pos pos' : Pos} {wi wi1 : TI} {g g1 : TG} {tk tv : TE}
/-- of the block: C its frame's place, cl its cells, fp what the walks hold -/
abbrev InBlk (X : Cx) (scope : Scope) (B : Cx → Prop) : Prop := ∀ (s : Shared) (H : Hp) (C : Addr) (cl : List (Str × Addr)) (fp : List Addr), B (X.blk s H scope (compEnvC scope cl C X.env) fp)
theorem dc2_core {pins : List (Addr × Obj)} {s : Shared} {σ : L2.St} {H : Hp} {Q : VK} {use : Option (Value → Sem Unit)} {Qf : Value → Shared → Prop} (hu : X.A.units < cLine)
    (hc : X.calm = true) (hN : X.N.Nodup) (I : L2.Inv X pins σ H s) (hi : PI X a b wi) (ok : BlkOk X.N X.env.scope scope own) (hv : ∀ i ∈ vs1, i ∈ own.map (·.2))
    (hg : InBlk X scope fun Y => PG Y a g) (hi1 : InBlk X scope fun Y => PI Y a' b' wi1) (hg1 : InBlk X scope fun Y => PG Y a' g1) (hk : InBlk X scope fun Y => PE Y ke tk) (he : InBlk X scope fun Y => PE Y ve tv)
    (hs : ∀ x, foldedSetIterable b X.env x = pure x) (hs1 : ∀ env x, foldedSetIterable b' env x = pure x) (h : tDc2 wi g wi1 g1 tk tv (own.map (·.2)) vs1 σ H Q)
    (hRR : ∀ D C s' m H', L2.Inv X pins σ H' s' → Q (.ref D) H' → s'.heap.Ns C m → FpOk X pins H' C → compPost (model X.prog X.w) X.A X.xe use Qf (.ref D) C (.ok .next) s') :
    wpAny (model X.prog X.w) X.A (comprehension (DC2 ke ve a b a' b' [] [] scope pos) scope X.env pos' newDict false (eval b X.env) use) Qf X.xe s := by
  have hfree : ∀ y ∈ scope.names, y.2 = .free → ∃ c, X.env.cells.lookup y.1 = some c := fun y hy e => (ok.free y hy e).elim (fun k => I.ok.has _ (.inl k)) fun k => I.ok.has _ (.inr k)
  refine wpAny_comprehension_free (use := use) rfl hs (closure_ok hfree) ok.kind (fun y hy e => by rw [ok.uniq y hy, e])
    (thn (hi.run pins s σ H _ I h) fun xv s1 hx => thn hx fun itv s2 h2 => ?_)
  obtain ⟨it, fp, tn, J, H2, rfl, I2, T, st2, f2, q⟩ := h2
  refine wpAny_newObj_type (newEnv_comp ?_)
  obtain ⟨D, hD⟩ : ∃ D, s2.heap.objs.size = D := ⟨_, rfl⟩
  rw [hD]
  have hDn : H2 D = none := I2.hok.fresh (Nat.le_of_eq hD)
  obtain ⟨W, ⟨m0, w0⟩, turn⟩ := q D hDn
  generalize hs3 : ({ s2 with heap := s2.heap.push { cls := .type "dict", data := .dict #[] } } : Shared) = s3
  have h3 : s3.heap = s2.heap.push { cls := .type "dict", data := .dict #[] } := by rw [← hs3]
  have big := I2.big
  have I3 : L2.Inv X pins σ (upd H2 D (.dT [])) s3 := by
    rw [← hs3]
    refine I2.laid (t' := s2.toks) (fun x o e => Heap.get?_push_of_some _ e) (Nat.le_of_eq hD) ?_
    rw [← hD]
    exact dt_empty s2.heap big
  have lt2 : ∀ x ∈ fp, x < s2.heap.objs.size := fun x hx => by
    obtain ⟨o, e, _⟩ := T.obj _ _ st2 x hx
    exact Heap.lt_size e
  have f3 : ∀ x ∈ fp, FpOk X pins (upd H2 D (.dT [])) x ∧ x < s3.heap.objs.size := fun x hx => by
    have hlt := lt2 x hx
    have ne : x ≠ D := by rw [← hD]; exact Nat.ne_of_lt hlt
    refine ⟨⟨by rw [upd_ne ne]; exact (f2 x hx).1, (f2 x hx).2⟩, ?_⟩
    rw [h3, Heap.size_push]
    exact Nat.lt_succ_of_lt hlt
  have st3 : tn 0 s3.heap := T.keep _ _ _ st2 fun x _ o e => by
    rw [h3]
    exact Heap.get?_push_of_some _ e
  have I4 := block_start I3 ok hN f3
  obtain ⟨H3, hH3⟩ : ∃ H3, upd H2 D (.dT []) = H3 := ⟨_, rfl⟩
  obtain ⟨cl, hcl⟩ : ∃ cl, cellsFrom (s3.heap.objs.size + 1) scope.names (cloFrom X.env.cells scope.names []) = cl := ⟨_, rfl⟩
  rw [hH3] at I3 f3 w0
  rw [hH3, hcl] at I4
  obtain ⟨ce, hce⟩ : ∃ ce, compEnvC scope cl s3.heap.objs.size X.env = ce := ⟨_, rfl⟩
  rw [hce] at I4
  have pg : PG (X.blk s3 H3 scope ce fp) a g := hce ▸ hg s3 H3 s3.heap.objs.size cl fp
  have pi1 : PI (X.blk s3 H3 scope ce fp) a' b' wi1 := hce ▸ hi1 s3 H3 s3.heap.objs.size cl fp
  have pg1 : PG (X.blk s3 H3 scope ce fp) a' g1 := hce ▸ hg1 s3 H3 s3.heap.objs.size cl fp
  have pk : PE (X.blk s3 H3 scope ce fp) ke tk := hce ▸ hk s3 H3 s3.heap.objs.size cl fp
  have pe : PE (X.blk s3 H3 scope ce fp) ve tv := hce ▸ he s3 H3 s3.heap.objs.size cl fp
  have cL : ce.locals = s3.heap.objs.size := by
    rw [← hce]
    rfl
  obtain ⟨s4, hs4⟩ : ∃ s4 : Shared, { s3 with heap := pushCells (s3.heap.push { cls := .type "dict", data := .dict #[] }) scope.names } = s4 := ⟨_, rfl⟩
  show codeAny _ _ (.compStart (DC2 ke ve a b a' b' [] [] scope pos) 0 (.ref it) (.ref D) (compEnvC scope (cellsFrom (s3.heap.objs.size + 1) scope.names (cloFrom X.env.cells scope.names [])) s3.heap.objs.size X.env)) (compPost (model X.prog X.w) X.A X.xe use Qf (.ref D) s3.heap.objs.size) { s3 with heap := pushCells (s3.heap.push { cls := .type "dict", data := .dict #[] }) scope.names }
  rw [hcl, hce, hs4]
  rw [hs4] at I4
  have st4 : tn 0 s4.heap := T.keep _ _ _ st3 fun x _ o e => by
    rw [← hs4]
    exact pushCells_keeps _ _ _ _ (Heap.get?_push_of_some _ e)
  have stat : ∀ {σ' : L2.St} {H' : Hp} {s' : Shared}, L2.Inv (X.blk s3 H3 scope ce fp) [] σ' H' s' → (∀ x ∈ fp, H' x = none) → ∀ x ∈ fp, FpOk (X.blk s3 H3 scope ce fp) [] H' x := fun {σ' H' s'} I' hn x hx =>
    ⟨hn x hx, (I'.ok.exf x hx).1, I'.ok.exfs x hx, .inl hx, fun y c e => (I'.ok.exf x hx).2 y c e, fun p hp => by simp [Cx.blk] at hp⟩
  have nfp : ∀ x ∈ fp, H3 x = none := fun x hx => (f3 x hx).1.1
  -- what the outer walk keeps
  let St0 : Nat → Shared → Prop := fun n s' => ∃ i H', L2.Inv (X.blk s3 H3 scope ce fp) [] (wipe σ (own.map (·.2))) H' s' ∧ tn i s'.heap ∧ (∀ x ∈ fp, H' x = none) ∧ W i n H'
  have loop : codeAny (model X.prog X.w) X.A (.compLoop (DC2 ke ve a b a' b' [] [] scope pos) 0 (.ref it) (.ref D) ce) (compPost (model X.prog X.w) X.A X.xe use Qf (.ref D) s3.heap.objs.size) s4 := by
    refine dloop_out (hs1 ce) St0 ?_ m0 ⟨0, H3, I4, st4, nfp, w0⟩
    rintro n s5 ⟨i, H5, I5, st5, n5, w5⟩
    rcases turn i n H5 w5 with ⟨stop, qq⟩ | ⟨go, Nx, hNx, step⟩
    · refine thnF (T.done (X.blk s3 H3 scope ce fp) rfl rfl rfl hc i [] s5 _ H5 (fun _ _ => False) I5 (stat I5 n5) st5 stop) fun r s6 ⟨hr, I6⟩ => ?_
      subst hr
      have I7 : L2.Inv X pins σ H5 s6 := I3.call' (ch := fp) I6.os I6.base I6.hok I6.bare fun x hx => ⟨(f3 x hx).1.2.2.2.1, (f3 x hx).1.2.1, (f3 x hx).1.2.2.2.2.1, (f3 x hx).1.2.2.2.2.2⟩
      have nC : H5 s3.heap.objs.size = none := by
        rw [← cL]
        exact I6.free
      obtain ⟨m, hn, _⟩ := I6.loc
      have hn' : s6.heap.Ns s3.heap.objs.size m := by
        rw [← cL]
        exact hn
      exact hRR D s3.heap.objs.size s6 m H5 I7 qq hn' (I3.fpOk (Nat.le_refl _) nC)
    · refine thnF (T.item (X.blk s3 H3 scope ce fp) rfl rfl rfl hc i [] s5 _ H5 (fun _ _ => False) I5 (stat I5 n5) st5 go) fun r s6 ⟨u, hr, h6⟩ => ?_
      subst hr
      refine thnF h6 fun _ s7 ⟨x, H7, I7, r7, y7, st7, n7⟩ => ?_
      have I7' := I7.pinned (stat I7 n7) (T.obj _ _ st7)
      refine thnF (pg.run _ s7 _ H7 x u _ I7' r7 (step x H7 y7)) fun _ s8 ⟨σ8, H8, I8, hw8, q8⟩ => ?_
      -- behind a turn of the outer walk
      have fin : ∀ {σ9 : L2.St} {s' : Shared} {H' : Hp}, L2.Inv (X.blk s3 H3 scope ce fp) ([] ++ pinsAt fp s7.heap) σ9 H' s' → (wipe σ (own.map (·.2))).length = σ9.length → (∀ (j : Nat) v, (wipe σ (own.map (·.2)))[j]? = some (some v) → σ9[j]? = some (some v)) → Nx H' → ∃ m, m < n ∧ St0 m s' :=
        fun {σ9 s' H'} I' hl hk nx => by
          obtain ⟨m', hm, w'⟩ := hNx H' nx
          have pin' : ∀ y ∈ fp, ∀ o, s7.heap.get? y = some o → s'.heap.get? y = some o ∧ H' y = none := fun y hy o e =>
            have z := I'.pin (y, o) (List.mem_append_right _ (List.mem_append_right _ (mem_pinsAt hy e)))
            ⟨z.1, z.2.1⟩
          refine ⟨m', hm, i + 1, H', (I'.unpinned (pins := [])).weak hl hk, T.keep _ _ _ st7 fun y hy o e => (pin' y hy o e).1, fun y hy => ?_, w'⟩
          obtain ⟨o, e, _⟩ := T.obj _ _ st7 y hy
          exact (pin' y hy o e).2
      have hl8 : (wipe σ (own.map (·.2))).length = σ8.length := by rw [← hw8, wipe_length]
      have hk9 : ∀ (j : Nat) v, (wipe σ (own.map (·.2)))[j]? = some (some v) → (wipe σ8 vs1)[j]? = some (some v) := fun j v e => by
        rw [← hw8] at e
        obtain ⟨e1, e2⟩ := wipe_some e
        rw [wipe_out fun z => e2 (hv j z)]
        exact e1
      refine thnF (wpAny_tests_nil (Q := fun b s' => b = true ∧ s' = s8) (E := fun _ _ => False) ⟨rfl, rfl⟩) fun bb s9 hb => ?_
      obtain ⟨rfl, rfl⟩ := hb
      simp only [if_true]
      refine thnF (pi1.run _ s9 σ8 H8 _ I8 q8) fun xv s10 hx => thnF hx fun itv s11 h11 => ?_
      obtain ⟨it1, fp1, tn1, J1, H11, rfl, I11, T1, st11, f11, W1, ⟨m1, w1⟩, turn1⟩ := h11
      have stat1 : ∀ {H' : Hp}, (∀ y ∈ fp1, H' y = none) → ∀ y ∈ fp1, FpOk (X.blk s3 H3 scope ce fp) ([] ++ pinsAt fp s7.heap) H' y := fun hn y hy => ⟨hn y hy, (f11 y hy).2⟩
      let St1 : Nat → Shared → Prop := fun k s' => ∃ j H', L2.Inv (X.blk s3 H3 scope ce fp) ([] ++ pinsAt fp s7.heap) (wipe σ8 vs1) H' s' ∧ tn1 j s'.heap ∧ (∀ y ∈ fp1, H' y = none) ∧ W1 j k H'
      have loop1 : codeAny (model X.prog X.w) X.A (.compLoop (DC2 ke ve a b a' b' [] [] scope pos) 1 (.ref it1) (.ref D) ce)
          (fun r s' => match r with
            | .ok _ => ∃ m, m < n ∧ St0 m s'
            | .error _ => False) s11 := by
        refine dloop_in St1 ?_ m1 ⟨0, H11, I11.weak (wipe_length _ _) (fun j v e => (wipe_some e).1), st11, fun y hy => (f11 y hy).1, w1⟩
        rintro k s12 ⟨j, H12, I12, st12, n12, w12⟩
        rcases turn1 j k H12 w12 with ⟨stop1, nx1⟩ | ⟨go1, Nx1, hNx1, step1⟩
        · refine thnF (T1.done (X.blk s3 H3 scope ce fp) rfl rfl rfl hc j _ s12 (wipe σ8 vs1) H12 (fun _ _ => False) I12 (stat1 n12) st12 stop1) fun r s13 ⟨hr, I13⟩ => ?_
          subst hr
          exact fin I13 (hl8.trans (wipe_length σ8 vs1).symm) hk9 nx1
        · refine thnF (T1.item (X.blk s3 H3 scope ce fp) rfl rfl rfl hc j _ s12 (wipe σ8 vs1) H12 (fun _ _ => False) I12 (stat1 n12) st12 go1) fun r s13 ⟨u1, hr, h13⟩ => ?_
          subst hr
          refine thnF h13 fun _ s14 ⟨x1, H14, I14, r14, y14, st14, n14⟩ => ?_
          have I14' := I14.pinned (stat1 n14) (T1.obj _ _ st14)
          refine thnF (pg1.run _ s14 (wipe σ8 vs1) H14 x1 u1 _ I14' r14 (step1 x1 H14 y14)) fun _ s15 ⟨σ15, H15, I15, hw15, q15⟩ => ?_
          have fin1 : ∀ {s' : Shared} {H' : Hp}, L2.Inv (X.blk s3 H3 scope ce fp) (([] ++ pinsAt fp s7.heap) ++ pinsAt fp1 s14.heap) σ15 H' s' → Nx1 H' → ∃ m, m < k ∧ St1 m s' := fun {s' H'} I' nx => by
            obtain ⟨m', hm, w'⟩ := hNx1 H' nx
            have pin' : ∀ y ∈ fp1, ∀ o, s14.heap.get? y = some o → s'.heap.get? y = some o ∧ H' y = none := fun y hy o e =>
              have z := I'.pin (y, o) (List.mem_append_right _ (List.mem_append_right _ (mem_pinsAt hy e)))
              ⟨z.1, z.2.1⟩
            refine ⟨m', hm, j + 1, H', I'.unpinned.weak (by rw [← hw15, wipe_length]) (fun j v e => by rw [← hw15] at e; exact (wipe_some e).1), T1.keep _ _ _ st14 fun y hy o e => (pin' y hy o e).1, fun y hy => ?_, w'⟩
            obtain ⟨o, e, _⟩ := T1.obj _ _ st14 y hy
            exact (pin' y hy o e).2
          refine thnF (wpAny_tests_nil (Q := fun b s' => b = true ∧ s' = s15) (E := fun _ _ => False) ⟨rfl, rfl⟩) fun bb s16 hb => ?_
          obtain ⟨rfl, rfl⟩ := hb
          simp only [if_true]
          refine thnF (pk.run _ s16 σ15 H15 _ I15 q15) fun z s17 ⟨yk, H17, I17, r17, q17⟩ => ?_
          refine thnF (pe.run _ s17 σ15 H17 _ I17 q17) fun z2 s18 ⟨yv, H18, I18, r18, kq, kvs, kk, ek, hq18, hD18, hz18, nx⟩ => ?_
          subst ek
          obtain rfl : z = Value.ref kq := r17
          exact dset_tup (X := X.blk s3 H3 scope ce fp) hu I18 hD18 hz18 hq18 r18 fun s19 I19 => fin1 I19 nx
      exact dstart_in loop1 (T1.self X.A 0 _ _ _ st11 loop1)
  exact codeAny_compStart_dict loop (T.self X.A 0 _ _ _ st4 loop)
/-- as a value -/
theorem pe_dc2 (hu : X.A.units < cLine) (hc : X.calm = true) (hN : X.N.Nodup) (hi : PI X a b wi) (ok : BlkOk X.N X.env.scope scope own) (hv : ∀ i ∈ vs1, i ∈ own.map (·.2))
    (hg : InBlk X scope fun Y => PG Y a g) (hi1 : InBlk X scope fun Y => PI Y a' b' wi1) (hg1 : InBlk X scope fun Y => PG Y a' g1) (hk : InBlk X scope fun Y => PE Y ke tk) (he : InBlk X scope fun Y => PE Y ve tv)
    (hs : ∀ x, foldedSetIterable b X.env x = pure x := by intro _; rfl) (hs1 : ∀ env x, foldedSetIterable b' env x = pure x := by intro _ _; rfl) :
    PE X (.DictComp ke ve [⟨a, b, [], 0⟩, ⟨a', b', [], 0⟩] scope pos) (tDc2 wi g wi1 g1 tk tv (own.map (·.2)) vs1) := by
  refine ⟨fun pins s σ H Q I h => ?_⟩
  rw [arm_eval_DictComp]
  refine dc2_core hu hc hN I hi ok hv hg hi1 hg1 hk he hs hs1 h fun D C s' m H' I' q hn f => ⟨m, hn, fun h'' sb => ?_⟩
  obtain ⟨f0, f1, f2, f3, f4, f5⟩ := f
  exact ⟨.ref D, H', I'.turned (t' := s'.toks) (fun x o hx e => (sb.2 x hx).trans e) f0 f1 f3 f4 f5, rfl, q⟩
end
end K51
set_option Elab.async false
set_option linter.all false
set_option maxRecDepth 100000
set_option maxHeartbeats 4000000
/-! the data: forms, what they are in the heap, what is computed of them -/
namespace K51
open PySem PySem.Spec PyProof.Rows L2
/-! ### data -/
inductive Kd where | u | s | r
inductive Sz where | b1 | b2 | b4
inductive Fd where | w (k : Kd) (z : Sz) | n (v : Int)
structure Fm where
  op : List Int
  fs : List Fd
def Kd.c : Kd → Nat | .u => 117 | .s => 115 | .r => 114
def Sz.c : Sz → Nat | .b1 => 49 | .b2 => 50 | .b4 => 52
def Sz.n : Sz → Nat | .b1 => 1 | .b2 => 2 | .b4 => 4
def Sz.many : Sz → Int | .b1 => 256 | .b2 => 65536 | .b4 => 4294967296
def fdS (k : Kd) (z : Sz) : Str := ⟨#[k.c, z.c]⟩
def Fd.cells : Fd → Nat | .w _ z => z.n | .n _ => 0
def Fd.told : Fd → Bool | .w _ _ => false | .n _ => true
def Fm.len (F : Fm) : Nat := F.op.length + (F.fs.map Fd.cells).sum
def Fd.lo : Fd → Int → Int
  | .n v, _ => v
  | .w .u z, _ => 0
  | .w .s z, _ => 0 - z.many / 2
  | .w .r z, e => e - z.many / 2
def Fd.hi : Fd → Int → Int
  | .n v, _ => v
  | .w .u z, _ => z.many - 1
  | .w .s z, _ => z.many / 2 - 1
  | .w .r z, e => e + z.many / 2 - 1
def Fd.rest : Fd → Int → Int → Int
  | .w .r _, v, e => v - e
  | _, v, _ => v
def Fd.put (f : Fd) (v e : Int) : List Int := (List.range f.cells).map fun k => f.rest v e / 256 ^ k % 256
def badAt (f : Fd) (e v : Int) (i : Nat) (mv : List Int) : Bool := !(decide (f.lo e ≤ v) && decide (v ≤ f.hi e)) || (f.told && decide ((i : Int) ∈ mv))
def misfit (F : Fm) (ops : List Int) (ad : Int) (mv : List Int) : Option Nat :=
  (List.range F.fs.length).find? fun i => badAt (F.fs.getD i (.n 0)) (ad + F.len) (ops.getD i 0) i mv
def fits (fms : List Fm) (ops : List Int) (ad : Int) (mv : List Int) (k : Nat) : Bool := (misfit (fms.getD k ⟨[], []⟩) ops ad mv).isNone
def firstFit (fms : List Fm) (ops : List Int) (ad : Int) (lo : Nat) (mv : List Int) : Option Nat :=
  ((List.range (fms.length - lo)).find? fun i => fits fms ops ad mv (lo + i)).map (lo + ·)
def cellsBy (F : Fm) (ops : List Int) (ad : Int) : List Int := F.op ++ (F.fs.zip ops).flatMap fun p => p.1.put p.2 (ad + F.len)
def optV : Option Nat → V
  | none => .non
  | some i => .int i
/-! ### in the heap -/
/-- tracked tuples stay -/
def TS (H H' : Hp) : Prop := ∀ b xs, H b = some (.tup xs) → H' b = some (.tup xs)
theorem TS.of {H H' : Hp} (h : Same H H') : TS H H' := fun b xs q => h b _ q
theorem TS.refl (H : Hp) : TS H H := fun _ _ q => q
theorem TS.trans {H H1 H2 : Hp} (a : TS H H1) (b : TS H1 H2) : TS H H2 := fun c xs q => b c xs (a c xs q)
def FdV (H : Hp) (f : Fd) (v : V) : Prop := match f with
  | .w k z => v = .str (fdS k z)
  | .n x => ∃ a, v = .ref a ∧ H a = some (.tup [.str "n", .int x])
def IntsV (H : Hp) (xs : List Int) (v : V) : Prop := ∃ a, v = .ref a ∧ H a = some (.tup (xs.map V.int))
def FdsV (H : Hp) (fs : List Fd) (v : V) : Prop := ∃ a vs, v = .ref a ∧ H a = some (.tup vs) ∧ Paired (FdV H) fs vs
def FmV (H : Hp) (F : Fm) (v : V) : Prop := ∃ a x y, v = .ref a ∧ H a = some (.tup [x, y]) ∧ IntsV H F.op x ∧ FdsV H F.fs y
def FmsV (H : Hp) (fms : List Fm) (v : V) : Prop := ∃ a vs, v = .ref a ∧ H a = some (.tup vs) ∧ Paired (FmV H) fms vs
abbrev Row : Type := Str × List Fm
def RowV (H : Hp) (r : Row) (v : V) : Prop := ∃ a y, v = .ref a ∧ H a = some (.tup [.str r.1, y]) ∧ FmsV H r.2 y
def RowsV (H : Hp) (rs : List Row) (v : V) : Prop := ∃ a vs, v = .ref a ∧ H a = some (.tup vs) ∧ Paired (RowV H) rs vs
section
variable {H H' : Hp} {v : V}
theorem FdV.ts {f : Fd} (h : FdV H f v) (t : TS H H') : FdV H' f v := by
  cases f with
  | w k z => exact h
  | n x =>
    obtain ⟨a, e, q⟩ := h
    exact ⟨a, e, t _ _ q⟩
theorem IntsV.ts {xs : List Int} (h : IntsV H xs v) (t : TS H H') : IntsV H' xs v := by
  obtain ⟨a, e, q⟩ := h
  exact ⟨a, e, t _ _ q⟩
theorem Paired.imp {α β : Type} {R S : α → β → Prop} (f : ∀ a b, R a b → S a b) : ∀ {xs : List α} {ys : List β}, Paired R xs ys → Paired S xs ys
  | _, _, .nil => .nil
  | _, _, .cons h t => .cons (f _ _ h) (Paired.imp f t)
theorem Paired.at {α β : Type} {R : α → β → Prop} : ∀ {xs : List α} {ys : List β} {i : Nat} {y : β}, Paired R xs ys → ys[i]? = some y → ∃ x, xs[i]? = some x ∧ R x y
  | _, _, _, _, .nil, e => by simp at e
  | _, _, 0, _, .cons r _, e => by simp at e; subst e; exact ⟨_, rfl, r⟩
  | _, _, i + 1, y, .cons _ t, e => by
    obtain ⟨x, h1, h2⟩ := Paired.at (i := i) (y := y) t (by simpa using e)
    exact ⟨x, by simpa using h1, h2⟩
theorem Paired.ta {α β : Type} {R : α → β → Prop} : ∀ {xs : List α} {ys : List β} {i : Nat} {x : α}, Paired R xs ys → xs[i]? = some x → ∃ y, ys[i]? = some y ∧ R x y
  | _, _, _, _, .nil, e => by simp at e
  | _, _, 0, _, .cons r _, e => by simp at e; subst e; exact ⟨_, rfl, r⟩
  | _, _, i + 1, x, .cons _ t, e => by
    obtain ⟨y, h1, h2⟩ := Paired.ta (i := i) (x := x) t (by simpa using e)
    exact ⟨y, by simpa using h1, h2⟩
theorem Paired.snoc {α β : Type} {R : α → β → Prop} : ∀ {xs : List α} {ys : List β} {x : α} {y : β}, Paired R xs ys → R x y → Paired R (xs ++ [x]) (ys ++ [y])
  | _, _, _, _, .nil, r => .cons r .nil
  | _, _, _, _, .cons h t, r => .cons h (Paired.snoc t r)
theorem Paired.app {α β : Type} {R : α → β → Prop} : ∀ {xs xs' : List α} {ys ys' : List β}, Paired R xs ys → Paired R xs' ys' → Paired R (xs ++ xs') (ys ++ ys')
  | _, _, _, _, .nil, r => r
  | _, _, _, _, .cons h t, r => .cons h (Paired.app t r)
theorem Paired.tk {α β : Type} {R : α → β → Prop} : ∀ {xs : List α} {ys : List β} (n : Nat), Paired R xs ys → Paired R (xs.take n) (ys.take n)
  | _, _, 0, _ => by simp; exact .nil
  | _, _, n + 1, .nil => by simp; exact .nil
  | _, _, n + 1, .cons h t => .cons h (Paired.tk n t)
theorem Paired.len {α β : Type} {R : α → β → Prop} {xs : List α} {ys : List β} (h : Paired R xs ys) : xs.length = ys.length := Paired.length h
theorem FdsV.ts {fs : List Fd} (h : FdsV H fs v) (t : TS H H') : FdsV H' fs v := by
  obtain ⟨a, vs, e, q, p⟩ := h
  exact ⟨a, vs, e, t _ _ q, Paired.imp (fun _ _ z => z.ts t) p⟩
theorem FmV.ts {F : Fm} (h : FmV H F v) (t : TS H H') : FmV H' F v := by
  obtain ⟨a, x, y, e, q, p, r⟩ := h
  exact ⟨a, x, y, e, t _ _ q, p.ts t, r.ts t⟩
theorem FmsV.ts {F : List Fm} (h : FmsV H F v) (t : TS H H') : FmsV H' F v := by
  obtain ⟨a, vs, e, q, p⟩ := h
  exact ⟨a, vs, e, t _ _ q, Paired.imp (fun _ _ z => z.ts t) p⟩
theorem RowV.ts {r : Row} (h : RowV H r v) (t : TS H H') : RowV H' r v := by
  obtain ⟨a, y, e, q, p⟩ := h
  exact ⟨a, y, e, t _ _ q, p.ts t⟩
theorem RowsV.ts {rs : List Row} (h : RowsV H rs v) (t : TS H H') : RowsV H' rs v := by
  obtain ⟨a, vs, e, q, p⟩ := h
  exact ⟨a, vs, e, t _ _ q, Paired.imp (fun _ _ z => z.ts t) p⟩
/-- the operands that move: a tuple of whole numbers, tracked or written -/
def MvV (K : PySem.W.Frag) (H : Hp) (mv : List Int) (v : V) : Prop := ∃ a, v = .ref a ∧ SqT K H a (mv.map V.int)
theorem sqT_same {K : PySem.W.Frag} {a : Addr} {xs : List V} (h : SqT K H a xs) (s : Same H H') : SqT K H' a xs := by
  rcases h with (h | ⟨o, h⟩) | h
  · exact .inl (.inl (s _ _ h))
  · exact .inl (.inr ⟨o, s _ _ h⟩)
  · exact .inr h
theorem MvV.sm {K : PySem.W.Frag} {mv : List Int} (h : MvV K H mv v) (s : Same H H') : MvV K H' mv v := by
  obtain ⟨a, e, q⟩ := h
  exact ⟨a, e, sqT_same q s⟩
theorem IntsV.mv {K : PySem.W.Frag} {xs : List Int} (h : IntsV H xs v) : MvV K H xs v := by
  obtain ⟨a, e, q⟩ := h
  exact ⟨a, e, SqT.of q⟩
theorem same_upd {H1 : Hp} {p : Addr} {o : HO} (s : Same H H1) (h : H p = none) : Same H (upd H1 p o) := fun b u q => by
  rw [upd_ne (ne_of_none q h)]
  exact s b u q
theorem same_upd' {p : Addr} {o : HO} (h : H p = none) : Same H (upd H p o) := same_upd (Same.refl H) h
end
/-! ### plain -/
theorem find_none {n : Nat} {p : Nat → Bool} (h : ∀ j, j < n → p j = false) : (List.range n).find? p = none := by
  rw [List.find?_eq_none]
  intro x hx
  rw [h x (List.mem_range.mp hx)]
  simp
theorem find_some {n i : Nat} {p : Nat → Bool} (h : ∀ j, j < i → p j = false) (hi : i < n) (hp : p i = true) : (List.range n).find? p = some i := by
  rw [List.find?_range_eq_some]
  refine ⟨hp, List.mem_range.mpr hi, fun j hj => ?_⟩
  rw [h j hj]
  rfl
end K51
set_option Elab.async false
set_option linter.all false
set_option maxRecDepth 100000
set_option maxHeartbeats 4000000
/-! fields: is_whole .. field_cells -/
namespace K51
open PySem PySem.Spec PyProof.Rows L2
abbrev s15 : Stmt := top 15
abbrev s16 : Stmt := top 16
abbrev s17 : Stmt := top 17
abbrev s18 : Stmt := top 18
abbrev s19 : Stmt := top 19
section
variable {P : Program} {w : World} {K : PySem.W.Frag} {mg : Str → Option Value} {base : Heap}
/-- is_whole of a whole number -/
def spWhole : Sp := fun vs H Q _ => ∃ v lo hi : Int, vs = [.int v, .int lo, .int hi] ∧ Q (.bl (decide (lo ≤ v) && decide (v ≤ hi))) H
theorem sc15 : FnScope ["value", "least", "most"] ["value", "least", "most"] (defScope s15) := ⟨rfl, rfl, rfl, by decide +kernel, rfl, by decide +kernel, by decide +kernel⟩
theorem ok_whole (T : Tb mg) (D : Df K mg "is_whole" s15) : Pm P w K mg base "is_whole" 1 ["value", "least", "most"] spWhole := by
  refine Pm.of D sc15 (fun vs H Q E h => ?_) (fun _ _ _ _ _ _ us hl => match us, hl with | [_, _, _], _ => rfl) fun f cdv A outer s H vs Q E hr h => ?_
  · obtain ⟨v, lo, hi, rfl, _⟩ := h
    rfl
  · obtain ⟨v, lo, hi, rfl, k⟩ := h
    refine ⟨_, pss_one (ps_ret (pe_and (pe_isi T T.int bt_int (pv 0)) (pe_and (pe_not (pe_isi T T.bool bt_bool (pv 0))) (pe_one (pe_chain op_le op_le (pv 1) (pv 0) (pv 2)))))), ?_⟩
    refine ⟨_, rfl, "int", true, .base (.int _), by decide +kernel, _, rfl, iteT ?_⟩
    refine ⟨_, rfl, "int", false, .base (.int _), by decide +kernel, _, rfl, _, rfl, iteT ?_⟩
    refine ⟨_, rfl, _, rfl, _, _, rfl, rfl, _, rfl, ?_⟩
    refine ite2 (fun c => ⟨_, rfl, _, _, rfl, rfl, ?_⟩) fun c => ?_
    · rw [c, Bool.true_and] at k
      exact k
    · have c' : decide (lo ≤ v) = false := by simpa using c
      rw [c', Bool.false_and] at k
      exact k
/-- is_address, is_operand, is_cell: is_whole with its bounds -/
def spIn (lo hi : Int) : Sp := fun vs H Q _ => ∃ v : Int, vs = [.int v] ∧ Q (.bl (decide (lo ≤ v) && decide (v ≤ hi))) H
theorem sc16 : FnScope ["value"] ["value"] (defScope s16) := ⟨rfl, rfl, rfl, by decide +kernel, rfl, by decide +kernel, by decide +kernel⟩
theorem ok_address (D : Df K mg "is_address" s16) (W : Pm P w K mg base "is_whole" 1 ["value", "least", "most"] spWhole) (c : ∃ t, mg "MOST_ADDRESS" = some (.int (2 ^ 40) t)) : Pm P w K mg base "is_address" 2 ["value"] (spIn 0 (2 ^ 40)) := by
  obtain ⟨t, c⟩ := c
  refine Pm.of D sc16 (fun vs H Q E h => ?_) (fun _ _ _ _ _ _ us hl => match us, hl with | [_], _ => rfl) fun f cdv A outer s H vs Q E hr h => ?_
  · obtain ⟨v, rfl, _⟩ := h
    rfl
  · obtain ⟨v, rfl, k⟩ := h
    refine ⟨_, pss_one (ps_ret (pe_pm W hr (pa_cons (pv 0) (pa_cons pe_int (pa_cons (pe_glob (v := .int (2 ^ 40)) rfl c ⟨_, rfl⟩) pa_nil))))), ?_⟩
    exact ⟨_, rfl, v, 0, 2 ^ 40, rfl, k⟩
theorem sc17 : FnScope ["value"] ["value"] (defScope s17) := ⟨rfl, rfl, rfl, by decide +kernel, rfl, by decide +kernel, by decide +kernel⟩
theorem ok_operand (D : Df K mg "is_operand" s17) (W : Pm P w K mg base "is_whole" 1 ["value", "least", "most"] spWhole) (c : ∃ t, mg "MOST_OPERAND" = some (.int (2 ^ 64) t)) : Pm P w K mg base "is_operand" 2 ["value"] (spIn (0 - 2 ^ 64) (2 ^ 64)) := by
  obtain ⟨t, c⟩ := c
  refine Pm.of D sc17 (fun vs H Q E h => ?_) (fun _ _ _ _ _ _ us hl => match us, hl with | [_], _ => rfl) fun f cdv A outer s H vs Q E hr h => ?_
  · obtain ⟨v, rfl, _⟩ := h
    rfl
  · obtain ⟨v, rfl, k⟩ := h
    refine ⟨_, pss_one (ps_ret (pe_pm W hr (pa_cons (pv 0) (pa_cons (pe_op op_sub pe_int (pe_glob (v := .int (2 ^ 64)) rfl c ⟨_, rfl⟩)) (pa_cons (pe_glob (v := .int (2 ^ 64)) rfl c ⟨_, rfl⟩) pa_nil))))), ?_⟩
    exact ⟨_, rfl, _, _, rfl, rfl, v, 0 - 2 ^ 64, 2 ^ 64, rfl, k⟩
/-! ### is_field -/
def okF : Fd → Prop
  | .w _ _ => True
  | .n v => 0 - 2 ^ 64 ≤ v ∧ v ≤ 2 ^ 64
def fwords : List V := [.str "u1", .str "u2", .str "u4", .str "s1", .str "s2", .str "s4", .str "r1", .str "r2", .str "r4"]
def spField : Sp := fun vs H Q _ => ∃ f v, vs = [v] ∧ FdV H f v ∧ okF f ∧ Q (.bl true) H
theorem fwords_in (k : Kd) (z : Sz) : inV (V.str (fdS k z)) fwords = true := by
  cases k <;> cases z <;> decide +kernel
theorem sc18 : FnScope ["value"] ["value"] (defScope s18) := ⟨rfl, rfl, rfl, by decide +kernel, rfl, by decide +kernel, by decide +kernel⟩
theorem ok_field (T : Tb mg) (D : Df K mg "is_field" s18) (W : Pm P w K mg base "is_operand" 2 ["value"] (spIn (0 - 2 ^ 64) (2 ^ 64))) (c : ∃ t, mg "TOLD" = some (.str "n" t)) (d : ∃ a, mg "FIELD_WORDS" = some (.ref a) ∧ ∀ H, SqT K H a fwords) :
    Pm P w K mg base "is_field" 3 ["value"] spField := by
  obtain ⟨t, c⟩ := c
  obtain ⟨a, d, dt⟩ := d
  refine Pm.of D sc18 (fun vs H Q E h => ?_) (fun _ _ _ _ _ _ us hl => match us, hl with | [_], _ => rfl) fun f cdv A outer s H vs Q E hr h => ?_
  · obtain ⟨f, v, rfl, _⟩ := h
    rfl
  · obtain ⟨f, v, rfl, hf, ho, k⟩ := h
    refine ⟨_, pss_cons (ps_if (pt_val (pe_isi T T.str bt_str (pv 0))) (pss_one (ps_ret (pe_cmpR op_in_seq (pv 0) (pe_glob (v := .ref a) rfl d rfl) rfl))) pss_nil)
      (pss_cons (ps_if (PW.pt (pw_or (pt_not (pt_val (pe_isi T T.tuple bt_tuple (pv 0)))) (pw_or (pt_cmpR op_ne (pe_callB call_len_seq (by rfl) T.len PySem.boot_len (pa_cons (pv 0) pa_nil)) pe_int (nomark _))
        (pw_or1 (pt_not (pt_val (pe_isi T T.str bt_str (pe_ix ix_tup (pv 0) pe_int (fun _ _ => rfl))))))))) (pss_one (ps_ret pe_bl)) pss_nil)
      (pss_one (ps_ret (pe_and (pe_cmpR op_eq (pe_ix ix_tup (pv 0) pe_int (fun _ _ => rfl)) (pe_glob (v := .str "n") rfl c ⟨_, rfl⟩) (nomark _)) (pe_one (pe_pm W hr (pa_cons (pe_ix ix_tup (pv 0) pe_int (fun _ _ => rfl)) pa_nil))))))), ?_⟩
    cases f with
    | w kd z =>
      obtain rfl : v = .str (fdS kd z) := hf
      refine ⟨_, rfl, "str", true, .base (.str _), by decide +kernel, _, rfl, iteT ?_⟩
      refine ⟨_, rfl, a, fwords, rfl, .inr (dt _), rfl, by decide +kernel, ?_⟩
      rw [if_neg (by decide), fwords_in]
      exact k
    | n x =>
      obtain ⟨b, rfl, hb⟩ := hf
      refine ⟨_, rfl, "tuple", false, .base (.tup hb), by decide +kernel, _, rfl, iteF ?_⟩
      refine ⟨_, rfl, "tuple", true, .base (.tup hb), by decide +kernel, _, rfl, iteF ?_⟩
      refine ⟨_, rfl, b, _, rfl, .inr (SqT.of hb), rfl, _, rfl, iteF ?_⟩
      refine ⟨_, rfl, b, _, _, _, rfl, rfl, SqT.of hb, atI_nat (j := 0) rfl, "str", true, .base (.str _), by decide +kernel, _, rfl, iteF ?_⟩
      refine ⟨_, rfl, b, _, _, _, rfl, rfl, SqT.of hb, atI_nat (j := 0) rfl, rfl, _, rfl, iteT ?_⟩
      refine ⟨_, rfl, b, _, _, _, rfl, rfl, SqT.of hb, atI_nat (j := 1) rfl, x, rfl, ?_⟩
      obtain ⟨o1, o2⟩ := ho
      rw [decide_eq_true o1, decide_eq_true o2]
      exact k
/-! ### cells_in -/
def spCells : Sp := fun vs H Q _ => ∃ f v, vs = [v] ∧ FdV H f v ∧ Q (.int (f.cells : Nat)) H
theorem sc19 : FnScope ["field"] ["field"] (defScope s19) := ⟨rfl, rfl, rfl, by decide +kernel, rfl, by decide +kernel, by decide +kernel⟩
theorem sz_int (z : Sz) : PySem.intText? ⟨#[z.c]⟩ = some (z.n : Int) := by cases z <;> decide +kernel
theorem ok_cells (T : Tb mg) (D : Df K mg "cells_in" s19) : Pm P w K mg base "cells_in" 1 ["field"] spCells := by
  refine Pm.of D sc19 (fun vs H Q E h => ?_) (fun _ _ _ _ _ _ us hl => match us, hl with | [_], _ => rfl) fun f cdv A outer s H vs Q E hr h => ?_
  · obtain ⟨f, v, rfl, _⟩ := h
    rfl
  · obtain ⟨f, v, rfl, hf, k⟩ := h
    refine ⟨_, pss_one (ps_ret (pe_ifExp (pt_val (pe_isi T T.str bt_str (pv 0))) (pe_callTy call_int_str (by rfl) T.int (by decide +kernel) (pa_cons (pe_ix ix_str (pv 0) pe_int (fun _ _ => rfl)) pa_nil)) pe_int)), ?_⟩
    cases f with
    | w kd z =>
      obtain rfl : v = .str (fdS kd z) := hf
      refine ⟨_, rfl, "str", true, .base (.str _), by decide +kernel, _, rfl, iteT ?_⟩
      refine ⟨_, rfl, _, _, z.c, rfl, rfl, (by decide +kernel : (2 : Nat) ≤ sizeLine), atI_nat (j := 1) rfl, _, _, rfl, sz_int z, (by decide : (1 : Nat) ≤ 640), k⟩
    | n x =>
      obtain ⟨b, rfl, hb⟩ := hf
      exact ⟨_, rfl, "tuple", false, .base (.tup hb), by decide +kernel, _, rfl, iteF k⟩
end
end K51
set_option Elab.async false
set_option linter.all false
set_option maxRecDepth 100000
set_option maxHeartbeats 4000000
/-! fields: bounds_at, field_cells; scanner, lines: names -/
namespace K51
open PySem PySem.Spec PyProof.Rows L2
abbrev s20 : Stmt := top 20
abbrev s21 : Stmt := top 21
abbrev s27 : Stmt := top 27
abbrev s30 : Stmt := top 30
abbrev s31 : Stmt := top 31
abbrev s38 : Stmt := top 38
abbrev s39 : Stmt := top 39
abbrev s40 : Stmt := top 40
section
variable {P : Program} {w : World} {K : PySem.W.Frag} {mg : Str → Option Value} {base : Heap}
theorem gN {i : Nat} {v v' : V} {σ : L2.St} {H : Hp} {Q : L2.St → Hp → Prop} (e : v = v') (h : gName i v' σ H Q) : gName i v σ H Q := by
  subst e
  exact h
theorem asV {v v' : V} {H : Hp} {Q : VK} (e : v = v') (q : Q v' H) : Q v H := by
  subst e
  exact q
theorem le0 : (0 : Nat) ≤ sizeLine := Nat.zero_le _
theorem le1 : (1 : Nat) ≤ sizeLine := by decide +kernel
theorem le2 : (2 : Nat) ≤ sizeLine := by decide +kernel
theorem le3 : (3 : Nat) ≤ sizeLine := by decide +kernel
theorem lt1000 {n : Nat} (h : n ≤ 1000) : n < sizeLine := small1000 h
/-! ### bounds_at -/
def spBounds : Sp := fun vs H Q _ => ∃ (f : Fd) (v : V) (e : Int), vs = [v, .int e] ∧ FdV H f v ∧ ∀ p, H p = none → Q (.ref p) (upd H p (.tup [.int (f.lo e), .int (f.hi e)]))
theorem sc20 : FnScope ["field", "behind", "many"] ["field", "behind"] (defScope s20) := ⟨rfl, rfl, rfl, by decide +kernel, rfl, by decide +kernel, by decide +kernel⟩
theorem many_eq (z : Sz) : (1 : Int) * 2 ^ ((8 * ((z.n : Nat) : Int)).toNat) = z.many := by cases z <;> decide +kernel
theorem ok_bounds (T : Tb mg) (D : Df K mg "bounds_at" s20) (W : Pm P w K mg base "cells_in" 1 ["field"] spCells) (c : ∃ t, mg "BITS" = some (.int 8 t)) : Pm P w K mg base "bounds_at" 2 ["field", "behind"] spBounds := by
  obtain ⟨t, c⟩ := c
  refine Pm.of D sc20 (fun vs H Q E h => ?_) (fun _ _ _ _ _ _ us hl => match us, hl with | [_, _], _ => rfl) fun f cdv A outer s H vs Q E hr h => ?_
  · obtain ⟨f, v, e, rfl, _⟩ := h
    rfl
  · obtain ⟨f, v, e, rfl, hf, k⟩ := h
    refine ⟨_, pss_cons (ps_if (pt_not (pt_val (pe_isi T T.str bt_str (pv 0)))) (pss_one (ps_ret (pe_tup (pa_cons (pe_ix ix_tup (pv 0) pe_int (fun _ _ => rfl)) (pa_cons (pe_ix ix_tup (pv 0) pe_int (fun _ _ => rfl)) pa_nil))))) pss_nil)
      (pss_cons (ps_set (i := 2) sc20.nd rfl (Or.inl rfl) (pe_op op_shl pe_int (pe_op op_mul (pe_glob (v := .int 8) rfl c ⟨_, rfl⟩) (pe_pm W hr (pa_cons (pv 0) pa_nil)))))
      (pss_cons (ps_match (pe_ix ix_str (pv 0) pe_int (fun _ _ => rfl))
        (.cons (c := .str "u") pe_str (pss_one (ps_ret (pe_tup (pa_cons pe_int (pa_cons (pe_op op_sub (pv 2) pe_int) pa_nil)))))
        (.cons (c := .str "s") pe_str (pss_one (ps_ret (pe_tup (pa_cons (pe_op op_sub pe_int (pe_op op_fdiv (pv 2) pe_int)) (pa_cons (pe_op op_sub (pe_op op_fdiv (pv 2) pe_int) pe_int) pa_nil))))) .nil)))
      (pss_one (ps_ret (pe_tup (pa_cons (pe_op op_sub (pv 1) (pe_op op_fdiv (pv 2) pe_int)) (pa_cons (pe_op op_sub (pe_op op_add (pv 1) (pe_op op_fdiv (pv 2) pe_int)) pe_int) pa_nil))))))), ?_⟩
    cases f with
    | n x =>
      obtain ⟨b, rfl, hb⟩ := hf
      refine ⟨_, rfl, "tuple", false, .base (.tup hb), by decide +kernel, _, rfl, iteT ?_⟩
      exact ⟨_, rfl, b, _, _, _, rfl, rfl, SqT.of hb, atI_nat (j := 1) rfl, _, rfl, b, _, _, _, rfl, rfl, SqT.of hb, atI_nat (j := 1) rfl, le2, k⟩
    | w kd z =>
      obtain rfl : v = .str (fdS kd z) := hf
      refine ⟨_, rfl, "str", true, .base (.str _), by decide +kernel, _, rfl, iteF ?_⟩
      refine ⟨_, rfl, .w kd z, _, rfl, rfl, _, _, rfl, rfl, .inl ⟨by decide, by decide⟩, _, _, rfl, rfl, ⟨?_, ?_, by decide⟩, ?_⟩
      · show (0 : Int) ≤ 8 * ((z.n : Nat) : Int)
        omega
      · show 8 * ((z.n : Nat) : Int) ≤ 1000000
        cases z <;> decide
      have hm : V.int ((1 : Int) * 2 ^ ((8 * (((Fd.w kd z).cells : Nat) : Int)).toNat)) = V.int z.many := congrArg V.int (many_eq z)
      show gName 2 (V.int ((1 : Int) * 2 ^ ((8 * (((Fd.w kd z).cells : Nat) : Int)).toNat))) _ _ _
      rw [hm]
      refine ⟨_, rfl, _, _, kd.c, rfl, rfl, (by decide +kernel : (2 : Nat) ≤ sizeLine), atI_nat (j := 0) rfl, ?_⟩
      cases kd with
      | u =>
        refine ⟨rfl, ?_⟩
        rw [if_pos (by decide +kernel)]
        exact ⟨_, rfl, _, _, rfl, rfl, le2, k⟩
      | s =>
        refine ⟨rfl, ?_⟩
        rw [if_neg (by decide +kernel)]
        refine ⟨rfl, ?_⟩
        rw [if_pos (by decide +kernel)]
        exact ⟨_, rfl, _, _, rfl, rfl, ⟨by decide, by decide⟩, _, _, rfl, rfl, _, rfl, _, _, rfl, rfl, ⟨by decide, by decide⟩, _, _, rfl, rfl, le2, k⟩
      | r =>
        refine ⟨rfl, ?_⟩
        rw [if_neg (by decide +kernel)]
        refine ⟨rfl, ?_⟩
        rw [if_neg (by decide +kernel)]
        exact ⟨_, rfl, _, rfl, _, _, rfl, rfl, ⟨by decide, by decide⟩, _, _, rfl, rfl, _, rfl, _, rfl, _, _, rfl, rfl, ⟨by decide, by decide⟩, _, _, rfl, rfl, _, _, rfl, rfl, le2, k⟩
/-! ### field_cells -/
def spPut : Sp := fun vs H Q _ => ∃ (f : Fd) (v : V) (x e : Int), vs = [v, .int x, .int e] ∧ FdV H f v ∧ ∀ p H', H p = none → Same H H' → H' p = some (.lst ((f.put x e).map V.int)) → Q (.ref p) H'
theorem sc21 : FnScope ["field", "operand", "behind", "rest", "found", "turn"] ["field", "operand", "behind"] (defScope s21) := ⟨rfl, rfl, rfl, by decide +kernel, rfl, by decide +kernel, by decide +kernel⟩
def Fd.c0 : Fd → Nat
  | .w k _ => k.c
  | .n _ => 110
theorem fd_first {H : Hp} {f : Fd} {v : V} {Q : VK} (h : FdV H f v) (q : Q (.str ⟨#[f.c0]⟩) H) : rIx K v (.int 0) H Q := by
  cases f with
  | w kd z =>
    obtain rfl : v = .str (fdS kd z) := h
    exact .inr (.inr ⟨_, _, kd.c, rfl, rfl, (by decide +kernel : (2 : Nat) ≤ sizeLine), atI_nat (j := 0) rfl, q⟩)
  | n x =>
    obtain ⟨b, rfl, hb⟩ := h
    exact .inr (.inl ⟨b, _, _, _, rfl, rfl, SqT.of hb, atI_nat (j := 0) rfl, q⟩)
theorem c1 {n : Nat} (q : V.str ⟨#[n]⟩ = V.str "r") : n = 114 := by
  have e : (⟨#[n]⟩ : Str) = ⟨#[114]⟩ := by
    injection q
  have e2 : (#[n] : Array Nat) = #[114] := congrArg Str.cps e
  have e3 : [n] = [114] := congrArg Array.toList e2
  injection e3
theorem fd_kind (f : Fd) (x e : Int) : (f.c0 = 114 ∧ f.rest x e = x - e) ∨ (f.c0 ≠ 114 ∧ f.rest x e = x) := by
  rcases f with ⟨k, z⟩ | y
  · cases k
    · exact .inr ⟨by show (117 : Nat) ≠ 114; decide, rfl⟩
    · exact .inr ⟨by show (115 : Nat) ≠ 114; decide, rfl⟩
    · exact .inl ⟨rfl, rfl⟩
  · exact .inr ⟨by show (110 : Nat) ≠ 114; decide, rfl⟩
theorem ifT {c : Bool} {A B : Prop} (hc : c = true) (h : A) : if c = true then A else B := by
  rw [if_pos hc]
  exact h
theorem ifF {c : Bool} {A B : Prop} (hc : c = false) (h : B) : if c = true then A else B := by
  rw [hc, if_neg Bool.false_ne_true]
  exact h
theorem cells_le (f : Fd) : f.cells ≤ 4 := by
  cases f with
  | w k z =>
    show z.n ≤ 4
    cases z <;> decide
  | n x => exact Nat.zero_le _
theorem div_pow (z : Int) (i : Nat) : z / 256 ^ i / 256 = z / 256 ^ (i + 1) := by
  rw [Int.pow_succ, Int.ediv_ediv_of_nonneg (Int.pow_nonneg (by decide))]
/-- the loop and what stands behind it -/
theorem putc_tail {f : Fd} {v : V} {x e : Int} {H : Hp} {Q : VK} {p : Addr} (hf : FdV H f v) (hp : H p = none) (k : ∀ p H', H p = none → Same H H' → H' p = some (.lst ((f.put x e).map V.int)) → Q (.ref p) H') :
    tSeq (tFor (iRng1 (tCons (tCall spCells [] E0 (tCons (tVar 0) tNil)) tNil)) (gName 5)
      (tSeq (tDrop (tBM K "list" rAppend (tVar 4) (tCons (tOp (rI (fun x j => 0 < j) fun i j => V.int (i % j)) (tCB (fun xs H Q => (∃ i, xs = [.int i] ∧ Q (.int i) H) ∨ ∃ k, xs = [.bl k] ∧ Q (.int (if k then 1 else 0)) H) (tCons (tVar 3) tNil)) (tC (.int 256))) tNil)))
        (tAsg (tOp (rI CDiv fun i j => V.int (i / j)) (tVar 3) (tC (.int 256))) (gName 3)))) (tRet (tVar 4)) { nx := fun _ H' => Q .non H', rt := Q } [some v, some (.int x), some (.int e), some (.int (f.rest x e)), some (.ref p), none] (upd H p (.lst [])) := by
  refine ⟨_, rfl, f, v, rfl, hf.ts (TS.of (same_upd' hp)), (f.cells : Int), rfl, ?_, ?_, for_range (n := f.cells) (lo := 0) (fun i σ' H' => ∃ tv, σ' = [some v, some (.int x), some (.int e), some (.int (f.rest x e / 256 ^ i)), some (.ref p), tv] ∧ Same H H' ∧ H' p = some (.lst (((List.range i).map fun k => f.rest x e / 256 ^ k % 256).map V.int))) ?_ ?_ ?_⟩
  · have := cells_le f
    omega
  · have := cells_le f
    omega
  · refine ⟨none, ?_, same_upd' hp, upd_same⟩
    rw [Int.pow_zero, Int.ediv_one]
  · rintro i σ' H' hi ⟨tv, rfl, s1, h1⟩
    have hc := cells_le f
    refine ⟨_, rfl, .inl ⟨rfl, _, SqL.of h1⟩, _, rfl, .inl ⟨_, rfl, _, _, rfl, rfl, (by show (0 : Int) < 256; decide), p, _, _, rfl, rfl, h1, ?_, ?_⟩⟩
    · rw [List.length_map, List.length_map, List.length_range]
      exact lt1000 (by omega)
    refine ⟨_, rfl, _, _, rfl, rfl, ⟨by decide, by decide⟩, some (.int (0 + (i : Nat))), ?_, same_upd s1 hp, ?_⟩
    · exact congrArg (fun z => [some v, some (V.int x), some (V.int e), some (V.int z), some (V.ref p), _]) (div_pow (f.rest x e) i)
    · rw [upd_same, List.range_succ]
      simp
  · rintro σ' H' ⟨tv, rfl, s1, h1⟩
    exact ⟨_, rfl, k p H' hp s1 h1⟩
theorem ok_putc (T : Tb mg) (D : Df K mg "field_cells" s21) (W : Pm P w K mg base "cells_in" 1 ["field"] spCells) (c : ∃ t, mg "BASE" = some (.int 256 t)) : Pm P w K mg base "field_cells" 2 ["field", "operand", "behind"] spPut := by
  obtain ⟨t, c⟩ := c
  refine Pm.of D sc21 (fun vs H Q E h => ?_) (fun _ _ _ _ _ _ us hl => match us, hl with | [_, _, _], _ => rfl) fun f cdv A outer s H vs Q E hr h => ?_
  · obtain ⟨f, v, x, e, rfl, _⟩ := h
    rfl
  · obtain ⟨f, v, x, e, rfl, hf, k⟩ := h
    refine ⟨_, pss_cons (ps_set (i := 3) sc21.nd rfl (Or.inl rfl) (pe_ifExp (pt_cmpR op_eq (pe_ix ix_seq (pv 0) pe_int (fun _ _ => rfl)) pe_str (nomark _)) (pe_op op_sub (pv 1) (pv 2)) (pv 1)))
      (pss_cons (ps_set (i := 4) sc21.nd rfl (Or.inl rfl) (pe_lst pa_nil))
      (pss_cons (ps_for PassesOwn.never rfl (pi_range1 rfl T.range (pa_cons (pe_pm W hr (pa_cons (pv 0) pa_nil)) pa_nil)) (pg_name (i := 5) sc21.nd rfl (Or.inl rfl))
        (pss_cons (ps_expr (pe_bm PySem.F.plainAttrs_list PySem.F.slot_list_append PySem.F.type_list_append mt_append (pv 4) (pa_cons (pe_op op_mod (pe_callTy call_int1 (by rfl) T.int bt_int (pa_cons (pv 3) pa_nil)) (pe_glob (v := .int 256) rfl c ⟨_, rfl⟩)) pa_nil)))
        (pss_one (ps_set (i := 3) sc21.nd rfl (Or.inl rfl) (pe_op op_fdiv (pv 3) (pe_glob (v := .int 256) rfl c ⟨_, rfl⟩))))))
      (pss_one (ps_ret (pv 4))))), ?_⟩
    have first : ∀ Q' : VK, Q' (.str ⟨#[f.c0]⟩) H → rIx K v (.int 0) H Q' := fun Q' q => fd_first hf q
    rcases fd_kind f x e with ⟨c0, er⟩ | ⟨c0, er⟩
    · refine ⟨_, rfl, first _ ⟨rfl, _, rfl, ifT (decide_eq_true (by rw [c0] <;> rfl)) ⟨_, rfl, _, rfl, _, _, rfl, rfl, ?_⟩⟩⟩
      refine gN (congrArg V.int er.symm) ?_
      refine ⟨le0, fun p hp => ?_⟩
      exact putc_tail hf hp k
    · refine ⟨_, rfl, first _ ⟨rfl, _, rfl, ifF (decide_eq_false fun q => c0 ?_) ⟨_, rfl, ?_⟩⟩⟩
      · exact c1 q
      refine gN (congrArg V.int er.symm) ?_
      refine ⟨le0, fun p hp => ?_⟩
      exact putc_tail hf hp k
end
end K51
set_option Elab.async false
set_option linter.all false
set_option maxRecDepth 100000
set_option maxHeartbeats 4000000
/-! scanner, lines: names; tables: is_cell .. is_free_name -/
namespace K51
open PySem PySem.Spec PyProof.Rows L2
section
variable {P : Program} {w : World} {K : PySem.W.Frag} {mg : Str → Option Value} {base : Heap}
/-! ### names -/
def letters : Str := "ABCDEFGHIJKLMNOPQRSTUVWXYZabcdefghijklmnopqrstuvwxyz_"
def signs : Str := "ABCDEFGHIJKLMNOPQRSTUVWXYZabcdefghijklmnopqrstuvwxyz_0123456789"
structure NameOk (z : Str) : Prop where
  len : z.length ≤ 40
  all : ∀ c ∈ z.cps.toList, c ∈ signs.cps.toList
  first : ∃ c, z.cps.toList[0]? = some c ∧ c ∈ letters.cps.toList
theorem len_list (z : Str) : z.length = z.cps.toList.length := by
  show z.cps.size = _
  simp
def spNameEnd : Sp := fun vs H Q _ => ∃ z : Str, vs = [.str z, .int 0] ∧ NameOk z ∧ Q (.int (z.length : Nat)) H
theorem sc27 : FnScope ["line", "at", "end"] ["line", "at"] (defScope s27) := ⟨rfl, rfl, rfl, by decide +kernel, rfl, by decide +kernel, by decide +kernel⟩
theorem ok_nameEnd (T : Tb mg) (D : Df K mg "name_end" s27) (c : ∃ t, mg "NAME_SIGNS" = some (.str signs t)) (d : ∃ t, mg "LETTERS" = some (.str letters t)) (m : ∃ t, mg "MAX_NAME" = some (.int 40 t)) : Pm P w K mg base "name_end" 1 ["line", "at"] spNameEnd := by
  obtain ⟨tc, c⟩ := c
  obtain ⟨td, d⟩ := d
  obtain ⟨tm, m⟩ := m
  refine Pm.of D sc27 (fun vs H Q E h => ?_) (fun _ _ _ _ _ _ us hl => match us, hl with | [_, _], _ => rfl) fun f cdv A outer s H vs Q E hr h => ?_
  · obtain ⟨z, rfl, _⟩ := h
    rfl
  · obtain ⟨z, rfl, ⟨h1, h2, a0, h3, h4⟩, k⟩ := h
    have hz : z.length ≤ sizeLine := Nat.le_of_lt (lt1000 (by omega))
    refine ⟨_, pss_cons (ps_set (i := 2) sc27.nd rfl (Or.inl rfl) (pv 1))
      (pss_cons (ps_while PassesOwn.never
        (PW.pt (pw_and (pt_cmpR op_lt (pv 2) (pe_callB call_len_str (by rfl) T.len PySem.boot_len (pa_cons (pv 0) pa_nil)) (nomark _))
          (pw_and (pt_cmpR op_lt (pe_op op_sub (pv 2) (pv 1)) (pe_glob (v := .int 40) rfl m ⟨_, rfl⟩) (nomark _))
          (pw_and (pt_cmpR op_in_sign (pe_ix ix_str (pv 0) (pv 2) (fun _ _ => rfl)) (pe_glob (v := .str signs) rfl c ⟨_, rfl⟩) rfl)
          (pw_and1 (PW.pt (pw_or (pt_cmpR op_gt (pv 2) (pv 1) (nomark _)) (pw_or1 (pt_cmpR op_in_sign (pe_ix ix_str (pv 0) (pv 1) (fun _ _ => rfl)) (pe_glob (v := .str letters) rfl d ⟨_, rfl⟩) rfl)))))))))
        (pss_one (ps_set (i := 2) sc27.nd rfl (Or.inl rfl) (pe_op op_add (pv 2) pe_int))))
      (pss_one (ps_ret (pv 2)))), ?_⟩
    refine ⟨_, rfl, ?_⟩
    refine ⟨fun n σ' H' => ∃ i : Nat, n = z.length - i ∧ i ≤ z.length ∧ σ' = [some (.str z), some (.int 0), some (.int (i : Nat))] ∧ H' = H, ⟨z.length, 0, rfl, Nat.zero_le _, rfl, rfl⟩, ?_⟩
    rintro n σ' H' ⟨i, rfl, hi, rfl, rfl⟩
    refine ⟨_, rfl, _, rfl, z, rfl, hz, _, _, rfl, rfl, _, rfl, ?_⟩
    by_cases hlt : i < z.length
    · refine ifT (decide_eq_true (by omega)) ⟨_, rfl, _, rfl, _, _, rfl, rfl, _, _, rfl, rfl, _, rfl, ifT (decide_eq_true (by omega)) ?_⟩
      obtain ⟨ci, hci⟩ : ∃ ci, z.cps.toList[i]? = some ci := ⟨z.cps.toList[i]'(by rw [← len_list]; exact hlt), List.getElem?_eq_getElem _⟩
      refine ⟨_, rfl, _, rfl, z, _, ci, rfl, rfl, hz, atI_nat hci, ci, signs, rfl, rfl, _, rfl, ifT (decide_eq_true (h2 ci (List.mem_of_getElem? hci))) ?_⟩
      refine ⟨_, rfl, _, rfl, _, _, rfl, rfl, _, rfl, ?_⟩
      have fin : ∃ N : L2.St → Hp → Prop, (∀ σ'' H'', N σ'' H'' → ∃ m', m' < z.length - i ∧ ∃ i' : Nat, m' = z.length - i' ∧ i' ≤ z.length ∧ σ'' = [some (.str z), some (.int 0), some (.int (i' : Nat))] ∧ H'' = H') ∧ N [some (.str z), some (.int 0), some (.int ((i : Nat) + 1))] H' :=
        ⟨fun σ'' H'' => σ'' = [some (.str z), some (.int 0), some (.int ((i : Nat) + 1))] ∧ H'' = H', fun σ'' H'' q => ⟨z.length - (i + 1), by omega, i + 1, rfl, hlt, by rw [q.1]; rfl, q.2⟩, rfl, rfl⟩
      obtain ⟨Nx, n1, n2⟩ := fin
      by_cases h0 : 0 < i
      · exact ifT (decide_eq_true (by omega)) (iteT ⟨Nx, n1, _, rfl, _, _, rfl, rfl, n2⟩)
      · have e0 : i = 0 := by omega
        subst e0
        refine ifF (decide_eq_false (by omega)) ⟨_, rfl, _, rfl, z, _, a0, rfl, rfl, hz, atI_nat (j := 0) h3, a0, letters, rfl, rfl, _, rfl, ?_⟩
        exact ifT (decide_eq_true h4) ⟨Nx, n1, _, rfl, _, _, rfl, rfl, n2⟩
    · refine ifF (decide_eq_false (by omega)) (iteF ⟨_, rfl, ?_⟩)
      have e : i = z.length := by omega
      rw [e]
      exact k
def spName : Sp := fun vs H Q _ => ∃ z : Str, vs = [.str z] ∧ NameOk z ∧ Q (.bl true) H
theorem sc30 : FnScope ["value"] ["value"] (defScope s30) := ⟨rfl, rfl, rfl, by decide +kernel, rfl, by decide +kernel, by decide +kernel⟩
theorem ok_name (T : Tb mg) (D : Df K mg "is_name" s30) (W : Pm P w K mg base "name_end" 1 ["line", "at"] spNameEnd) : Pm P w K mg base "is_name" 2 ["value"] spName := by
  refine Pm.of D sc30 (fun vs H Q E h => ?_) (fun _ _ _ _ _ _ us hl => match us, hl with | [_], _ => rfl) fun f cdv A outer s H vs Q E hr h => ?_
  · obtain ⟨z, rfl, _⟩ := h
    rfl
  · obtain ⟨z, rfl, N, k⟩ := h
    have hz : z.length ≤ sizeLine := Nat.le_of_lt (lt1000 (by have := N.len; omega))
    refine ⟨_, pss_one (ps_ret (pe_and (pe_isi T T.str bt_str (pv 0)) (pe_and (pe_cmpR op_ne (pv 0) pe_str (nomark _)) (pe_one (pe_cmpR op_eq (pe_pm W hr (pa_cons (pv 0) (pa_cons pe_int pa_nil))) (pe_callB call_len_str (by rfl) T.len PySem.boot_len (pa_cons (pv 0) pa_nil)) (nomark _)))))), ?_⟩
    refine ⟨_, rfl, "str", true, .base (.str _), by decide +kernel, _, rfl, iteT ⟨_, rfl, rfl, _, rfl, ifT ?_ ⟨_, rfl, z, rfl, N, _, rfl, z, rfl, hz, rfl, ?_⟩⟩⟩
    · obtain ⟨_, _, a0, h3, _⟩ := N
      have e : ¬ V.str z = V.str "" := fun q => by
        injection q with q
        rw [q] at h3
        have e : (Str.ofString "").cps.toList[0]? = none := by decide +kernel
        have h3 : (Str.ofString "").cps.toList[0]? = some a0 := h3
        rw [e] at h3
        cases h3
      rw [decide_eq_false e]
      rfl
    · rw [decide_eq_true rfl]
      exact k
def reserved : List V := [.str "mod", .str "macro", .str "endmacro", .str "repeat", .str "endrepeat", .str "if", .str "ifsame", .str "else", .str "endif", .str "set", .str "section", .str "byte", .str "word", .str "long", .str "text", .str "space", .str "align", .str "scope", .str "endscope", .str "export", .str "import"]
def spReserved : Sp := fun vs H Q _ => ∃ z : Str, vs = [.str z] ∧ Q (.bl (inV (.str z) reserved)) H
theorem sc31 : FnScope ["value"] ["value"] (defScope s31) := ⟨rfl, rfl, rfl, by decide +kernel, rfl, by decide +kernel, by decide +kernel⟩
theorem ok_reserved (T : Tb mg) (D : Df K mg "is_reserved" s31) (d : ∃ a, mg "RESERVED" = some (.ref a) ∧ ∀ H, SqT K H a reserved) : Pm P w K mg base "is_reserved" 1 ["value"] spReserved := by
  obtain ⟨a, d, dt⟩ := d
  refine Pm.of D sc31 (fun vs H Q E h => ?_) (fun _ _ _ _ _ _ us hl => match us, hl with | [_], _ => rfl) fun f cdv A outer s H vs Q E hr h => ?_
  · obtain ⟨z, rfl, _⟩ := h
    rfl
  · obtain ⟨z, rfl, k⟩ := h
    refine ⟨_, pss_one (ps_ret (pe_and (pe_isi T T.str bt_str (pv 0)) (pe_one (pe_cmpR op_in_seq (pv 0) (pe_glob (v := .ref a) rfl d rfl) rfl)))), ?_⟩
    refine ⟨_, rfl, "str", true, .base (.str _), by decide +kernel, _, rfl, iteT ⟨_, rfl, a, reserved, rfl, .inr (dt _), rfl, by decide +kernel, ?_⟩⟩
    rw [if_neg (by decide)]
    exact k
theorem sc38 : FnScope ["value"] ["value"] (defScope s38) := ⟨rfl, rfl, rfl, by decide +kernel, rfl, by decide +kernel, by decide +kernel⟩
theorem ok_cell (D : Df K mg "is_cell" s38) (W : Pm P w K mg base "is_whole" 1 ["value", "least", "most"] spWhole) (c : ∃ t, mg "MOST_CELL" = some (.int 255 t)) : Pm P w K mg base "is_cell" 2 ["value"] (spIn 0 255) := by
  obtain ⟨t, c⟩ := c
  refine Pm.of D sc38 (fun vs H Q E h => ?_) (fun _ _ _ _ _ _ us hl => match us, hl with | [_], _ => rfl) fun f cdv A outer s H vs Q E hr h => ?_
  · obtain ⟨v, rfl, _⟩ := h
    rfl
  · obtain ⟨v, rfl, k⟩ := h
    refine ⟨_, pss_one (ps_ret (pe_pm W hr (pa_cons (pv 0) (pa_cons pe_int (pa_cons (pe_glob (v := .int 255) rfl c ⟨_, rfl⟩) pa_nil))))), ?_⟩
    exact ⟨_, rfl, v, 0, 255, rfl, k⟩
/-! ### is_tuple_of -/
def spTupleOf : Sp := fun vs H Q _ => ∃ (a : Addr) (xs : List V) (lo hi : Int), vs = [.ref a, .int lo, .int hi] ∧ H a = some (.tup xs) ∧ lo ≤ xs.length ∧ (xs.length : Int) ≤ hi ∧ Q (.bl true) H
theorem sc39 : FnScope ["value", "least", "most"] ["value", "least", "most"] (defScope s39) := ⟨rfl, rfl, rfl, by decide +kernel, rfl, by decide +kernel, by decide +kernel⟩
theorem ok_tupleOf (T : Tb mg) (D : Df K mg "is_tuple_of" s39) : Pm P w K mg base "is_tuple_of" 1 ["value", "least", "most"] spTupleOf := by
  refine Pm.of D sc39 (fun vs H Q E h => ?_) (fun _ _ _ _ _ _ us hl => match us, hl with | [_, _, _], _ => rfl) fun f cdv A outer s H vs Q E hr h => ?_
  · obtain ⟨a, xs, lo, hi, rfl, _⟩ := h
    rfl
  · obtain ⟨a, xs, lo, hi, rfl, ha, h1, h2, k⟩ := h
    refine ⟨_, pss_one (ps_ret (pe_and (pe_isi T T.tuple bt_tuple (pv 0)) (pe_one (pe_chain op_le op_le (pv 1) (pe_callB call_len_seq (by rfl) T.len PySem.boot_len (pa_cons (pv 0) pa_nil)) (pv 2))))), ?_⟩
    refine ⟨_, rfl, "tuple", true, .base (.tup ha), by decide +kernel, _, rfl, iteT ⟨_, rfl, _, rfl, a, _, rfl, .inr (SqT.of ha), _, _, rfl, rfl, _, rfl, ifT (decide_eq_true h1) ⟨_, rfl, _, _, rfl, rfl, ?_⟩⟩⟩
    exact asV (Q := Q) (congrArg V.bl (decide_eq_true h2)) k
/-! ### is_free_name -/
structure FreeName (z : Str) : Prop where
  nm : NameOk z
  res : inV (.str z) reserved = false
def spFree : Sp := fun vs H Q _ => ∃ z : Str, vs = [.str z] ∧ FreeName z ∧ Q (.bl true) H
theorem sc40 : FnScope ["value"] ["value"] (defScope s40) := ⟨rfl, rfl, rfl, by decide +kernel, rfl, by decide +kernel, by decide +kernel⟩
theorem ok_free (D : Df K mg "is_free_name" s40) (W : Pm P w K mg base "is_name" 2 ["value"] spName) (R : Pm P w K mg base "is_reserved" 1 ["value"] spReserved) : Pm P w K mg base "is_free_name" 3 ["value"] spFree := by
  refine Pm.of D sc40 (fun vs H Q E h => ?_) (fun _ _ _ _ _ _ us hl => match us, hl with | [_], _ => rfl) fun f cdv A outer s H vs Q E hr h => ?_
  · obtain ⟨z, rfl, _⟩ := h
    rfl
  · obtain ⟨z, rfl, N, k⟩ := h
    refine ⟨_, pss_one (ps_ret (pe_and (pe_pm W hr (pa_cons (pv 0) pa_nil)) (pe_one (pe_not (pe_pm R (hr.mono (by decide)) (pa_cons (pv 0) pa_nil)))))), ?_⟩
    refine ⟨_, rfl, z, rfl, N.nm, _, rfl, iteT ⟨_, rfl, z, rfl, _, rfl, ?_⟩⟩
    rw [N.res]
    exact k
end
end K51
set_option Elab.async false
set_option linter.all false
set_option maxRecDepth 100000
set_option maxHeartbeats 4000000
/-! tables: is_form .. do_clash, need_operands, need_address -/
namespace K51
open PySem PySem.Spec PyProof.Rows L2
abbrev s41 : Stmt := top 41
abbrev s42 : Stmt := top 42
abbrev s43 : Stmt := top 43
abbrev s44 : Stmt := top 44
abbrev s47 : Stmt := top 47
abbrev s48 : Stmt := top 48
/-! ### data of whole numbers -/
theorem eqv_ints : ∀ xs ys : List Int, PyData.eqvAll (xs.map PyData.int) (ys.map PyData.int) = decide (xs = ys)
  | [], [] => by simp [PyData.eqvAll]
  | [], _ :: _ => by simp [PyData.eqvAll]
  | _ :: _, [] => by simp [PyData.eqvAll]
  | x :: xs, y :: ys => by
    have ih := eqv_ints xs ys
    simp only [List.map_cons, PyData.eqvAll, PyData.eqv, ih]
    by_cases e : x = y
    · subst e
      simp
    · have q : (x == y) = false := beq_eq_false_iff_ne.mpr e
      rw [q, decide_eq_false fun z => e (List.cons.inj z).1, Bool.false_and]
theorem can_ints : ∀ xs : List Int, PyData.canLayAll0 (xs.map PyData.int) = true
  | [] => by simp [PyData.canLayAll0]
  | x :: xs => by simp [PyData.canLayAll0, PyData.canLay0, can_ints xs]
theorem depth_ints : ∀ xs : List Int, PyData.depthAll (xs.map PyData.int) = 0
  | [] => by simp [PyData.depthAll]
  | x :: xs => by simp [PyData.depthAll, PyData.depth, depth_ints xs]
theorem shaped_tints (xs : List Int) : SeqAt.shaped (.tuple (xs.map PyData.int)) = true := by
  show (PyData.canLay0 _ && decide (PyData.depth _ ≤ 64)) = true
  simp only [PyData.canLay0, PyData.depth, can_ints, depth_ints]
  decide
theorem dp_ints {K : PySem.W.Frag} {H : Hp} : ∀ xs : List Int, DpAll K H (xs.map V.int) (xs.map PyData.int)
  | [] => .nil
  | x :: xs => .cons (.int x) (dp_ints xs)
def clash (xs ys : List Int) : Bool := decide (xs.take ys.length = ys) || decide (ys.take xs.length = xs)
section
variable {P : Program} {w : World} {K : PySem.W.Frag} {mg : Str → Option Value} {base : Heap}
/-! ### is_form -/
structure OkFm (F : Fm) : Prop where
  o1 : 1 ≤ F.op.length
  o3 : F.op.length ≤ 3
  cell : ∀ c ∈ F.op, 0 ≤ c ∧ c ≤ 255
  f4 : F.fs.length ≤ 4
  fd : ∀ f ∈ F.fs, okF f
def spForm : Sp := fun vs H Q _ => ∃ F v, vs = [v] ∧ FmV H F v ∧ OkFm F ∧ ∀ H', Same H H' → Q (.bl true) H'
theorem sc41 : FnScope ["value", "cell", "field"] ["value"] (defScope s41) := ⟨rfl, rfl, rfl, by decide +kernel, rfl, by decide +kernel, by decide +kernel⟩
theorem all_true {α : Type} (xs : List α) : (xs.map fun _ => true).all id = true := by
  induction xs with
  | nil => rfl
  | cons x xs ih => simpa using ih
theorem ok_form (T : Tb mg) (D : Df K mg "is_form" s41) (W : Pm P w K mg base "is_tuple_of" 1 ["value", "least", "most"] spTupleOf) (C : Pm P w K mg base "is_cell" 2 ["value"] (spIn 0 255)) (G : Pm P w K mg base "is_field" 3 ["value"] spField)
    (c : ∃ t, mg "MOST_OPCODE" = some (.int 3 t)) (d : ∃ t, mg "MOST_OPERANDS" = some (.int 4 t)) : Pm P w K mg base "is_form" 4 ["value"] spForm := by
  obtain ⟨tc, c⟩ := c
  obtain ⟨td, d⟩ := d
  refine Pm.of D sc41 (fun vs H Q E h => ?_) (fun _ _ _ _ _ _ us hl => match us, hl with | [_], _ => rfl) fun f cdv A outer s H vs Q E hr h => ?_
  · obtain ⟨F, v, rfl, _⟩ := h
    rfl
  · obtain ⟨F, v, rfl, ⟨a, x, y, rfl, ha, ⟨b, rfl, hb⟩, e, fvs, rfl, he, hfs⟩, O, k⟩ := h
    have hr1 : Room 1 _ := hr.mono (by decide)
    refine ⟨_, pss_cons (ps_if (PW.pt (pw_or (pt_not (pt_val (pe_pm W hr1 (pa_cons (pv 0) (pa_cons pe_int (pa_cons pe_int pa_nil))))))
          (pw_or1 (pt_not (pt_val (pe_pm W hr1 (pa_cons (pe_ix ix_tup (pv 0) pe_int (fun _ _ => rfl)) (pa_cons pe_int (pa_cons (pe_glob (v := .int 3) rfl c ⟨_, rfl⟩) pa_nil)))))))))
        (pss_one (ps_ret pe_bl)) pss_nil)
      (pss_cons (ps_if (PW.pt (pw_or (pt_not (pt_val (pe_callB (cr_all rfl) (by rfl) T.all (by decide +kernel) (pa_cons
            (pe_lc (own := [("cell", 1)]) (g := gName 1) (tt := tYes) rfl sc41.nd (pi_tup (pe_ix ix_tup (pv 0) pe_int (fun _ _ => rfl))) (blkOk_by (N := ["value", "cell", "field"]) (sc := defScope s41) (by decide +kernel))
              (fun _ _ _ _ _ => pg_name (i := 1) sc41.nd rfl (Or.inl rfl)) (fun _ _ _ _ _ => pts_nil) (fun _ _ _ _ _ => pe_pm C (hr.mono (by decide)) (pa_cons (pv 1) pa_nil))) pa_nil))))
          (pw_or1 (pt_not (pt_val (pe_pm W hr1 (pa_cons (pe_ix ix_tup (pv 0) pe_int (fun _ _ => rfl)) (pa_cons pe_int (pa_cons (pe_glob (v := .int 4) rfl d ⟨_, rfl⟩) pa_nil)))))))))
        (pss_one (ps_ret pe_bl)) pss_nil)
      (pss_one (ps_ret (pe_callB (cr_all rfl) (by rfl) T.all (by decide +kernel) (pa_cons
            (pe_lc (own := [("field", 2)]) (g := gName 2) (tt := tYes) rfl sc41.nd (pi_tup (pe_ix ix_tup (pv 0) pe_int (fun _ _ => rfl))) (blkOk_by (N := ["value", "cell", "field"]) (sc := defScope s41) (by decide +kernel))
              (fun _ _ _ _ _ => pg_name (i := 2) sc41.nd rfl (Or.inl rfl)) (fun _ _ _ _ _ => pts_nil) (fun _ _ _ _ _ => pe_pm G hr (pa_cons (pv 2) pa_nil))) pa_nil))))), ?_⟩
    refine ⟨_, rfl, a, _, 2, 2, rfl, ha, Int.le_refl 2, Int.le_refl 2, _, rfl, iteF ?_⟩
    refine ⟨_, rfl, a, _, _, _, rfl, rfl, SqT.of ha, atI_nat (j := 0) rfl, b, _, 1, 3, rfl, hb, ?_, ?_, _, rfl, iteF ?_⟩
    · rw [List.length_map]
      have := O.o1
      omega
    · rw [List.length_map]
      have := O.o3
      omega
    refine ⟨_, rfl, a, _, _, _, rfl, rfl, SqT.of ha, atI_nat (j := 0) rfl, b, rfl, ⟨_, SqT.of hb⟩, fun p hp => ?_⟩
    refine lc_pure (ys := (F.op.map fun _ => true).map V.bl) hp (fun x => rfl) (by simp) ?_ (SqT.of hb) (fun i x y H1 Q1 hx hy s1 q => ?_) fun H1 s1 h1 => ?_
    · rw [List.length_map]
      exact lt1000 (by have := O.o3; omega)
    · rw [List.getElem?_map] at hx
      obtain ⟨n, hn, rfl⟩ := Option.map_eq_some_iff.mp hx
      have hc := O.cell n (List.mem_of_getElem? hn)
      have hy' : y = V.bl true := by
        rw [List.getElem?_map, List.getElem?_map, hn] at hy
        exact (Option.some.inj hy).symm
      subst hy'
      refine ⟨_, rfl, n, rfl, ?_⟩
      exact asV (Q := Q1) (congrArg V.bl (by rw [decide_eq_true hc.1, decide_eq_true hc.2] <;> rfl)) (q H1 (Same.refl _))
    refine ⟨p, F.op.map fun _ => true, rfl, SqL.of h1, _, rfl, ?_⟩
    rw [all_true]
    refine iteF ?_
    refine ⟨_, rfl, a, _, _, _, rfl, rfl, SqT.of (s1 _ _ ha), atI_nat (j := 1) rfl, e, _, 0, 4, rfl, s1 _ _ he, Int.natCast_nonneg _, ?_, _, rfl, iteF ?_⟩
    · have := hfs.length
      have := O.f4
      omega
    refine ⟨_, rfl, a, _, _, _, rfl, rfl, SqT.of (s1 _ _ ha), atI_nat (j := 1) rfl, e, rfl, ⟨_, SqT.of (s1 _ _ he)⟩, fun p2 hp2 => ?_⟩
    refine lc_pure (ys := (fvs.map fun _ => true).map V.bl) hp2 (fun x => rfl) (by simp) ?_ (SqT.of (s1 _ _ he)) (fun i x y H2 Q1 hx hy s2 q => ?_) fun H2 s2 h2 => ?_
    · have := hfs.length
      have := O.f4
      exact lt1000 (by omega)
    · obtain ⟨fd, hfd, hv⟩ := Paired.at hfs hx
      have hy' : y = V.bl true := by
        rw [List.getElem?_map, List.getElem?_map, hx] at hy
        exact (Option.some.inj hy).symm
      subst hy'
      exact ⟨_, rfl, fd, x, rfl, hv.ts (TS.of (s1.trans s2)), O.fd fd (List.mem_of_getElem? hfd), q H2 (Same.refl _)⟩
    refine ⟨p2, fvs.map fun _ => true, rfl, SqL.of h2, ?_⟩
    rw [all_true]
    exact k H2 (s1.trans s2)
/-! ### length_of -/
def spLen : Sp := fun vs H Q _ => ∃ F v, vs = [v] ∧ FmV H F v ∧ OkFm F ∧ ∀ H', Same H H' → Q (.int (F.len : Nat)) H'
theorem sc42 : FnScope ["form", "opcode", "fields", "field"] ["form"] (defScope s42) := ⟨rfl, rfl, rfl, by decide +kernel, rfl, by decide +kernel, by decide +kernel⟩
theorem sum_cells : ∀ fs : List Fd, (fs.map fun f => ((f.cells : Nat) : Int)).sum = (((fs.map Fd.cells).sum : Nat) : Int)
  | [] => rfl
  | f :: fs => by
    simp only [List.map_cons, List.sum_cons, sum_cells fs]
    omega
theorem OkFm.op_le {F : Fm} (O : OkFm F) : (F.op.map V.int).length ≤ sizeLine := by
  rw [List.length_map]
  exact Nat.le_of_lt (lt1000 (by have := O.o3; omega))
theorem ok_len (T : Tb mg) (D : Df K mg "length_of" s42) (W : Pm P w K mg base "cells_in" 1 ["field"] spCells) : Pm P w K mg base "length_of" 2 ["form"] spLen := by
  refine Pm.of D sc42 (fun vs H Q E h => ?_) (fun _ _ _ _ _ _ us hl => match us, hl with | [_], _ => rfl) fun f cdv A outer s H vs Q E hr h => ?_
  · obtain ⟨F, v, rfl, _⟩ := h
    rfl
  · obtain ⟨F, v, rfl, ⟨a, x, y, rfl, ha, ⟨b, rfl, hb⟩, e, fvs, rfl, he, hfs⟩, O, k⟩ := h
    refine ⟨_, pss_cons (ps_asg (pv 0) (pg_tup (by rfl) (pgs_cons (pg_name (i := 1) sc42.nd rfl (Or.inl rfl)) (pgs_cons (pg_name (i := 2) sc42.nd rfl (Or.inl rfl)) pgs_nil))))
      (pss_one (ps_ret (pe_op op_add (pe_callB call_len_seq (by rfl) T.len PySem.boot_len (pa_cons (pv 1) pa_nil)) (pe_callB (cr_sum rfl) (by rfl) T.sum (by decide +kernel) (pa_cons
            (pe_lc (own := [("field", 3)]) (g := gName 3) (tt := tYes) rfl sc42.nd (pi_tup (pv 2)) (blkOk_by (N := ["form", "opcode", "fields", "field"]) (sc := defScope s42) (by decide +kernel))
              (fun _ _ _ _ _ => pg_name (i := 3) sc42.nd rfl (Or.inl rfl)) (fun _ _ _ _ _ => pts_nil) (fun _ _ _ _ _ => pe_pm W hr (pa_cons (pv 3) pa_nil))) pa_nil))))), ?_⟩
    refine ⟨_, rfl, a, _, rfl, SqT.of ha, rfl, _, _, rfl, _, _, rfl, rfl, ?_⟩
    refine ⟨_, rfl, b, _, rfl, .inr (SqT.of hb), _, rfl, e, rfl, ⟨_, SqT.of he⟩, fun p hp => ?_⟩
    refine lc_pure (ys := (F.fs.map fun f => ((f.cells : Nat) : Int)).map V.int) hp (fun x => rfl) (by simp [hfs.length]) ?_ (SqT.of he) (fun i x y H2 Q1 hx hy s2 q => ?_) fun H2 s2 h2 => ?_
    · have := hfs.length
      have := O.f4
      exact lt1000 (by omega)
    · obtain ⟨fd, hfd, hv⟩ := Paired.at hfs hx
      have hy' : y = V.int ((fd.cells : Nat) : Int) := by
        rw [List.getElem?_map, List.getElem?_map, hfd] at hy
        exact (Option.some.inj hy).symm
      subst hy'
      exact ⟨_, rfl, fd, x, rfl, hv.ts (TS.of s2), q H2 (Same.refl _)⟩
    refine ⟨p, _, rfl, SqL.of h2, _, _, rfl, rfl, ?_⟩
    refine asV (Q := Q) (congrArg V.int ?_) (k H2 s2)
    rw [List.length_map, sum_cells]
    unfold Fm.len
    omega
/-! ### can_follow -/
def spFollow : Sp := fun vs H Q _ => ∃ F G v u, vs = [v, u] ∧ FmV H F v ∧ FmV H G u ∧ OkFm F ∧ OkFm G ∧ F.fs.length = G.fs.length ∧ F.len < G.len ∧ ∀ H', Same H H' → Q (.bl true) H'
theorem sc43 : FnScope ["before", "form"] ["before", "form"] (defScope s43) := ⟨rfl, rfl, rfl, by decide +kernel, rfl, by decide +kernel, by decide +kernel⟩
theorem ok_follow (T : Tb mg) (D : Df K mg "can_follow" s43) (W : Pm P w K mg base "length_of" 2 ["form"] spLen) : Pm P w K mg base "can_follow" 3 ["before", "form"] spFollow := by
  refine Pm.of D sc43 (fun vs H Q E h => ?_) (fun _ _ _ _ _ _ us hl => match us, hl with | [_, _], _ => rfl) fun f cdv A outer s H vs Q E hr h => ?_
  · obtain ⟨F, G, v, u, rfl, _⟩ := h
    rfl
  · obtain ⟨F, G, v, u, rfl, hF, hG, OF, OG, h1, h2, k⟩ := h
    refine ⟨_, pss_one (ps_ret (pe_and (pe_cmpR op_eq (pe_callB call_len_seq (by rfl) T.len PySem.boot_len (pa_cons (pe_ix ix_tup (pv 0) pe_int (fun _ _ => rfl)) pa_nil)) (pe_callB call_len_seq (by rfl) T.len PySem.boot_len (pa_cons (pe_ix ix_tup (pv 1) pe_int (fun _ _ => rfl)) pa_nil)) (nomark _))
      (pe_one (pe_cmpR op_lt (pe_pm W hr (pa_cons (pv 0) pa_nil)) (pe_pm W hr (pa_cons (pv 1) pa_nil)) (nomark _))))), ?_⟩
    obtain ⟨a, x, y, rfl, ha, _, e, fvs, rfl, he, hfs⟩ := id hF
    obtain ⟨a', x', y', rfl, ha', _, e', fvs', rfl, he', hfs'⟩ := id hG
    refine ⟨_, rfl, a, _, _, _, rfl, rfl, SqT.of ha, atI_nat (j := 1) rfl, e, _, rfl, .inr (SqT.of he), _, rfl, a', _, _, _, rfl, rfl, SqT.of ha', atI_nat (j := 1) rfl, e', _, rfl, .inr (SqT.of he'), rfl, _, rfl, ifT (decide_eq_true ?_) ?_⟩
    · rw [← hfs.length, ← hfs'.length, h1]
    refine ⟨_, rfl, F, _, rfl, hF, OF, fun H1 s1 => ⟨_, rfl, G, _, rfl, hG.ts (TS.of s1), OG, fun H2 s2 => ⟨_, _, rfl, rfl, ?_⟩⟩⟩
    exact asV (Q := Q) (congrArg V.bl (decide_eq_true (by omega))) (k H2 (s1.trans s2))
/-! ### do_clash -/
def spClash : Sp := fun vs H Q _ => ∃ xs ys v u, vs = [v, u] ∧ IntsV H xs v ∧ IntsV H ys u ∧ clash xs ys = false ∧ ∀ H', Same H H' → Q (.bl false) H'
theorem sc44 : FnScope ["one", "other"] ["one", "other"] (defScope s44) := ⟨rfl, rfl, rfl, by decide +kernel, rfl, by decide +kernel, by decide +kernel⟩
/-- one[:len(other)], both tuples of whole numbers -/
theorem cut_ints {K : PySem.W.Frag} {H : Hp} {a : Addr} {xs : List Int} {n : Nat} {Q : VK} (ha : H a = some (.tup (xs.map V.int))) (q : ∀ p H', Same H H' → SqT K H' p ((xs.take n).map V.int) → Q (.ref p) H') :
    rSlA K (.ref a) none (some (n : Int)) H Q := by
  have e1 : HT.sIx (xs.map V.int).length (xs.map V.int).length (some (n : Int)) = min n xs.length := by rw [HT.sIx_nat, List.length_map]
  refine ⟨a, _, rfl, SqT.of ha, fun c => ?_, fun c p hp => q p _ (same_upd' hp) (SqT.of ?_)⟩
  · obtain ⟨_, c2⟩ := c
    rw [e1, List.length_map] at c2
    refine q a H (Same.refl H) (SqT.of ?_)
    rw [List.take_of_length_le (by omega)]
    exact ha
  · rw [upd_same]
    unfold cutV
    rw [HT.sIx_none, e1, List.drop_zero, Nat.sub_zero, ← List.map_take]
    congr 3
    by_cases h : n ≤ xs.length
    · rw [Nat.min_eq_left h]
    · rw [Nat.min_eq_right (by omega), List.take_of_length_le (Nat.le_refl _), List.take_of_length_le (by omega)]
theorem ok_clash (T : Tb mg) (D : Df K mg "do_clash" s44) : Pm P w K mg base "do_clash" 1 ["one", "other"] spClash := by
  refine Pm.of D sc44 (fun vs H Q E h => ?_) (fun _ _ _ _ _ _ us hl => match us, hl with | [_, _], _ => rfl) fun f cdv A outer s H vs Q E hr h => ?_
  · obtain ⟨xs, ys, v, u, rfl, _⟩ := h
    rfl
  · obtain ⟨xs, ys, v, u, rfl, ⟨a, rfl, ha⟩, ⟨b, rfl, hb⟩, hc, k⟩ := h
    refine ⟨_, pss_one (ps_ret (pe_or (pe_cmpR (op_eqD hr.units) (pe_slice sl_tupA (pv 0) po_none (po_some (pe_callB call_len_seq (by rfl) T.len PySem.boot_len (pa_cons (pv 1) pa_nil)))) (pv 1) (nomark _))
      (pe_one (pe_cmpR (op_eqD hr.units) (pe_slice sl_tupA (pv 1) po_none (po_some (pe_callB call_len_seq (by rfl) T.len PySem.boot_len (pa_cons (pv 0) pa_nil)))) (pv 0) (nomark _))))), ?_⟩
    have hc2 : decide (xs.take ys.length = ys) = false ∧ decide (ys.take xs.length = xs) = false := by simpa [clash] using hc
    refine ⟨_, rfl, _, rfl, b, _, rfl, .inr (SqT.of hb), _, ?_, cut_ints (n := ys.length) ha fun p H1 s1 t1 => ?_⟩
    · rw [List.length_map]
    refine ⟨_, rfl, _, _, .tup t1 (dp_ints _), .tup (SqT.of (s1 _ _ hb)) (dp_ints _), shaped_tints _, shaped_tints _, _, rfl, ifF ?_ ?_⟩
    · simp only [PyData.eqv, eqv_ints]
      exact hc2.1
    refine ⟨_, rfl, _, rfl, a, _, rfl, .inr (SqT.of (s1 _ _ ha)), _, ?_, cut_ints (n := xs.length) (s1 _ _ hb) fun p2 H2 s2 t2 => ?_⟩
    · rw [List.length_map]
    refine ⟨_, rfl, _, _, .tup t2 (dp_ints _), .tup (SqT.of (s2 _ _ (s1 _ _ ha))) (dp_ints _), shaped_tints _, shaped_tints _, ?_⟩
    refine asV (Q := Q) (congrArg V.bl ?_) (k H2 (s1.trans s2))
    simp only [PyData.eqv, eqv_ints]
    exact hc2.2
/-! ### need_operands, need_address -/
def OpsOk (ops : List Int) : Prop := ∀ v ∈ ops, 0 - 2 ^ 64 ≤ v ∧ v ≤ 2 ^ 64
def spOperands : Sp := fun vs H Q _ => ∃ F rest ops v u, vs = [v, u] ∧ FmsV H (F :: rest) v ∧ IntsV H ops u ∧ ops.length = F.fs.length ∧ ops.length ≤ 4 ∧ OpsOk ops ∧ ∀ H', Same H H' → Q .non H'
theorem sc47 : FnScope ["forms", "operands", "many", "operand"] ["forms", "operands"] (defScope s47) := ⟨rfl, rfl, rfl, by decide +kernel, rfl, by decide +kernel, by decide +kernel⟩
theorem ok_operands (T : Tb mg) (D : Df K mg "need_operands" s47) (W : Pm P w K mg base "is_tuple_of" 1 ["value", "least", "most"] spTupleOf) (C : Pm P w K mg base "is_operand" 2 ["value"] (spIn (0 - 2 ^ 64) (2 ^ 64))) : Pm P w K mg base "need_operands" 3 ["forms", "operands"] spOperands := by
  refine Pm.of D sc47 (fun vs H Q E h => ?_) (fun _ _ _ _ _ _ us hl => match us, hl with | [_, _], _ => rfl) fun f cdv A outer s H vs Q E hr h => ?_
  · obtain ⟨F, rest, ops, v, u, rfl, _⟩ := h
    rfl
  · obtain ⟨F, rest, ops, v, u, rfl, ⟨a, fvs, rfl, ha, hfs⟩, ⟨b, rfl, hb⟩, h1, h2, O, k⟩ := h
    refine ⟨_, pss_cons (ps_set (i := 2) sc47.nd rfl (Or.inl rfl) (pe_callB call_len_seq (by rfl) T.len PySem.boot_len (pa_cons (pe_ix ix_tup (pe_ix ix_tup (pv 0) pe_int (fun _ _ => rfl)) pe_int (fun _ _ => rfl)) pa_nil)))
      (pss_one (ps_if (PW.pt (pw_or (pt_not (pt_val (pe_pm W (hr.mono (by decide)) (pa_cons (pv 1) (pa_cons (pv 2) (pa_cons (pv 2) pa_nil))))))
          (pw_or1 (pt_not (pt_val (pe_callB (cr_all rfl) (by rfl) T.all (by decide +kernel) (pa_cons
            (pe_lc (own := [("operand", 3)]) (g := gName 3) (tt := tYes) rfl sc47.nd (pi_tup (pv 1)) (blkOk_by (N := ["forms", "operands", "many", "operand"]) (sc := defScope s47) (by decide +kernel))
              (fun _ _ _ _ _ => pg_name (i := 3) sc47.nd rfl (Or.inl rfl)) (fun _ _ _ _ _ => pts_nil) (fun _ _ _ _ _ => pe_pm C hr (pa_cons (pv 3) pa_nil))) pa_nil)))))))
        (pss_one ps_never) pss_nil)), ?_⟩
    cases hfs with
    | @cons _ v0 _ vs' hF hr' =>
    obtain ⟨a0, x, y, rfl, ha0, _, e, gvs, rfl, he, hgs⟩ := hF
    refine ⟨_, rfl, a, _, _, _, rfl, rfl, SqT.of ha, atI_nat (j := 0) rfl, a0, _, _, _, rfl, rfl, SqT.of ha0, atI_nat (j := 1) rfl, e, _, rfl, .inr (SqT.of he), ?_⟩
    have hl : gvs.length = ops.length := by rw [h1, ← hgs.length]
    refine ⟨_, rfl, _, rfl, _, rfl, b, _, _, _, rfl, hb, ?_, ?_, _, rfl, iteF ?_⟩
    · rw [List.length_map, hl]
      exact Int.le_refl _
    · rw [List.length_map, hl]
      exact Int.le_refl _
    refine ⟨_, rfl, b, rfl, ⟨_, SqT.of hb⟩, fun p hp => ?_⟩
    refine lc_pure (ys := (ops.map fun _ => true).map V.bl) hp (fun x => rfl) (by simp) ?_ (SqT.of hb) (fun i x y H1 Q1 hx hy s1 q => ?_) fun H1 s1 h1 => ?_
    · rw [List.length_map]
      exact lt1000 (by omega)
    · rw [List.getElem?_map] at hx
      obtain ⟨n, hn, rfl⟩ := Option.map_eq_some_iff.mp hx
      have hc := O n (List.mem_of_getElem? hn)
      have hy' : y = V.bl true := by
        rw [List.getElem?_map, List.getElem?_map, hn] at hy
        exact (Option.some.inj hy).symm
      subst hy'
      refine ⟨_, rfl, n, rfl, ?_⟩
      exact asV (Q := Q1) (congrArg V.bl (by rw [decide_eq_true hc.1, decide_eq_true hc.2] <;> rfl)) (q H1 (Same.refl _))
    refine ⟨p, ops.map fun _ => true, rfl, SqL.of h1, _, rfl, ?_⟩
    rw [all_true]
    exact iteF (k H1 s1)
def spAddress : Sp := fun vs H Q _ => ∃ v : Int, vs = [.int v] ∧ 0 ≤ v ∧ v ≤ 2 ^ 40 ∧ Q .non H
theorem sc48 : FnScope ["address"] ["address"] (defScope s48) := ⟨rfl, rfl, rfl, by decide +kernel, rfl, by decide +kernel, by decide +kernel⟩
theorem ok_needAddress (D : Df K mg "need_address" s48) (C : Pm P w K mg base "is_address" 2 ["value"] (spIn 0 (2 ^ 40))) : Pm P w K mg base "need_address" 3 ["address"] spAddress := by
  refine Pm.of D sc48 (fun vs H Q E h => ?_) (fun _ _ _ _ _ _ us hl => match us, hl with | [_], _ => rfl) fun f cdv A outer s H vs Q E hr h => ?_
  · obtain ⟨v, rfl, _⟩ := h
    rfl
  · obtain ⟨v, rfl, h0, h1, k⟩ := h
    refine ⟨_, pss_one (ps_if (pt_not (pt_val (pe_pm C hr (pa_cons (pv 0) pa_nil)))) (pss_one ps_never) pss_nil), ?_⟩
    refine ⟨_, rfl, v, rfl, _, rfl, ifF ?_ k⟩
    rw [decide_eq_true h0, decide_eq_true h1]
    rfl
end
end K51
set_option Elab.async false
set_option linter.all false
set_option maxRecDepth 100000
set_option maxHeartbeats 4000000
/-! repr of data: the guards are known; a def's promise where no guard is held -/
namespace K51
open PySem PySem.Spec PyProof.Rows L2
/-! ### repr -/
structure ShowOk (d : PyData) : Prop where
  sh : d.showable = true
  nd : d.hasDict = false
  sz : d.shown.length ≤ sizeLine
  dp : d.depth ≤ 5
def rRepr (K : PySem.W.Frag) : List V → Hp → VK → Prop := fun vs H Q => ∃ v d, vs = [v] ∧ Dp K H v d ∧ ShowOk d ∧ Q (.str d.shown) H
theorem call_reprG {X : Cx} (hg : X.A.guards = some []) (hu : X.A.units + 64 < cLine) : CallR X (.builtin "repr") (rRepr X.K) := by
  intro pins s σ H xs us Q I r h
  obtain ⟨v, d, rfl, hd, S, q⟩ := h
  obtain ⟨u, rfl, ru⟩ := vals1 r
  obtain ⟨as, rd⟩ := Dp.reads I d v u hd ru
  have big : ∀ a, u = .ref a → wpAny (model X.prog X.w) X.A (call (.builtin "repr") [u]) (EP X pins σ Q) X.xe s := fun a e => by
    subst e
    refine repr_of_reads' rd S.sh (PyData.noDict_hsm S.nd) hg (by have := S.dp; omega) (fun _ _ e => e) (fun h' t tk k => ?_) S.sz
    exact ⟨.str d.shown, H, I.kept (t' := tk) k, ⟨t, rfl⟩, q⟩
  cases hd with
  | non =>
    obtain rfl : u = Value.none := ru
    exact PySem.P.repr_of_none ⟨.str (PyData.shown .none), H, I.tok _, ⟨s.toks, by simp only [PyData.shown]⟩, q⟩
  | bl b =>
    obtain rfl : u = Value.bool b := ru
    exact PySem.P.repr_of_bool ⟨.str (PyData.shown (.bool b)), H, I.tok _, ⟨s.toks, by simp only [PyData.shown]⟩, q⟩
  | int i =>
    obtain ⟨t, rfl⟩ := (show ∃ t, u = Value.int i t from ru)
    refine PySem.P.repr_of_int ?_ ⟨.str (PyData.shown (.int i)), H, I.tok _, ⟨s.toks, by simp only [PyData.shown]⟩, q⟩
    have := S.sh
    simpa [PyData.showable] using this
  | str x =>
    obtain ⟨t, rfl⟩ := (show ∃ t, u = Value.str x t from ru)
    refine PySem.P.repr_of_str ⟨.str (PyData.shown (.str x)), H, I.tok _, ⟨s.toks, by simp only [PyData.shown]⟩, q⟩ ?_
    have := S.sz
    simpa only [PyData.shown] using this
  | lst h1 h2 => exact big _ ru
  | tup h1 h2 => exact big _ ru
/-! ### data that is shown -/
theorem int_show {i : Int} (h0 : 0 ≤ i) (h1 : i ≤ 255) : (PyData.shown (.int i)).length ≤ 13 ∧ i.natAbs.log2 < 1920 ∧ PyData.weight (.int i) ≤ 9 := by
  have h : ∀ n : Fin 256, (PyData.shown (.int (n.val : Int))).length ≤ 13 ∧ ((n.val : Int)).natAbs.log2 < 1920 ∧ PyData.weight (.int (n.val : Int)) ≤ 9 := by
    simp only [PyData.shown, PyData.weight]
    decide +kernel
  have := h ⟨i.toNat, by omega⟩
  have e : ((i.toNat : Nat) : Int) = i := by omega
  simpa only [e] using this
theorem ints_show {ns : List Int} (h : ∀ c ∈ ns, 0 ≤ c ∧ c ≤ 255) : PyData.showableAll (ns.map PyData.int) = true ∧ PyData.hasDictAll (ns.map PyData.int) = false ∧ PyData.intsShortAll 13 (ns.map PyData.int) = true ∧ PyData.weightAll (ns.map PyData.int) ≤ 10 * ns.length := by
  induction ns with
  | nil => simp [PyData.showableAll, PyData.hasDictAll, PyData.intsShortAll, PyData.weightAll]
  | cons c ns ih =>
    obtain ⟨i1, i2, i3, i4⟩ := ih fun x hx => h x (List.mem_cons_of_mem _ hx)
    obtain ⟨c0, c1⟩ := h c (List.mem_cons_self ..)
    obtain ⟨s1, s2, s3⟩ := int_show c0 c1
    refine ⟨?_, ?_, ?_, ?_⟩
    · simp only [List.map_cons, PyData.showableAll, PyData.showable, i1, decide_eq_true s2]
      rfl
    · simp only [List.map_cons, PyData.hasDictAll, PyData.hasDict, i2]
      rfl
    · simp only [List.map_cons, PyData.intsShortAll, PyData.intsShort, i3, decide_eq_true s1]
      rfl
    · simp only [List.map_cons, PyData.weightAll, List.length_cons]
      omega
theorem show_none : ShowOk .none := ⟨by simp [PyData.showable], by simp [PyData.hasDict], by simp only [PyData.shown]; decide +kernel, by simp [PyData.depth]⟩
theorem show_int {i : Int} (h0 : 0 ≤ i) (h1 : i ≤ 255) : ShowOk (.int i) := by
  obtain ⟨s1, s2, s3⟩ := int_show h0 h1
  refine ⟨by simp [PyData.showable, s2], by simp [PyData.hasDict], Nat.le_trans s1 (by decide +kernel), by simp [PyData.depth]⟩
theorem show_lnone : ShowOk (.list [.none]) := ⟨by simp [PyData.showable, PyData.showableAll], by simp [PyData.hasDict, PyData.hasDictAll], by simp only [PyData.shown, PyData.shownAll]; decide +kernel, by simp [PyData.depth, PyData.depthAll]⟩
theorem show_ints {ns : List Int} (h : ∀ c ∈ ns, 0 ≤ c ∧ c ≤ 255) (hl : ns.length ≤ 1000) : ShowOk (.tuple (ns.map PyData.int)) := by
  obtain ⟨i1, i2, i3, i4⟩ := ints_show h
  refine ⟨by simp only [PyData.showable, i1], by simp only [PyData.hasDict, i2], ?_, ?_⟩
  · have hl0 : PyData.layable0 (.tuple (ns.map PyData.int)) = true := by
      show (PyData.canLay0 _ && decide (PyData.depth _ ≤ 64) && decide (PyData.weight _ ≤ 2 ^ 20)) = true
      rw [Bool.and_eq_true, Bool.and_eq_true]
      refine ⟨⟨?_, decide_eq_true ?_⟩, decide_eq_true ?_⟩
      · simp only [PyData.canLay0, can_ints]
      · simp only [PyData.depth, depth_ints]
        omega
      · simp only [PyData.weight]
        omega
    have hi0 : PyData.intsShort 13 (.tuple (ns.map PyData.int)) = true := by simp only [PyData.intsShort, i3]
    exact Nat.le_trans (PyProof.Rows.shown_le13 hl0 hi0) (by decide +kernel)
  · simp only [PyData.depth, depth_ints]
    omega
end K51
set_option Elab.async false
set_option linter.all false
set_option maxRecDepth 100000
set_option maxHeartbeats 4000000
/-! a def's promise where no guard is held -/
namespace K51
open PySem PySem.Spec PyProof.Rows L2
structure FnG (P : Program) (w : World) (K : PySem.W.Frag) (mg : Str → Option Value) (base : Heap) (k : Nat) (f : Addr) (fd : FuncData) (ps : List Str) (sp : Sp) : Prop where
  len : ∀ vs H Q E, sp vs H Q E → vs.length = ps.length
  run : ∀ (A : Around) (outer : List Env) (s : Shared) (H : Hp) (args : Args) (us : List Value) (vs : List V) (Q : VK) (E : XK), Room k A → A.guards = some [] → Env0 P w K mg base A outer s H → BindsTo s fd args (ps.zip us) → Vals vs us → sp vs H Q E →
    codeAny (model P w) A (.call (.ref f) args) (CR CX0 outer P w H s Q E) s
section
variable {P : Program} {w : World} {K : PySem.W.Frag} {mg : Str → Option Value} {base : Heap}
theorem deeper_guards (A : Around) (env : Env) : (A.deeper env).guards = A.guards := by
  first
    | rfl
    | simp [Around.deeper]
theorem FnG.of {x qual : Str} {params : Arguments} {body : List Stmt} {scope : Scope} {dvs : List V} {kws : List (Str × V)} {f : Addr} {fd : FuncData} {N ps : List Str} {k : Nat} {sp : Sp} (F : FunD K x qual params body scope dvs kws f fd) (S : FnScope N ps scope) (len : ∀ vs H Q E, sp vs H Q E → vs.length = ps.length)
    (hbody : ∀ (cdv : Value) (A : Around) (outer : List Env) (s : Shared) (H : Hp) (vs : List V) (Q : VK) (E : XK), Room k (A.deeper (envOfC qual scope s.heap.objs.size f cdv)) → (A.deeper (envOfC qual scope s.heap.objs.size f cdv)).guards = some [] → sp vs H Q E →
      ∃ t, PSs (cxOf CX0 P w K mg base N qual scope f cdv A outer s H E).nox body t ∧ t { nx := fun _ H' => Q .non H', rt := Q } (start N vs) H) : FnG P w K mg base (k + 1) f fd ps sp := by
  obtain ⟨oc, od, dV, kV, doc, pm, an, cdv, ct, osl, rfl, lk, hcd, _, _⟩ := F.ex
  refine ⟨len, fun A outer s H args us vs Q E hr hg e0 hb r hsp => ?_⟩
  have old : ∀ b o, base.get? b = some o → s.heap.get? b = some o := fun b o e => (e0.bs b o e).1
  have inK := e0.mod.kin.keeps old
  have nolim := e0.mod.nolimit.keeps old
  have sorts : ∀ y ∈ ps.zip us, scope.names.lookup y.1 = some .local ∨ (scope.names.lookup y.1 = some .cell ∧ ((cellsFrom (s.heap.objs.size + 1) scope.names []).lookup y.1).isSome = true) := fun y hy =>
    (S.par y.1 (List.of_mem_zip (a := y.1) (b := y.2) hy).1).elim Or.inl fun q => Or.inr ⟨q, PySem.W.cellsFrom_some _ _ _ (Or.inl q)⟩
  refine codeAny_call_function hr.depth (inK _ _ lk) rfl S.co S.gen rfl (PySem.W.codeRec_of inK hcd) (hb _ _ _ _ (wpAny_newFunctionEnv_cells S.kind sorts fun env he s1 x => ?_))
  subst he
  obtain ⟨t, ht, hq⟩ := hbody cdv A outer s H vs Q E (hr.deeper _) ((deeper_guards A _).trans hg) hsp
  have J := inv_start (CX := CX0) (P := P) (w := w) (K := K) (mg := mg) (base := base) (E := E) S hr.hd e0 (len _ _ _ _ hsp) r x
  refine ⟨nolim.keeps x.toInCall.keep, codeAny_func (wpAny_mono (ht.nox.run [] s1 _ H _ J hq) (fun fl s' hs => ?_) fun e s' hs => hs)⟩
  have done : ∀ {σ' : L2.St} {H' : Hp} {v : V} {u : Value}, L2.Inv (cxOf CX0 P w K mg base N qual scope f cdv A outer s H E) [] σ' H' s' → RelV v u → Q v H' → CE outer P w H s Q u s' := fun {σ' H' v u} I rv q => ⟨v, H', I.os, I.bare, I.base, I.hok, rv, q⟩
  cases fl with
  | next =>
    obtain ⟨σ', H', I, q⟩ := hs
    exact done (v := V.non) (u := Value.none) I rfl q
  | ret u =>
    obtain ⟨v, σ', H', I, rv, q⟩ := hs
    exact done I rv q
  | brk =>
    obtain ⟨_, _, _, q⟩ := hs
    exact q.elim
  | cont =>
    obtain ⟨_, _, _, q⟩ := hs
    exact q.elim
end
section
variable {X : Cx} {k : Nat} {f : Addr} {fd : FuncData} {ps : List Str} {sp : Sp} {x : Str} {p pos : Pos} {e : Expr} {es : List Expr} {t : TA}
/-- a def with a promise, where no guard is held -/
def PmG (P : Program) (w : World) (K : PySem.W.Frag) (mg : Str → Option Value) (base : Heap) (x : Str) (k : Nat) (ps : List Str) (sp : Sp) : Prop :=
  ∃ f fd, mg x = some (.ref f) ∧ PySem.W.keepIn K (.ref f) = true ∧ FnG P w K mg base k f fd ps sp ∧ Binds K fd ps []
theorem pe_pmG (F : PmG X.prog X.w X.K X.mg X.base x k ps sp) (hr : Room k X.A) (hG : X.A.guards = some []) (ha : PA X (e :: es) t) (hg : Gl X x := by rfl)
    (hdb : (x == ("__debug__" : Str)) = false := by decide) (he : starEach (e :: es) X.env = (false, eval e X.env) :: starEach es X.env := by rfl) (hpl : (backTo pos (starEach es X.env)).any (·.1) = false := by rfl) :
    PE X (.Call (.Name x p) (e :: es) [] pos) (tCall sp [] E0 t) := by
  obtain ⟨f, fd, hm, hk, hF, hb⟩ := F
  refine ⟨fun pins s σ H Q I h => ?_⟩
  refine wpAny_Call_Name_kw (ld_glob I hg hm ?_ hdb)
  refine PySem.W.callWith_K (h₀ := X.base) I.ok.mod.kin hk (thn (ha.run pos pins s σ H _ I h) fun us s1 ⟨vs, H1, I1, r, q⟩ => ⟨I1.kIn, ?_⟩) he hpl
  have q' : sp vs H1 Q E0 := by
    have q2 : sp (vs ++ []) H1 Q E0 := q
    rw [List.append_nil] at q2
    exact q2
  have hl : us.length = ps.length := by rw [← r.length]; exact hF.len _ _ _ _ q'
  have b := hb s1 us I1.kIn (by rw [List.append_nil]; exact hl)
  rw [List.append_nil] at b
  refine wpAny_call (codeAny_mono (hF.run X.A X.stack s1 H1 ⟨us, []⟩ us vs Q E0 hr hG I1.env0 b r q') fun r s' hq => ?_)
  cases r with
  | error e => exact False.elim hq
  | ok fl =>
    cases fl with
    | ret u => exact I1.after hq
    | next => exact False.elim hq
    | brk => exact False.elim hq
    | cont => exact False.elim hq
end
end K51
set_option Elab.async false
set_option linter.all false
set_option maxRecDepth 100000
set_option maxHeartbeats 4000000
/-! tables: misfit_in, first_fit, cells_by -/
namespace K51
open PySem PySem.Spec PyProof.Rows L2
abbrev s49 : Stmt := top 49
abbrev s50 : Stmt := top 50
abbrev s51 : Stmt := top 51
section
variable {P : Program} {w : World} {K : PySem.W.Frag} {mg : Str → Option Value} {base : Heap}
/-! ### misfit_in -/
def spMisfit (K : PySem.W.Frag) : Sp := fun vs H Q _ => ∃ (F : Fm) (ops : List Int) (ad : Int) (mv : List Int) (v u x : V), vs = [v, u, .int ad, x] ∧ FmV H F v ∧ OkFm F ∧ IntsV H ops u ∧ ops.length = F.fs.length ∧ MvV K H mv x ∧ ∀ H', Same H H' → Q (optV (misfit F ops ad mv)) H'
theorem sc49 : FnScope ["form", "operands", "address", "moving", "behind", "index", "field", "least", "most"] ["form", "operands", "address", "moving"] (defScope s49) := ⟨rfl, rfl, rfl, by decide +kernel, rfl, by decide +kernel, by decide +kernel⟩
theorem inV_ints (mv : List Int) (i : Int) : inV (.int i) (mv.map V.int) = decide (i ∈ mv) := by
  induction mv with
  | nil => rfl
  | cons m mv ih =>
    have e : inV (.int i) (V.int m :: mv.map V.int) = (eqV (.int m) (.int i) || inV (.int i) (mv.map V.int)) := rfl
    rw [List.map_cons, e, ih]
    have e2 : eqV (.int m) (.int i) = (m == i) := rfl
    rw [e2]
    by_cases h : m = i
    · subst h
      simp
    · have h' : ¬ i = m := fun q => h q.symm
      simp [h, h']
theorem flat_ints (mv : List Int) : (mv.map V.int).all flatV = true := by
  induction mv with
  | nil => rfl
  | cons m mv ih => exact ih
theorem ok_misfit (T : Tb mg) (D : Df K mg "misfit_in" s49) (L : Pm P w K mg base "length_of" 2 ["form"] spLen) (B : Pm P w K mg base "bounds_at" 2 ["field", "behind"] spBounds) : Pm P w K mg base "misfit_in" 3 ["form", "operands", "address", "moving"] (spMisfit K) := by
  refine Pm.of D sc49 (fun vs H Q E h => ?_) (fun _ _ _ _ _ _ us hl => match us, hl with | [_, _, _, _], _ => rfl) fun f cdv A outer s H vs Q E hr h => ?_
  · obtain ⟨F, ops, ad, mv, v, u, x, rfl, _⟩ := h
    rfl
  · obtain ⟨F, ops, ad, mv, v, u, x, rfl, hF, O, ⟨b, rfl, hb⟩, hl, ⟨c, rfl, hc⟩, k⟩ := h
    refine ⟨_, pss_cons (ps_set (i := 4) sc49.nd rfl (Or.inl rfl) (pe_op op_add (pv 2) (pe_pm L hr (pa_cons (pv 0) pa_nil))))
      (pss_cons (ps_for PassesOwn.never rfl (pi_en (by rfl) T.enumerate (pa_cons (pe_ix ix_tup (pv 0) pe_int (fun _ _ => rfl)) pa_nil)) (pg_tup rfl (pgs_cons (pg_name (i := 5) sc49.nd rfl (Or.inl rfl)) (pgs_cons (pg_name (i := 6) sc49.nd rfl (Or.inl rfl)) pgs_nil)))
        (pss_cons (ps_asg (pe_pm B hr (pa_cons (pv 6) (pa_cons (pv 4) pa_nil))) (pg_tup rfl (pgs_cons (pg_name (i := 7) sc49.nd rfl (Or.inl rfl)) (pgs_cons (pg_name (i := 8) sc49.nd rfl (Or.inl rfl)) pgs_nil))))
        (pss_one (ps_if (PW.pt (pw_or (pt_not (pt_chain op_le op_le (pv 7) (pe_ix ix_tup (pv 1) (pv 5) (fun _ _ => rfl)) (pv 8)))
            (pw_or1 (PW.pt (pw_and (pt_cmpR op_in_seq (pv 5) (pv 3) rfl) (pw_and1 (pt_not (pt_val (pe_isi T T.str bt_str (pv 6))))))))))
          (pss_one (ps_ret (pv 5))) pss_nil))))
      (pss_one (ps_ret pe_non))), ?_⟩
    refine ⟨_, rfl, _, rfl, F, v, rfl, hF, O, fun H1 s1 => ⟨_, _, rfl, rfl, ?_⟩⟩
    obtain ⟨a, x, y, rfl, ha, _, e, fvs, rfl, he, hfs⟩ := hF
    refine ⟨_, rfl, a, _, _, _, rfl, rfl, SqT.of (s1 _ _ ha), atI_nat (j := 1) rfl, e, _, rfl, SqT.of (s1 _ _ he), ?_⟩
    refine for_en (K := K) (a := e) (xs := fvs) (fun i σ' H' => ∃ t5 t6 t7 t8, σ' = [some (.ref a), some (.ref b), some (.int ad), some (.ref c), some (.int (ad + (F.len : Nat))), t5, t6, t7, t8] ∧ Same H1 H' ∧ ∀ j, j < i → badAt (F.fs.getD j (.n 0)) (ad + F.len) (ops.getD j 0) j mv = false)
      ⟨none, none, none, none, rfl, Same.refl _, fun j hj => absurd hj (Nat.not_lt_zero j)⟩ (fun i σ' H' ⟨_, _, _, _, _, s2, _⟩ => SqT.of (s2 _ _ (s1 _ _ he))) ?_ ?_
    · rintro i fv p σ' H' hi ⟨t5, t6, t7, t8, rfl, s2, hbad⟩ hp
      obtain ⟨fd, hfd, hv⟩ := Paired.at hfs hi
      have hil : i < ops.length := by
        have := (List.getElem?_eq_some_iff.mp hfd).1
        omega
      have gf : F.fs.getD i (.n 0) = fd := by rw [List.getD_eq_getElem?_getD, hfd]; rfl
      obtain ⟨o, ho⟩ : ∃ o, ops[i]? = some o := ⟨ops[i], List.getElem?_eq_getElem hil⟩
      have go : ops.getD i 0 = o := by rw [List.getD_eq_getElem?_getD, ho]; rfl
      have s3 : Same H (upd H' p (.tup [.int (i : Nat), fv])) := same_upd (s1.trans s2) (s1.free (s2.free hp))
      refine ⟨p, _, rfl, SqT.of upd_same, rfl, _, _, rfl, _, _, rfl, rfl, ?_⟩
      refine ⟨_, rfl, _, rfl, fd, fv, _, rfl, hv.ts (TS.of s3), fun q hq => ?_⟩
      have s4 := same_upd' (o := .tup [.int (fd.lo (ad + F.len)), .int (fd.hi (ad + F.len))]) hq
      have s5 := s3.trans s4
      refine ⟨q, _, rfl, SqT.of upd_same, rfl, _, _, rfl, _, _, rfl, rfl, ?_⟩
      refine ⟨_, rfl, _, rfl, _, rfl, b, _, _, _, rfl, rfl, SqT.of (s5 _ _ hb), atI_nat (j := i) (v := V.int o) (by rw [List.getElem?_map, ho]; rfl), _, _, rfl, rfl, _, rfl, ?_⟩
      have hyes : badAt fd (ad + F.len) o i mv = true → misfit F ops ad mv = some i := fun hb0 =>
        find_some hbad (List.getElem?_eq_some_iff.mp hfd).1 (by rw [gf, go]; exact hb0)
      have hno : badAt fd (ad + F.len) o i mv = false → ∀ j, j < i + 1 → badAt (F.fs.getD j (.n 0)) (ad + F.len) (ops.getD j 0) j mv = false := fun hb0 j hj => by
        by_cases hji : j < i
        · exact hbad j hji
        · have : j = i := by omega
          subst this
          rw [gf, go]
          exact hb0
      have hret : badAt fd (ad + F.len) o i mv = true → Q (.int (i : Nat)) (upd (upd H' p (.tup [.int (i : Nat), fv])) q (.tup [.int (fd.lo (ad + F.len)), .int (fd.hi (ad + F.len))])) := fun hb0 => by
        have := k _ s5
        rw [hyes hb0] at this
        exact this
      have s6 : Same H1 (upd (upd H' p (.tup [.int (i : Nat), fv])) q (.tup [.int (fd.lo (ad + F.len)), .int (fd.hi (ad + F.len))])) := (same_upd s2 (s2.free hp)).trans s4
      refine ite2 (fun c1 => ⟨_, rfl, _, _, rfl, rfl, _, rfl, ?_⟩) fun c1 => ⟨_, rfl, ifT rfl ⟨_, rfl, hret ?_⟩⟩
      · by_cases c2 : decide (o ≤ fd.hi (ad + F.len)) = true
        · refine ifF (by rw [c2] <;> rfl) ⟨_, rfl, _, rfl, c, _, rfl, .inr (sqT_same hc s5), rfl, flat_ints mv, _, rfl, ?_⟩
          rw [if_neg (by decide), inV_ints]
          by_cases c3 : decide ((i : Int) ∈ mv) = true
          · refine ifT c3 ?_
            cases fd with
            | w kd z =>
              obtain rfl : fv = .str (fdS kd z) := hv
              refine ⟨_, rfl, "str", true, .base (.str _), by decide +kernel, _, rfl, iteF ⟨_, _, _, _, rfl, s6, hno ?_⟩⟩
              simp only [badAt, Fd.told, c1, c2]
              rfl
            | n z =>
              obtain ⟨a2, rfl, ha2⟩ := hv
              refine ⟨_, rfl, "tuple", false, .base (.tup (s5 _ _ ha2)), by decide +kernel, _, rfl, iteT ⟨_, rfl, hret ?_⟩⟩
              simp only [badAt, Fd.told, c3]
              simp
          · refine ifF (by simpa using c3) (iteF ⟨_, _, _, _, rfl, s6, hno ?_⟩)
            have c3' : decide ((i : Int) ∈ mv) = false := by simpa using c3
            simp only [badAt, c1, c2, c3']
            simp
        · have c2' : decide (o ≤ fd.hi (ad + F.len)) = false := by simpa using c2
          refine ifT (by rw [c2'] <;> rfl) ⟨_, rfl, hret ?_⟩
          simp only [badAt, c2']
          simp
      · have c1' : decide (fd.lo (ad + F.len) ≤ o) = false := by simpa using c1
        simp only [badAt, c1']
        simp
    · rintro σ' H' ⟨_, _, _, _, rfl, s2, hbad⟩
      have e0 : misfit F ops ad mv = none := find_none fun j hj => hbad j (by rw [← hfs.length]; exact hj)
      rw [e0] at k
      exact k H' (s1.trans s2)
/-! ### first_fit -/
structure FitOk (fms : List Fm) (ops : List Int) : Prop where
  fm : ∀ F ∈ fms, OkFm F ∧ ops.length = F.fs.length
  len : fms.length ≤ 6
def spFirst (K : PySem.W.Frag) : Sp := fun vs H Q _ => ∃ (fms : List Fm) (ops : List Int) (ad : Int) (lo : Nat) (mv : List Int) (v u x : V), vs = [v, u, .int ad, .int (lo : Nat), x] ∧ FmsV H fms v ∧ FitOk fms ops ∧ IntsV H ops u ∧ MvV K H mv x ∧ lo ≤ 1000 ∧ ∀ H', Same H H' → Q (optV (firstFit fms ops ad lo mv)) H'
theorem sc50 : FnScope ["forms", "operands", "address", "first", "moving", "number"] ["forms", "operands", "address", "first", "moving"] (defScope s50) := ⟨rfl, rfl, rfl, by decide +kernel, rfl, by decide +kernel, by decide +kernel⟩
theorem optV_none {o : Option Nat} : decide (optV o = V.non) = o.isNone := by cases o <;> rfl
theorem ok_first (T : Tb mg) (D : Df K mg "first_fit" s50) (M : Pm P w K mg base "misfit_in" 3 ["form", "operands", "address", "moving"] (spMisfit K)) : Pm P w K mg base "first_fit" 4 ["forms", "operands", "address", "first", "moving"] (spFirst K) := by
  refine Pm.of D sc50 (fun vs H Q E h => ?_) (fun _ _ _ _ _ _ us hl => match us, hl with | [_, _, _, _, _], _ => rfl) fun f cdv A outer s H vs Q E hr h => ?_
  · obtain ⟨fms, ops, ad, lo, mv, v, u, x, rfl, _⟩ := h
    rfl
  · obtain ⟨fms, ops, ad, lo, mv, v, u, x, rfl, ⟨a, fvs, rfl, ha, hfs⟩, O, hu, hx, hlo, k⟩ := h
    have hlen := hfs.length
    have h6 := O.len
    refine ⟨_, pss_cons (ps_for PassesOwn.never rfl (pi_range2 rfl T.range (pa_cons (pv 3) (pa_cons (pe_callB call_len_seq (by rfl) T.len PySem.boot_len (pa_cons (pv 0) pa_nil)) pa_nil))) (pg_name (i := 5) sc50.nd rfl (Or.inl rfl))
        (pss_one (ps_if (pt_cmpR op_isN (pe_pm M hr (pa_cons (pe_ix ix_tup (pv 0) (pv 5) (fun _ _ => rfl)) (pa_cons (pv 1) (pa_cons (pv 2) (pa_cons (pv 4) pa_nil))))) pe_non (nomark _)) (pss_one (ps_ret (pv 5))) pss_nil)))
      (pss_one (ps_ret pe_non)), ?_⟩
    refine ⟨_, rfl, _, rfl, a, _, rfl, .inr (SqT.of ha), (lo : Nat), (fvs.length : Nat), rfl, ⟨by omega, by omega, by omega, by omega⟩, ?_⟩
    refine for_range (lo := (lo : Nat)) (n := ((fvs.length : Int) - (lo : Nat)).toNat) (fun i σ' H' => ∃ t5, σ' = [some (.ref a), some u, some (.int ad), some (.int (lo : Nat)), some x, t5] ∧ Same H H' ∧ ∀ j, j < i → fits fms ops ad mv (lo + j) = false)
      ⟨none, rfl, Same.refl _, fun j hj => absurd hj (Nat.not_lt_zero j)⟩ ?_ ?_
    · rintro i σ' H' hi ⟨t5, rfl, s1, hbad⟩
      have hil : lo + i < fvs.length := by omega
      obtain ⟨fv, hfv⟩ : ∃ fv, fvs[lo + i]? = some fv := ⟨fvs[lo + i], List.getElem?_eq_getElem hil⟩
      obtain ⟨F, hF, hv⟩ := Paired.at hfs hfv
      have gF : fms.getD (lo + i) ⟨[], []⟩ = F := by rw [List.getD_eq_getElem?_getD, hF]; rfl
      obtain ⟨o1, o2⟩ := O.fm F (List.mem_of_getElem? hF)
      refine ⟨_, rfl, _, rfl, a, _, _, fv, rfl, rfl, SqT.of (s1 _ _ ha), at_of (j := lo + i) (by omega) hfv, _, rfl, _, rfl, _, rfl, F, ops, ad, mv, fv, u, x, rfl, hv.ts (TS.of s1), o1, hu.ts (TS.of s1), o2, hx.sm s1, fun H2 s2 => ?_⟩
      refine ⟨rfl, _, rfl, ?_⟩
      rw [optV_none]
      by_cases hm : (misfit F ops ad mv).isNone = true
      · refine ifT hm ⟨_, rfl, ?_⟩
        have e1 : firstFit fms ops ad lo mv = some (lo + i) := by
          unfold firstFit
          rw [find_some hbad (by omega) (by unfold fits; rw [gF]; exact hm)]
          rfl
        have := k H2 (s1.trans s2)
        rw [e1] at this
        exact this
      · refine ifF ((Bool.not_eq_true _).mp hm) ⟨_, rfl, s1.trans s2, fun j hj => ?_⟩
        by_cases hji : j < i
        · exact hbad j hji
        · have : j = i := by omega
          subst this
          unfold fits
          rw [gF]
          exact (Bool.not_eq_true _).mp hm
    · rintro σ' H' ⟨t5, rfl, s1, hbad⟩
      have e1 : firstFit fms ops ad lo mv = none := by
        unfold firstFit
        rw [find_none fun j hj => hbad j (by omega)]
        rfl
      have := k H' s1
      rw [e1] at this
      exact this
/-! ### cells_by -/
def spBy : Sp := fun vs H Q _ => ∃ (F : Fm) (ops : List Int) (ad : Int) (v u : V), vs = [v, u, .int ad] ∧ FmV H F v ∧ OkFm F ∧ IntsV H ops u ∧ ops.length = F.fs.length ∧ ∀ p H', H p = none → Same H H' → H' p = some (.tup ((cellsBy F ops ad).map V.int)) → Q (.ref p) H'
theorem sc51 : FnScope ["form", "operands", "address", "opcode", "fields", "found", "field", "operand"] ["form", "operands", "address"] (defScope s51) := ⟨rfl, rfl, rfl, by decide +kernel, rfl, by decide +kernel, by decide +kernel⟩
def byTo (F : Fm) (ops : List Int) (ad : Int) (i : Nat) : List Int := F.op ++ ((F.fs.zip ops).take i).flatMap fun p => p.1.put p.2 (ad + F.len)
theorem put_len (f : Fd) (v e : Int) : (f.put v e).length ≤ 4 := by
  unfold Fd.put
  rw [List.length_map, List.length_range]
  exact cells_le f
theorem byTo_succ {F : Fm} {ops : List Int} {ad : Int} {i : Nat} {f : Fd} {o : Int} (h1 : F.fs[i]? = some f) (h2 : ops[i]? = some o) : byTo F ops ad (i + 1) = byTo F ops ad i ++ f.put o (ad + F.len) := by
  unfold byTo
  have e : (F.fs.zip ops)[i]? = some (f, o) := by
    rw [List.getElem?_zip_eq_some]
    exact ⟨h1, h2⟩
  rw [List.take_succ, e, List.flatMap_append]
  simp
theorem byTo_len (F : Fm) (ops : List Int) (ad : Int) : ∀ i, (byTo F ops ad i).length ≤ F.op.length + 4 * i
  | 0 => by simp [byTo]
  | i + 1 => by
    have ih := byTo_len F ops ad i
    by_cases h : i < F.fs.length ∧ i < ops.length
    · rw [byTo_succ (f := F.fs[i]'h.1) (o := ops[i]'h.2) (List.getElem?_eq_getElem _) (List.getElem?_eq_getElem _), List.length_append]
      have := put_len (F.fs[i]'h.1) (ops[i]'h.2) (ad + F.len)
      omega
    · have e : (F.fs.zip ops).take (i + 1) = (F.fs.zip ops).take i := by
        rw [List.take_of_length_le, List.take_of_length_le] <;> rw [List.length_zip] <;> omega
      have : byTo F ops ad (i + 1) = byTo F ops ad i := by unfold byTo; rw [e]
      rw [this]
      omega
theorem ok_by (T : Tb mg) (D : Df K mg "cells_by" s51) (L : Pm P w K mg base "length_of" 2 ["form"] spLen) (B : Pm P w K mg base "field_cells" 2 ["field", "operand", "behind"] spPut) : Pm P w K mg base "cells_by" 3 ["form", "operands", "address"] spBy := by
  refine Pm.of D sc51 (fun vs H Q E h => ?_) (fun _ _ _ _ _ _ us hl => match us, hl with | [_, _, _], _ => rfl) fun f cdv A outer s H vs Q E hr h => ?_
  · obtain ⟨F, ops, ad, v, u, rfl, _⟩ := h
    rfl
  · obtain ⟨F, ops, ad, v, u, rfl, hF, O, ⟨b, rfl, hb⟩, hl, k⟩ := h
    refine ⟨_, pss_cons (ps_asg (pv 0) (pg_tup (by rfl) (pgs_cons (pg_name (i := 3) sc51.nd rfl (Or.inl rfl)) (pgs_cons (pg_name (i := 4) sc51.nd rfl (Or.inl rfl)) pgs_nil))))
      (pss_cons (ps_set (i := 5) sc51.nd rfl (Or.inl rfl) (pe_callTy call_list_of (by rfl) T.list bt_list (pa_cons (pv 3) pa_nil)))
      (pss_cons (ps_for PassesOwn.never rfl (pi_zs (by rfl) T.zip (pa_cons (pv 4) (pa_cons (pv 1) pa_nil))) (pg_tup rfl (pgs_cons (pg_name (i := 6) sc51.nd rfl (Or.inl rfl)) (pgs_cons (pg_name (i := 7) sc51.nd rfl (Or.inl rfl)) pgs_nil)))
        (pss_one (ps_expr (pe_bm PySem.F.plainAttrs_list PySem.F.slot_list_extend PySem.F.type_list_extend mt_extend (pv 5) (pa_cons (pe_pm B hr (pa_cons (pv 6) (pa_cons (pv 7) (pa_cons (pe_op op_add (pv 2) (pe_pm L hr (pa_cons (pv 0) pa_nil))) pa_nil)))) pa_nil)))))
      (pss_one (ps_ret (pe_callTy call_tuple_of (by rfl) T.tuple bt_tuple (pa_cons (pv 5) pa_nil)))))), ?_⟩
    obtain ⟨a, x, y, rfl, ha, ⟨c, rfl, hc⟩, e, fvs, rfl, he, hfs⟩ := id hF
    have hlen := hfs.length
    refine ⟨_, rfl, a, _, rfl, SqT.of ha, rfl, _, _, rfl, _, _, rfl, rfl, ?_⟩
    refine ⟨_, rfl, c, _, rfl, .inr (SqT.of hc), fun l hl0 => ?_⟩
    have s0 := same_upd' (o := .lst (F.op.map V.int)) hl0
    refine ⟨_, rfl, _, rfl, e, b, _, _, rfl, SqT.of (s0 _ _ he), SqT.of (s0 _ _ hb), ?_⟩
    refine for_zs (K := K) (a := e) (b := b) (xs := fvs) (ys := ops.map V.int) (by rw [List.length_map]; omega)
      (fun i σ' H' => ∃ t6 t7, σ' = [some (.ref a), some (.ref b), some (.int ad), some (.ref c), some (.ref e), some (.ref l), t6, t7] ∧ Same H H' ∧ H' l = some (.lst ((byTo F ops ad i).map V.int)))
      ⟨none, none, rfl, s0, by simp [byTo, upd_same]⟩ (fun i σ' H' ⟨_, _, _, s1, _⟩ => ⟨SqT.of (s1 _ _ he), SqT.of (s1 _ _ hb)⟩) ?_ ?_
    · rintro i fv ov p σ' H' hi ho ⟨t6, t7, rfl, s1, h1⟩ hp
      obtain ⟨fd, hfd, hv⟩ := Paired.at hfs hi
      rw [List.getElem?_map] at ho
      obtain ⟨o, hoo, rfl⟩ := Option.map_eq_some_iff.mp ho
      have s2 : Same H (upd H' p (.tup [fv, .int o])) := same_upd s1 (s1.free hp)
      refine ⟨p, _, rfl, SqT.of upd_same, rfl, _, _, rfl, _, _, rfl, rfl, ?_⟩
      have h2 : (upd H' p (.tup [fv, .int o])) l = some (.lst ((byTo F ops ad i).map V.int)) := by
        rw [upd_ne (ne_of_none h1 hp)]
        exact h1
      refine ⟨_, rfl, .inl ⟨rfl, _, SqL.of h2⟩, ?_⟩
      refine ⟨_, rfl, _, rfl, _, rfl, _, rfl, F, _, rfl, hF.ts (TS.of s2), O, fun H3 s3 => ⟨_, _, rfl, rfl, fd, fv, o, _, rfl, hv.ts (TS.of (s2.trans s3)), fun q H4 hq s4 h4 => ?_⟩⟩
      have h5 := s4 _ _ (s3 _ _ h2)
      refine ⟨l, q, _, _, rfl, rfl, h5, h4, ?_, _, _, rfl, ?_, ?_⟩
      · have e1 := byTo_len F ops ad i
        have e2 := put_len fd o (ad + F.len)
        have e3 := O.o3
        have e4 := O.f4
        have e5 := (List.getElem?_eq_some_iff.mp hi).1
        rw [List.length_map, List.length_map]
        exact Nat.le_of_lt (lt1000 (by omega))
      · exact same_upd (((s2.trans s3).trans s4)) hl0
      · rw [upd_same, byTo_succ hfd hoo, List.map_append]
    · rintro σ' H' ⟨_, _, rfl, s1, h1⟩
      refine ⟨_, rfl, l, _, rfl, .inl ⟨SqL.of h1, fun p hp => k p _ (s1.free hp) (same_upd s1 (s1.free hp)) ?_⟩⟩
      rw [upd_same]
      have e1 : byTo F ops ad fvs.length = cellsBy F ops ad := by
        unfold byTo cellsBy
        rw [List.take_of_length_le]
        rw [List.length_zip]
        omega
      rw [e1]
end
end K51
set_option Elab.async false
set_option linter.all false
set_option maxRecDepth 100000
set_option maxHeartbeats 4000000
/-! the law's own look: widths, bounds, cells, fits -/
namespace K51
open PySem PySem.Spec PyProof.Rows L2
abbrev s60 : Stmt := top 60
abbrev s61 : Stmt := top 61
abbrev s64 : Stmt := top 64
abbrev s65 : Stmt := top 65
abbrev s66 : Stmt := top 66
abbrev s67 : Stmt := top 67
abbrev s69 : Stmt := top 69
section
variable {P : Program} {w : World} {K : PySem.W.Frag} {mg : Str → Option Value} {base : Heap}
/-! ### _law_width -/
def spWidth : Sp := fun vs H Q _ => ∃ (f : Fd) (v : V), vs = [v] ∧ FdV H f v ∧ ∀ H', Same H H' → Q (.int (f.cells : Nat)) H'
theorem sc60 : FnScope ["_law_slot_here"] ["_law_slot_here"] (defScope s60) := ⟨rfl, rfl, rfl, by decide +kernel, rfl, by decide +kernel, by decide +kernel⟩
def dW : List (Key × V) := [(.inr "1", .int 1), (.inr "2", .int 2), (.inr "4", .int 4)]
theorem dW_at (z : Sz) : valV (mergeK [] dW) (.inr ⟨#[z.c]⟩) = some (.int (z.n : Nat)) := by cases z <;> decide +kernel
theorem upd2 {H : Hp} {p : Addr} {o u : HO} (hp : H p = none) : Same H (upd (upd H p o) p u) := same_upd (same_upd' hp) hp
theorem ok_width (T : Tb mg) (D : Df K mg "_law_width" s60) : Pm P w K mg base "_law_width" 1 ["_law_slot_here"] spWidth := by
  refine Pm.of D sc60 (fun vs H Q E h => ?_) (fun _ _ _ _ _ _ us hl => match us, hl with | [_], _ => rfl) fun f cdv A outer s H vs Q E hr h => ?_
  · obtain ⟨f, v, rfl, _⟩ := h
    rfl
  · obtain ⟨f, v, rfl, hf, k⟩ := h
    refine ⟨_, pss_one (ps_ret (pe_ifExp (pt_val (pe_isi T T.tuple bt_tuple (pv 0))) pe_int (pe_dget (hu_of hr) (pe_disp (pps_cons pe_str pe_int (pps_cons pe_str pe_int (pps_cons pe_str pe_int pps_nil))) (by rfl) (by rfl) (fun z => by cases z) (by decide)) (pe_ix ix_str (pv 0) pe_int (fun _ _ => rfl)) (fun _ _ => rfl)))), ?_⟩
    cases f with
    | w kd z =>
      obtain rfl : v = .str (fdS kd z) := hf
      refine ⟨_, rfl, "str", false, .base (.str _), by decide +kernel, _, rfl, iteF fun p hp => ⟨upd_same, dW, rfl, by decide, ?_⟩⟩
      refine ⟨_, rfl, _, _, z.c, rfl, rfl, le2, atI_nat (j := 1) rfl, p, _, rfl, (dW_at z) ▸ DGet.k (k := Sum.inr ⟨#[z.c]⟩) upd_same, k _ (upd2 hp)⟩
    | n x =>
      obtain ⟨b, rfl, hb⟩ := hf
      exact ⟨_, rfl, "tuple", true, .base (.tup hb), by decide +kernel, _, rfl, iteT (k _ (Same.refl _))⟩
/-! ### _law_long -/
theorem sc61 : FnScope ["_law_shape", "_law_slot_here"] ["_law_shape"] (defScope s61) := ⟨rfl, rfl, rfl, by decide +kernel, rfl, by decide +kernel, by decide +kernel⟩
theorem ok_long (T : Tb mg) (D : Df K mg "_law_long" s61) (W : Pm P w K mg base "_law_width" 1 ["_law_slot_here"] spWidth) : Pm P w K mg base "_law_long" 2 ["_law_shape"] spLen := by
  refine Pm.of D sc61 (fun vs H Q E h => ?_) (fun _ _ _ _ _ _ us hl => match us, hl with | [_], _ => rfl) fun f cdv A outer s H vs Q E hr h => ?_
  · obtain ⟨F, v, rfl, _⟩ := h
    rfl
  · obtain ⟨F, v, rfl, ⟨a, x, y, rfl, ha, ⟨b, rfl, hb⟩, e, fvs, rfl, he, hfs⟩, O, k⟩ := h
    refine ⟨_, pss_one (ps_ret (pe_op op_add (pe_callB call_len_seq (by rfl) T.len PySem.boot_len (pa_cons (pe_ix ix_tup (pv 0) pe_int (fun _ _ => rfl)) pa_nil)) (pe_callB (cr_sum rfl) (by rfl) T.sum (by decide +kernel) (pa_cons
            (pe_lc (own := [("_law_slot_here", 1)]) (g := gName 1) (tt := tYes) rfl sc61.nd (pi_tup (pe_ix ix_tup (pv 0) pe_int (fun _ _ => rfl))) (blkOk_by (N := ["_law_shape", "_law_slot_here"]) (sc := defScope s61) (by decide +kernel))
              (fun _ _ _ _ _ => pg_name (i := 1) sc61.nd rfl (Or.inl rfl)) (fun _ _ _ _ _ => pts_nil) (fun _ _ _ _ _ => pe_pm W hr (pa_cons (pv 1) pa_nil))) pa_nil)))), ?_⟩
    refine ⟨_, rfl, a, _, _, _, rfl, rfl, SqT.of ha, atI_nat (j := 0) rfl, b, _, rfl, .inr (SqT.of hb), _, rfl, a, _, _, _, rfl, rfl, SqT.of ha, atI_nat (j := 1) rfl, e, rfl, ⟨_, SqT.of he⟩, fun p hp => ?_⟩
    refine lc_pure (ys := (F.fs.map fun f => ((f.cells : Nat) : Int)).map V.int) hp (fun x => rfl) (by simp [hfs.length]) ?_ (SqT.of he) (fun i x y H2 Q1 hx hy s2 q => ?_) fun H2 s2 h2 => ?_
    · have := hfs.length
      have := O.f4
      exact lt1000 (by omega)
    · obtain ⟨fd, hfd, hv⟩ := Paired.at hfs hx
      have hy' : y = V.int ((fd.cells : Nat) : Int) := by
        rw [List.getElem?_map, List.getElem?_map, hfd] at hy
        exact (Option.some.inj hy).symm
      subst hy'
      exact ⟨_, rfl, fd, x, rfl, hv.ts (TS.of s2), q⟩
    refine ⟨p, _, rfl, SqL.of h2, _, _, rfl, rfl, ?_⟩
    refine asV (Q := Q) (congrArg V.int ?_) (k H2 s2)
    rw [List.length_map, sum_cells]
    unfold Fm.len
    omega
/-! ### _law_bounds -/
def spLBounds : Sp := fun vs H Q _ => ∃ (f : Fd) (v : V) (e : Int), vs = [v, .int e] ∧ FdV H f v ∧ ∀ p H', H p = none → Same H H' → H' p = some (.tup [.int (f.lo e), .int (f.hi e)]) → Q (.ref p) H'
theorem sc64 : FnScope ["_law_slot_here", "_law_end", "_law_many", "_law_low"] ["_law_slot_here", "_law_end"] (defScope s64) := ⟨rfl, rfl, rfl, by decide +kernel, rfl, by decide +kernel, by decide +kernel⟩
def dM : List (Key × V) := [(.inr "1", .int 256), (.inr "2", .int 65536), (.inr "4", .int 4294967296)]
theorem dM_at (z : Sz) : valV (mergeK [] dM) (.inr ⟨#[z.c]⟩) = some (.int z.many) := by cases z <;> decide +kernel
def dL (e m : Int) : List (Key × V) := [(.inr "u", .int 0), (.inr "s", .int (0 - m / 2)), (.inr "r", .int (e - m / 2))]
theorem dL_at (k : Kd) (z : Sz) (e : Int) : valV (mergeK [] (dL e z.many)) (.inr ⟨#[k.c]⟩) = some (.int ((Fd.w k z).lo e)) := by cases k <;> rfl
theorem hi_of (k : Kd) (z : Sz) (e : Int) : (Fd.w k z).lo e + z.many - 1 = (Fd.w k z).hi e := by
  cases k <;> cases z <;> simp only [Fd.lo, Fd.hi, Sz.many] <;> omega
theorem ok_lbounds (T : Tb mg) (D : Df K mg "_law_bounds" s64) : Pm P w K mg base "_law_bounds" 1 ["_law_slot_here", "_law_end"] spLBounds := by
  refine Pm.of D sc64 (fun vs H Q E h => ?_) (fun _ _ _ _ _ _ us hl => match us, hl with | [_, _], _ => rfl) fun f cdv A outer s H vs Q E hr h => ?_
  · obtain ⟨f, v, e, rfl, _⟩ := h
    rfl
  · obtain ⟨f, v, e, rfl, hf, k⟩ := h
    refine ⟨_, pss_cons (ps_if (pt_val (pe_isi T T.tuple bt_tuple (pv 0))) (pss_one (ps_ret (pe_tup (pa_cons (pe_ix ix_tup (pv 0) pe_int (fun _ _ => rfl)) (pa_cons (pe_ix ix_tup (pv 0) pe_int (fun _ _ => rfl)) pa_nil))))) pss_nil)
      (pss_cons (ps_set (i := 2) sc64.nd rfl (Or.inl rfl) (pe_dget (hu_of hr) (pe_disp (pps_cons pe_str pe_int (pps_cons pe_str pe_int (pps_cons pe_str pe_int pps_nil))) (by rfl) (by rfl) (fun z => by cases z) (by decide)) (pe_ix ix_str (pv 0) pe_int (fun _ _ => rfl)) (fun _ _ => rfl)))
      (pss_cons (ps_set (i := 3) sc64.nd rfl (Or.inl rfl) (pe_dget (hu_of hr) (pe_disp (pps_cons pe_str pe_int (pps_cons pe_str (pe_op op_sub pe_int (pe_op op_fdiv (pv 2) pe_int)) (pps_cons pe_str (pe_op op_sub (pv 1) (pe_op op_fdiv (pv 2) pe_int)) pps_nil))) (by rfl) (by rfl) (fun z => by cases z) (by decide)) (pe_ix ix_str (pv 0) pe_int (fun _ _ => rfl)) (fun _ _ => rfl)))
      (pss_one (ps_ret (pe_tup (pa_cons (pv 3) (pa_cons (pe_op op_sub (pe_op op_add (pv 3) (pv 2)) pe_int) pa_nil))))))), ?_⟩
    cases f with
    | n x =>
      obtain ⟨b, rfl, hb⟩ := hf
      refine ⟨_, rfl, "tuple", true, .base (.tup hb), by decide +kernel, _, rfl, iteT ?_⟩
      exact ⟨_, rfl, b, _, _, _, rfl, rfl, SqT.of hb, atI_nat (j := 1) rfl, _, rfl, b, _, _, _, rfl, rfl, SqT.of hb, atI_nat (j := 1) rfl, le2, fun p hp => k p _ hp (same_upd' hp) upd_same⟩
    | w kd z =>
      obtain rfl : v = .str (fdS kd z) := hf
      refine ⟨_, rfl, "str", false, .base (.str _), by decide +kernel, _, rfl, iteF fun p hp => ⟨upd_same, dM, rfl, by decide, ?_⟩⟩
      refine ⟨_, rfl, _, _, z.c, rfl, rfl, le2, atI_nat (j := 1) rfl, p, _, rfl, (dM_at z) ▸ DGet.k (k := Sum.inr ⟨#[z.c]⟩) upd_same, ?_⟩
      have s1 : Same H _ := upd2 (o := .dK []) (u := .dK (mergeK [] dM)) hp
      refine fun q hq => ⟨_, rfl, _, _, rfl, rfl, ⟨by decide, by decide⟩, _, _, rfl, rfl, _, rfl, _, rfl, _, _, rfl, rfl, ⟨by decide, by decide⟩, _, _, rfl, rfl, upd_same, dL e z.many, rfl, by show 3 ≤ 15; decide, ?_⟩
      refine ⟨_, rfl, _, _, kd.c, rfl, rfl, le2, atI_nat (j := 0) rfl, q, _, rfl, (dL_at kd z e) ▸ DGet.k (k := Sum.inr ⟨#[kd.c]⟩) upd_same, ?_⟩
      have s2 : Same H _ := s1.trans (upd2 (o := .dK []) (u := .dK (mergeK [] (dL e z.many))) hq)
      refine ⟨_, rfl, _, rfl, _, rfl, _, _, rfl, rfl, _, _, rfl, rfl, le2, fun r hr => k r _ (s2.free hr) (s2.trans (same_upd' hr)) ?_⟩
      rw [upd_same]
      exact congrArg (fun q => some (HO.tup [V.int ((Fd.w kd z).lo e), V.int q])) (hi_of kd z e)
end
end K51
set_option Elab.async false
set_option linter.all false
set_option maxRecDepth 100000
set_option maxHeartbeats 4000000
/-! the law's own look: cells, fits -/
namespace K51
open PySem PySem.Spec PyProof.Rows L2
section
variable {K : PySem.W.Frag} {D : Addr} {ys : List V} {te : TE} {vs : List Nat} {j n : Nat} {lo : Int} {σ : L2.St} {H1 : Hp} {Qd : Hp → Prop}
theorem lc_pureR (hD : H1 D = none) (hw : ∀ x, wipe ((wipe σ vs).set j (some x)) vs = wipe σ vs) (hl : ys.length = n) (hz : n < sizeLine)
    (hs : ∀ (i : Nat) (y : V) (H : Hp) (Q : VK), ys[i]? = some y → Same H1 H → (∀ H4, Same H H4 → Q y H4) → te ((wipe σ vs).set j (some (.int (lo + (i : Nat))))) H Q)
    (hd : ∀ H, Same H1 H → H D = some (.lst ys) → Qd H) :
    ∃ W : Nat → Nat → Hp → Prop, (∃ m, W 0 m (upd H1 D (.lst []))) ∧ ∀ i m H, W i m H →
      ((Itr lo n).stop i H ∧ Qd H) ∨ ((Itr lo n).go i H ∧ ∃ Nx : Hp → Prop, (∀ H', Nx H' → ∃ m', m' < m ∧ W (i + 1) m' H') ∧ ∀ x H', (Itr lo n).yld i H x H' → gName j x (wipe σ vs) H' fun σ2 H2 => wipe σ2 vs = wipe σ vs ∧ tYes σ2 H2 fun b H3 =>
        if b = true then te σ2 H3 fun y H4 => ∃ acc, H4 D = some (.lst acc) ∧ acc.length < sizeLine ∧ Nx (upd H4 D (.lst (acc ++ [y]))) else Nx H3) := by
  have sD : ∀ {H : Hp} {o : HO}, Same H1 H → Same H1 (upd H D o) := fun {H o} e b u q => by
    rw [upd_ne (ne_of_none q hD)]
    exact e b u q
  refine lc_range (lo := lo) (n := n) (fun i H => Same H1 H ∧ H D = some (.lst (ys.take i))) ⟨sD (Same.refl H1), upd_same⟩ (fun i H hi p => ?_) fun H p => ?_
  · have hy : ys[i]? = some (ys[i]'(by omega)) := List.getElem?_eq_getElem (by omega)
    refine ⟨hw _, ?_⟩
    refine iteT (B := Same H1 H ∧ H D = some (.lst (ys.take (i + 1)))) ?_
    refine hs i _ H _ hy p.1 fun H4 e4 => ⟨ys.take i, e4 _ _ p.2, ?_, sD (p.1.trans e4), ?_⟩
    · rw [List.length_take]
      omega
    · rw [upd_same, List.take_succ, hy]
      rfl
  · refine hd H p.1 ?_
    rw [← hl, List.take_length] at p
    exact p.2
end
/-- v - e if f[0] == 'r' else v -/
theorem rest_read {K : PySem.W.Frag} {H : Hp} {f : Fd} {v : V} {x e : Int} {σ : L2.St} {Q : VK} (h0 : σ[0]? = some (some v)) (h1 : σ[1]? = some (some (.int x))) (h2 : σ[2]? = some (some (.int e))) (hf : FdV H f v) (q : Q (.int (f.rest x e)) H) :
    tIf (tTest (tOp rEq (tOp (rIx K) (tVar 0) (tC (.int 0))) (tC (.str "r")))) (tOp (rI0 fun i j => .int (i - j)) (tVar 1) (tVar 2)) (tVar 1) σ H Q := by
  rcases fd_kind f x e with ⟨c0, er⟩ | ⟨c0, er⟩
  · refine ⟨_, h0, fd_first hf ⟨rfl, _, rfl, ifT (decide_eq_true (by rw [c0] <;> rfl)) ⟨_, h1, _, h2, _, _, rfl, rfl, ?_⟩⟩⟩
    exact asV (Q := Q) (congrArg V.int er.symm) q
  · refine ⟨_, h0, fd_first hf ⟨rfl, _, rfl, ifF (decide_eq_false fun q => c0 (c1 q)) ⟨_, h1, ?_⟩⟩⟩
    exact asV (Q := Q) (congrArg V.int er.symm) q
section
variable {P : Program} {w : World} {K : PySem.W.Frag} {mg : Str → Option Value} {base : Heap}
/-! ### _law_put -/
theorem sc65 : FnScope ["_law_slot_here", "_law_value", "_law_end", "_law_rest", "_law_k"] ["_law_slot_here", "_law_value", "_law_end"] (defScope s65) := ⟨rfl, rfl, rfl, by decide +kernel, rfl, by decide +kernel, by decide +kernel⟩
theorem pow_at {i : Nat} (h : i < 4) : ([V.int 1, V.int 256, V.int 65536, V.int 16777216] : List V)[i]? = some (V.int (256 ^ i)) := by
  match i, h with
  | 0, _ => rfl
  | 1, _ => rfl
  | 2, _ => rfl
  | 3, _ => rfl
theorem pow_ok {i : Nat} (h : i < 4) : CDiv 0 ((256 : Int) ^ i) := by
  match i, h with
  | 0, _ => exact ⟨by decide, by decide⟩
  | 1, _ => exact ⟨by decide, by decide⟩
  | 2, _ => exact ⟨by decide, by decide⟩
  | 3, _ => exact ⟨by decide, by decide⟩
theorem ok_lput (T : Tb mg) (D : Df K mg "_law_put" s65) (W : Pm P w K mg base "_law_width" 1 ["_law_slot_here"] spWidth) : Pm P w K mg base "_law_put" 2 ["_law_slot_here", "_law_value", "_law_end"] spPut := by
  refine Pm.of D sc65 (fun vs H Q E h => ?_) (fun _ _ _ _ _ _ us hl => match us, hl with | [_, _, _], _ => rfl) fun f cdv A outer s H vs Q E hr h => ?_
  · obtain ⟨f, v, x, e, rfl, _⟩ := h
    rfl
  · obtain ⟨f, v, x, e, rfl, hf, k⟩ := h
    refine ⟨_, pss_cons (ps_set (i := 3) sc65.nd rfl (Or.inr rfl) (pe_ifExp (pt_cmpR op_eq (pe_ix ix_seq (pv 0) pe_int (fun _ _ => rfl)) pe_str (nomark _)) (pe_op op_sub (pv 1) (pv 2)) (pv 1)))
      (pss_one (ps_ret (pe_lc (own := [("_law_k", 4)]) (g := gName 4) (tt := tYes) rfl sc65.nd (pi_range1 rfl T.range (pa_cons (pe_pm W hr (pa_cons (pv 0) pa_nil)) pa_nil)) (blkOk_by (N := ["_law_slot_here", "_law_value", "_law_end", "_law_rest", "_law_k"]) (sc := defScope s65) (by decide +kernel))
              (fun _ _ _ _ _ => pg_name (i := 4) sc65.nd rfl (Or.inl rfl)) (fun _ _ _ _ _ => pts_nil)
              (fun _ _ _ _ _ => pe_op op_mod (pe_callTy call_int1 (by rfl) T.int bt_int (pa_cons (pe_op op_fdiv (pv 3) (pe_ix (r := rIxL K) ix_list (pe_lst (pa_cons pe_int (pa_cons pe_int (pa_cons pe_int (pa_cons pe_int pa_nil))))) (pv 4) (fun _ _ => rfl))) pa_nil)) pe_int)))), ?_⟩
    refine rest_read rfl rfl rfl hf ?_
    have hc4 := cells_le f
    refine ⟨_, rfl, f, v, rfl, hf, fun H1 s1 => ⟨(f.cells : Int), rfl, by omega, by omega, fun p hp => ?_⟩⟩
    refine lc_pureR (n := f.cells) (lo := 0) (ys := (f.put x e).map V.int) hp (fun x => rfl) (by simp [Fd.put]) (lt1000 (by omega)) (fun i y H2 Q1 hy s2 q => ?_) fun H2 s2 h2 => ?_
    · rw [List.getElem?_map] at hy
      obtain ⟨n, hn, rfl⟩ := Option.map_eq_some_iff.mp hy
      unfold Fd.put at hn
      rw [List.getElem?_map] at hn
      obtain ⟨i', hi', en⟩ := Option.map_eq_some_iff.mp hn
      obtain ⟨hlt, ei⟩ := List.getElem?_eq_some_iff.mp hi'
      rw [List.length_range] at hlt
      have ei2 : i' = i := by rw [← ei, List.getElem_range]
      subst ei2
      have h4 : i' < 4 := by omega
      refine ⟨_, rfl, by decide +kernel, fun l hl => ⟨_, rfl, l, _, _, _, rfl, rfl, SqL.of upd_same, at_of (j := i') (by omega) (pow_at h4), _, _, rfl, rfl, pow_ok h4, .inl ⟨_, rfl, _, _, rfl, rfl, (by show (0 : Int) < 256; decide), ?_⟩⟩⟩
      exact asV (Q := Q1) (congrArg V.int en) (q _ (same_upd' hl))
    · exact k p H2 (s1.free hp) (s1.trans s2) h2
/-! ### _law_coded -/
theorem sc66 : FnScope ["_law_shape", "_law_given", "_law_far", "_law_found", "_law_end", "_law_slot_here", "_law_value"] ["_law_shape", "_law_given", "_law_far"] (defScope s66) := ⟨rfl, rfl, rfl, by decide +kernel, rfl, by decide +kernel, by decide +kernel⟩
theorem ok_coded (T : Tb mg) (D : Df K mg "_law_coded" s66) (L : Pm P w K mg base "_law_long" 2 ["_law_shape"] spLen) (B : Pm P w K mg base "_law_put" 2 ["_law_slot_here", "_law_value", "_law_end"] spPut) : Pm P w K mg base "_law_coded" 3 ["_law_shape", "_law_given", "_law_far"] spBy := by
  refine Pm.of D sc66 (fun vs H Q E h => ?_) (fun _ _ _ _ _ _ us hl => match us, hl with | [_, _, _], _ => rfl) fun f cdv A outer s H vs Q E hr h => ?_
  · obtain ⟨F, ops, ad, v, u, rfl, _⟩ := h
    rfl
  · obtain ⟨F, ops, ad, v, u, rfl, hF, O, ⟨b, rfl, hb⟩, hl, k⟩ := h
    refine ⟨_, pss_cons (ps_par (i := 3) (j := 4) (by rfl) sc66.nd rfl rfl (by decide) rfl rfl (pa_cons (pe_callTy call_list_of (by rfl) T.list bt_list (pa_cons (pe_ix ix_tup (pv 0) pe_int (fun _ _ => rfl)) pa_nil)) (pa_cons (pe_op op_add (pv 2) (pe_pm L hr (pa_cons (pv 0) pa_nil))) pa_nil)) (by rfl))
      (pss_cons (ps_for PassesOwn.never rfl (RZ.pi_zipA (by rfl) T.zip (pa_cons (pe_ix ix_tup (pv 0) pe_int (fun _ _ => rfl)) (pa_cons (pv 1) pa_nil))) (pg_tup rfl (pgs_cons (pg_name (i := 5) sc66.nd rfl (Or.inl rfl)) (pgs_cons (pg_name (i := 6) sc66.nd rfl (Or.inl rfl)) pgs_nil)))
        (pss_one (ps_set (i := 3) sc66.nd rfl (Or.inl rfl) (pe_op op_cat (pv 3) (pe_pm B hr (pa_cons (pv 5) (pa_cons (pv 6) (pa_cons (pv 4) pa_nil))))))))
      (pss_one (ps_ret (pe_callTy call_tuple_of (by rfl) T.tuple bt_tuple (pa_cons (pv 3) pa_nil))))), ?_⟩
    obtain ⟨a, x, y, rfl, ha, ⟨c, rfl, hc⟩, e, fvs, rfl, he, hfs⟩ := id hF
    have hlen := hfs.length
    refine ⟨_, rfl, a, _, _, _, rfl, rfl, SqT.of ha, atI_nat (j := 0) rfl, c, _, rfl, .inr (SqT.of hc), fun l hl0 => ?_⟩
    have s0 := same_upd' (o := .lst (F.op.map V.int)) hl0
    refine ⟨_, rfl, _, rfl, F, _, rfl, hF.ts (TS.of s0), O, fun H1 s1 => ⟨_, _, rfl, rfl, _, _, rfl, ?_⟩⟩
    have s01 := s0.trans s1
    refine ⟨_, rfl, a, _, _, _, rfl, rfl, SqT.of (s01 _ _ ha), atI_nat (j := 1) rfl, _, rfl, e, b, _, _, rfl, .inr ⟨SqT.of (s01 _ _ he), SqT.of (s01 _ _ hb), ?_⟩⟩
    refine RZ.for_zipT (K := K) (a := e) (b := b) (xs := fvs) (ys := ops.map V.int) (by rw [List.length_map]; omega)
      (fun i σ' H' => ∃ q t5 t6, σ' = [some (.ref a), some (.ref b), some (.int ad), some (.ref q), some (.int (ad + (F.len : Nat))), t5, t6] ∧ Same H H' ∧ H' q = some (.lst ((byTo F ops ad i).map V.int)))
      ⟨l, none, none, rfl, s01, by rw [s1 _ _ upd_same]; simp [byTo]⟩ (fun i σ' H' ⟨_, _, _, _, s1, _⟩ => ⟨SqT.of (s1 _ _ he), SqT.of (s1 _ _ hb)⟩) ?_ ?_
    · rintro i fv ov p σ' H' hi ho ⟨q, t6, t7, rfl, s1, h1⟩ hp
      obtain ⟨fd, hfd, hv⟩ := Paired.at hfs hi
      rw [List.getElem?_map] at ho
      obtain ⟨o, hoo, rfl⟩ := Option.map_eq_some_iff.mp ho
      have s2 : Same H (upd H' p (.tup [fv, .int o])) := same_upd s1 (s1.free hp)
      refine ⟨p, _, rfl, SqT.of upd_same, rfl, _, _, rfl, _, _, rfl, rfl, ?_⟩
      have h2 : (upd H' p (.tup [fv, .int o])) q = some (.lst ((byTo F ops ad i).map V.int)) := by
        rw [upd_ne (ne_of_none h1 hp)]
        exact h1
      refine ⟨_, rfl, _, rfl, _, rfl, _, rfl, fd, fv, o, _, rfl, hv.ts (TS.of s2), fun r H4 hr4 s4 h4 => ?_⟩
      have e1 := byTo_len F ops ad i
      have e2 := put_len fd o (ad + F.len)
      have e3 := O.o3
      have e4 := O.f4
      have e5 := (List.getElem?_eq_some_iff.mp hi).1
      refine ⟨_, _, _, _, rfl, rfl, s4 _ _ h2, h4, ?_, fun p2 hp2 => ⟨p2, _, _, rfl, ?_, ?_⟩⟩
      · rw [List.length_map, List.length_map]
        exact Nat.le_of_lt (lt1000 (by omega))
      · exact same_upd (s2.trans s4) ((s2.trans s4).free hp2)
      · rw [upd_same, byTo_succ hfd hoo, List.map_append]
    · rintro σ' H' ⟨q, _, _, rfl, s1, h1⟩
      refine ⟨_, rfl, q, _, rfl, .inl ⟨SqL.of h1, fun p hp => k p _ (s1.free hp) (same_upd s1 (s1.free hp)) ?_⟩⟩
      rw [upd_same]
      have e1 : byTo F ops ad fvs.length = cellsBy F ops ad := by
        unfold byTo cellsBy
        rw [List.take_of_length_le]
        rw [List.length_zip]
        omega
      rw [e1]
/-! ### _law_misfit -/
theorem sc67 : FnScope ["_law_shape", "_law_given", "_law_far", "_law_shifts", "_law_end", "_law_here", "_law_slot_here", "_law_low", "_law_high"] ["_law_shape", "_law_given", "_law_far", "_law_shifts"] (defScope s67) := ⟨rfl, rfl, rfl, by decide +kernel, rfl, by decide +kernel, by decide +kernel⟩
theorem ok_lmisfit (T : Tb mg) (D : Df K mg "_law_misfit" s67) (L : Pm P w K mg base "_law_long" 2 ["_law_shape"] spLen) (B : Pm P w K mg base "_law_bounds" 1 ["_law_slot_here", "_law_end"] spLBounds) : Pm P w K mg base "_law_misfit" 3 ["_law_shape", "_law_given", "_law_far", "_law_shifts"] (spMisfit K) := by
  refine Pm.of D sc67 (fun vs H Q E h => ?_) (fun _ _ _ _ _ _ us hl => match us, hl with | [_, _, _, _], _ => rfl) fun f cdv A outer s H vs Q E hr h => ?_
  · obtain ⟨F, ops, ad, mv, v, u, x, rfl, _⟩ := h
    rfl
  · obtain ⟨F, ops, ad, mv, v, u, x, rfl, hF, O, ⟨b, rfl, hb⟩, hl, ⟨c, rfl, hc⟩, k⟩ := h
    refine ⟨_, pss_cons (ps_set (i := 4) sc67.nd rfl (Or.inl rfl) (pe_op op_add (pv 2) (pe_pm L hr (pa_cons (pv 0) pa_nil))))
      (pss_cons (ps_for PassesOwn.never rfl (pi_en (by rfl) T.enumerate (pa_cons (pe_ix ix_tup (pv 0) pe_int (fun _ _ => rfl)) pa_nil)) (pg_tup rfl (pgs_cons (pg_name (i := 5) sc67.nd rfl (Or.inl rfl)) (pgs_cons (pg_name (i := 6) sc67.nd rfl (Or.inl rfl)) pgs_nil)))
        (pss_cons (ps_asg (pe_pm B (hr.mono (by decide)) (pa_cons (pv 6) (pa_cons (pv 4) pa_nil))) (pg_tup rfl (pgs_cons (pg_name (i := 7) sc67.nd rfl (Or.inl rfl)) (pgs_cons (pg_name (i := 8) sc67.nd rfl (Or.inl rfl)) pgs_nil))))
        (pss_one (ps_if (PW.pt (pw_or (pt_not (pt_chain op_le op_le (pv 7) (pe_ix ix_tup (pv 1) (pv 5) (fun _ _ => rfl)) (pv 8)))
            (pw_or1 (PW.pt (pw_and (pt_val (pe_isi T T.tuple bt_tuple (pv 6))) (pw_and1 (pt_cmpR op_in_seq (pv 5) (pv 3) rfl)))))))
          (pss_one (ps_ret (pv 5))) pss_nil))))
      (pss_one (ps_ret pe_non))), ?_⟩
    refine ⟨_, rfl, _, rfl, F, v, rfl, hF, O, fun H1 s1 => ⟨_, _, rfl, rfl, ?_⟩⟩
    obtain ⟨a, x, y, rfl, ha, _, e, fvs, rfl, he, hfs⟩ := hF
    refine ⟨_, rfl, a, _, _, _, rfl, rfl, SqT.of (s1 _ _ ha), atI_nat (j := 1) rfl, e, _, rfl, SqT.of (s1 _ _ he), ?_⟩
    refine for_en (K := K) (a := e) (xs := fvs) (fun i σ' H' => ∃ t5 t6 t7 t8, σ' = [some (.ref a), some (.ref b), some (.int ad), some (.ref c), some (.int (ad + (F.len : Nat))), t5, t6, t7, t8] ∧ Same H1 H' ∧ ∀ j, j < i → badAt (F.fs.getD j (.n 0)) (ad + F.len) (ops.getD j 0) j mv = false)
      ⟨none, none, none, none, rfl, Same.refl _, fun j hj => absurd hj (Nat.not_lt_zero j)⟩ (fun i σ' H' ⟨_, _, _, _, _, s2, _⟩ => SqT.of (s2 _ _ (s1 _ _ he))) ?_ ?_
    · rintro i fv p σ' H' hi ⟨t5, t6, t7, t8, rfl, s2, hbad⟩ hp
      obtain ⟨fd, hfd, hv⟩ := Paired.at hfs hi
      have hil : i < ops.length := by
        have := (List.getElem?_eq_some_iff.mp hfd).1
        omega
      have gf : F.fs.getD i (.n 0) = fd := by rw [List.getD_eq_getElem?_getD, hfd]; rfl
      obtain ⟨o, ho⟩ : ∃ o, ops[i]? = some o := ⟨ops[i], List.getElem?_eq_getElem hil⟩
      have go : ops.getD i 0 = o := by rw [List.getD_eq_getElem?_getD, ho]; rfl
      have s3 : Same H (upd H' p (.tup [.int (i : Nat), fv])) := same_upd (s1.trans s2) (s1.free (s2.free hp))
      refine ⟨p, _, rfl, SqT.of upd_same, rfl, _, _, rfl, _, _, rfl, rfl, ?_⟩
      refine ⟨_, rfl, _, rfl, fd, fv, _, rfl, hv.ts (TS.of s3), fun q H4 hq s4 h4 => ?_⟩
      have s5 := s3.trans s4
      refine ⟨q, _, rfl, SqT.of h4, rfl, _, _, rfl, _, _, rfl, rfl, ?_⟩
      refine ⟨_, rfl, _, rfl, _, rfl, b, _, _, _, rfl, rfl, SqT.of (s5 _ _ hb), atI_nat (j := i) (v := V.int o) (by rw [List.getElem?_map, ho]; rfl), _, _, rfl, rfl, _, rfl, ?_⟩
      have hyes : badAt fd (ad + F.len) o i mv = true → misfit F ops ad mv = some i := fun hb0 =>
        find_some hbad (List.getElem?_eq_some_iff.mp hfd).1 (by rw [gf, go]; exact hb0)
      have hno : badAt fd (ad + F.len) o i mv = false → ∀ j, j < i + 1 → badAt (F.fs.getD j (.n 0)) (ad + F.len) (ops.getD j 0) j mv = false := fun hb0 j hj => by
        by_cases hji : j < i
        · exact hbad j hji
        · have : j = i := by omega
          subst this
          rw [gf, go]
          exact hb0
      have hret : badAt fd (ad + F.len) o i mv = true → Q (.int (i : Nat)) H4 := fun hb0 => by
        have := k _ s5
        rw [hyes hb0] at this
        exact this
      have s6 : Same H1 H4 := (same_upd s2 (s2.free hp)).trans s4
      refine ite2 (fun c1 => ⟨_, rfl, _, _, rfl, rfl, _, rfl, ?_⟩) fun c1 => ⟨_, rfl, ifT rfl ⟨_, rfl, hret ?_⟩⟩
      · by_cases c2 : decide (o ≤ fd.hi (ad + F.len)) = true
        · refine ifF (by rw [c2] <;> rfl) ?_
          cases fd with
          | w kd z =>
            obtain rfl : fv = .str (fdS kd z) := hv
            refine ⟨_, rfl, "str", false, .base (.str _), by decide +kernel, _, rfl, iteF (iteF ⟨_, _, _, _, rfl, s6, hno ?_⟩)⟩
            simp only [badAt, Fd.told, c1, c2]
            rfl
          | n z =>
            obtain ⟨a2, rfl, ha2⟩ := hv
            refine ⟨_, rfl, "tuple", true, .base (.tup (s5 _ _ ha2)), by decide +kernel, _, rfl, iteT ⟨_, rfl, _, rfl, c, _, rfl, .inr (sqT_same hc s5), rfl, flat_ints mv, _, rfl, ?_⟩⟩
            rw [if_neg (by decide), inV_ints]
            by_cases c3 : decide ((i : Int) ∈ mv) = true
            · refine ifT c3 ⟨_, rfl, hret ?_⟩
              simp only [badAt, Fd.told, c3]
              simp
            · have c3' : decide ((i : Int) ∈ mv) = false := by simpa using c3
              refine ifF c3' ⟨_, _, _, _, rfl, s6, hno ?_⟩
              simp only [badAt, c1, c2, c3']
              simp
        · have c2' : decide (o ≤ fd.hi (ad + F.len)) = false := by simpa using c2
          refine ifT (by rw [c2'] <;> rfl) ⟨_, rfl, hret ?_⟩
          simp only [badAt, c2']
          simp
      · have c1' : decide (fd.lo (ad + F.len) ≤ o) = false := by simpa using c1
        simp only [badAt, c1']
        simp
    · rintro σ' H' ⟨_, _, _, _, rfl, s2, hbad⟩
      have e0 : misfit F ops ad mv = none := find_none fun j hj => hbad j (by rw [← hfs.length]; exact hj)
      rw [e0] at k
      exact k H' (s1.trans s2)
/-! ### _law_first -/
theorem sc69 : FnScope ["_law_shapes_here", "_law_given", "_law_far", "_law_low", "_law_shifts", "_law_some", "_law_k"] ["_law_shapes_here", "_law_given", "_law_far", "_law_low", "_law_shifts"] (defScope s69) := ⟨rfl, rfl, rfl, by decide +kernel, rfl, by decide +kernel, by decide +kernel⟩
/-- the turns that fit, of the first i -/
def someTo (fms : List Fm) (ops : List Int) (ad : Int) (lo : Nat) (mv : List Int) (i : Nat) : List Int := ((List.range i).filter fun j => fits fms ops ad mv (lo + j)).map fun j => ((lo + j : Nat) : Int)
theorem someTo_head (fms : List Fm) (ops : List Int) (ad : Int) (lo : Nat) (mv : List Int) : (someTo fms ops ad lo mv (fms.length - lo)).head? = (firstFit fms ops ad lo mv).map fun i => ((i : Nat) : Int) := by
  unfold someTo firstFit
  rw [List.head?_map, List.head?_filter, Option.map_map]
  rfl
theorem someTo_le (fms : List Fm) (ops : List Int) (ad : Int) (lo : Nat) (mv : List Int) (i : Nat) : (someTo fms ops ad lo mv i).length ≤ i := by
  unfold someTo
  rw [List.length_map]
  exact Nat.le_trans (List.length_filter_le _ _) (by rw [List.length_range] <;> exact Nat.le_refl _)
theorem shaped_lints (xs : List Int) : SeqAt.shaped (.list (xs.map PyData.int)) = true := by
  show (PyData.canLay0 _ && decide (PyData.depth _ ≤ 64)) = true
  simp only [PyData.canLay0, PyData.depth, can_ints, depth_ints]
  decide
theorem ok_lfirst (T : Tb mg) (D : Df K mg "_law_first" s69) (M : Pm P w K mg base "_law_misfit" 3 ["_law_shape", "_law_given", "_law_far", "_law_shifts"] (spMisfit K)) : Pm P w K mg base "_law_first" 4 ["_law_shapes_here", "_law_given", "_law_far", "_law_low", "_law_shifts"] (spFirst K) := by
  refine Pm.of D sc69 (fun vs H Q E h => ?_) (fun _ _ _ _ _ _ us hl => match us, hl with | [_, _, _, _, _], _ => rfl) fun f cdv A outer s H vs Q E hr h => ?_
  · obtain ⟨fms, ops, ad, lo, mv, v, u, x, rfl, _⟩ := h
    rfl
  · obtain ⟨fms, ops, ad, lo, mv, v, u, x, rfl, ⟨a, fvs, rfl, ha, hfs⟩, O, hu, hx, hlo, k⟩ := h
    have hlen := hfs.length
    have h6 := O.len
    refine ⟨_, pss_cons (ps_setLc (i := 5) (own := [("_law_k", 6)]) (g := gName 6) rfl sc69.nd rfl rfl (sw_true rfl rfl rfl (by decide +kernel)) (pi_range2 rfl T.range (pa_cons (pv 3) (pa_cons (pe_callB call_len_seq (by rfl) T.len PySem.boot_len (pa_cons (pv 0) pa_nil)) pa_nil)))
        (blkOk_by (N := ["_law_shapes_here", "_law_given", "_law_far", "_law_low", "_law_shifts", "_law_some", "_law_k"]) (sc := defScope s69) (by decide +kernel)) (fun _ _ _ _ _ => pg_name (i := 6) sc69.nd rfl (Or.inl rfl))
        (fun _ _ _ _ _ => pts_one (pt_cmpR op_isN (pe_pm M hr (pa_cons (pe_ix (r := rIxT K) ix_tup (pv 0) (pv 6) (fun _ _ => rfl)) (pa_cons (pv 1) (pa_cons (pv 2) (pa_cons (pv 4) pa_nil))))) pe_non (nomark _))) (fun _ _ _ _ _ => pv 6))
      (pss_one (ps_ret (pe_ifExp (pt_cmpR (op_neD hr.units) (pv 5) (pe_lst pa_nil) (nomark _)) (pe_ix ix_list (pv 5) pe_int (fun _ _ => rfl)) pe_non))), ?_⟩
    refine ⟨_, rfl, _, rfl, a, _, rfl, .inr (SqT.of ha), (lo : Nat), (fvs.length : Nat), rfl, ⟨by omega, by omega, by omega, by omega⟩, fun p hp => ?_⟩
    refine lc_range (lo := (lo : Nat)) (n := ((fvs.length : Int) - (lo : Nat)).toNat) (fun i H' => Same H H' ∧ H' p = some (.lst ((someTo fms ops ad lo mv i).map V.int))) ⟨same_upd' hp, upd_same⟩ ?_ ?_
    · rintro i H' hi ⟨s1, h1⟩
      have hil : lo + i < fvs.length := by omega
      obtain ⟨fv, hfv⟩ : ∃ fv, fvs[lo + i]? = some fv := ⟨fvs[lo + i], List.getElem?_eq_getElem hil⟩
      obtain ⟨F, hF, hv⟩ := Paired.at hfs hfv
      have gF : fms.getD (lo + i) ⟨[], []⟩ = F := by rw [List.getD_eq_getElem?_getD, hF]; rfl
      obtain ⟨o1, o2⟩ := O.fm F (List.mem_of_getElem? hF)
      refine ⟨rfl, _, rfl, _, rfl, a, _, _, fv, rfl, rfl, SqT.of (s1 _ _ ha), at_of (j := lo + i) (by omega) hfv, _, rfl, _, rfl, _, rfl, F, ops, ad, mv, fv, u, x, rfl, hv.ts (TS.of s1), o1, hu.ts (TS.of s1), o2, hx.sm s1, fun H2 s2 => ?_⟩
      refine ⟨rfl, _, rfl, ?_⟩
      rw [optV_none]
      have e1 : someTo fms ops ad lo mv (i + 1) = someTo fms ops ad lo mv i ++ (if (misfit F ops ad mv).isNone = true then [((lo + i : Nat) : Int)] else []) := by
        unfold someTo
        rw [List.range_succ, List.filter_append, List.map_append]
        congr 1
        have e2 : fits fms ops ad mv (lo + i) = (misfit F ops ad mv).isNone := by unfold fits; rw [gF]
        by_cases hm : (misfit F ops ad mv).isNone = true
        · rw [if_pos hm]
          simp [List.filter, e2, hm]
        · rw [if_neg hm]
          have hm' := (Bool.not_eq_true _).mp hm
          simp [List.filter, e2, hm']
      by_cases hm : (misfit F ops ad mv).isNone = true
      · refine ifT hm ⟨_, rfl, _, s2 _ _ h1, ?_, same_upd (s1.trans s2) hp, ?_⟩
        · rw [List.length_map]
          have := someTo_le fms ops ad lo mv i
          exact lt1000 (by omega)
        · rw [upd_same, e1, if_pos hm, List.map_append]
          rfl
      · refine ifF ((Bool.not_eq_true _).mp hm) ⟨s1.trans s2, ?_⟩
        rw [e1, if_neg hm, List.append_nil]
        exact s2 _ _ h1
    · rintro H' ⟨s1, h1⟩
      have en : ((fvs.length : Int) - (lo : Nat)).toNat = fms.length - lo := by omega
      rw [en] at h1
      have hh := someTo_head fms ops ad lo mv
      refine ⟨_, rfl, le0, fun q hq => ?_⟩
      have h2 : (upd H' q (.lst [])) p = some (.lst ((someTo fms ops ad lo mv (fms.length - lo)).map V.int)) := by
        rw [upd_ne (ne_of_none h1 hq)]
        exact h1
      refine ⟨_, _, .lst (SqL.of h2) (dp_ints _), .lst (ds := ([] : List Int).map PyData.int) (SqL.of upd_same) .nil, shaped_lints _, shaped_lints [], _, rfl, ?_⟩
      simp only [PyData.eqv, eqv_ints]
      have s3 : Same H (upd H' q (.lst [])) := same_upd s1 (s1.free hq)
      cases hs : someTo fms ops ad lo mv (fms.length - lo) with
      | nil =>
        rw [hs] at hh
        refine ifF (by simp) ?_
        have e1 : firstFit fms ops ad lo mv = none := by
          cases e : firstFit fms ops ad lo mv with
          | none => rfl
          | some i => rw [e] at hh; cases hh
        have := k _ s3
        rw [e1] at this
        exact this
      | cons z zs =>
        rw [hs] at hh h2
        refine ifT (by simp) ⟨_, rfl, p, _, _, _, rfl, rfl, SqL.of h2, atI_nat (j := 0) (v := V.int z) rfl, ?_⟩
        obtain ⟨i, e1, rfl⟩ : ∃ i : Nat, firstFit fms ops ad lo mv = some i ∧ z = (i : Int) := by
          cases e : firstFit fms ops ad lo mv with
          | none => rw [e] at hh; cases hh
          | some i => rw [e] at hh; exact ⟨i, rfl, Option.some.inj hh⟩
        have := k _ s3
        rw [e1] at this
        exact this
end
end K51
set_option Elab.async false
set_option linter.all false
set_option maxRecDepth 100000
set_option maxHeartbeats 4000000
/-! the law's draws -/
namespace K51
open PySem PySem.Spec PyProof.Rows L2
abbrev s54 : Stmt := top 54
abbrev s55 : Stmt := top 55
abbrev s56 : Stmt := top 56
abbrev s57 : Stmt := top 57
/-! ### the draws' dict -/
def drK (a b c : Int) : List (Key × V) := [(.inr "large", .int a), (.inr "mixed", .int b), (.inr "turn", .int c)]
def DrSt (H : Hp) (m : Addr) : Prop := ∃ a b c, H m = some (.dK (drK a b c))
theorem dr_large (a b c : Int) : valV (drK a b c) (.inr "large") = some (.int a) := by rfl
theorem dr_mixed (a b c : Int) : valV (drK a b c) (.inr "mixed") = some (.int b) := by rfl
theorem dr_turn (a b c : Int) : valV (drK a b c) (.inr "turn") = some (.int c) := by rfl
theorem dr_large' (a b c x : Int) : putK (drK a b c) (.inr "large") (.int x) = drK x b c := by rfl
theorem dr_mixed' (a b c x : Int) : putK (drK a b c) (.inr "mixed") (.int x) = drK a x c := by rfl
theorem dr_turn' (a b c x : Int) : putK (drK a b c) (.inr "turn") (.int x) = drK a b x := by rfl
/-- all but the draws' dict as it was -/
structure Kp (m : Addr) (H H' : Hp) : Prop where
  keep : ∀ b o, b ≠ m → H b = some o → H' b = some o
  d0 : DrSt H m
  d1 : DrSt H' m
section
variable {m : Addr} {H H1 H2 : Hp}
theorem Kp.refl (h : DrSt H m) : Kp m H H := ⟨fun _ _ _ q => q, h, h⟩
theorem Kp.trans (a : Kp m H H1) (b : Kp m H1 H2) : Kp m H H2 := ⟨fun c o n q => b.keep c o n (a.keep c o n q), a.d0, b.d1⟩
theorem Kp.of (h : DrSt H m) (s : Same H H1) : Kp m H H1 := ⟨fun c o _ q => s c o q, h, let ⟨a, b, c, q⟩ := h; ⟨a, b, c, s _ _ q⟩⟩
theorem Kp.ts (k : Kp m H H1) : TS H H1 := fun b xs q => k.keep b _ (by
  obtain ⟨x, y, z, e⟩ := k.d0
  exact ne_of q e (by intro h; cases h)) q
theorem Kp.lst (k : Kp m H H1) {l : Addr} {xs : List V} (q : H l = some (.lst xs)) : H1 l = some (.lst xs) := k.keep l _ (by
  obtain ⟨x, y, z, e⟩ := k.d0
  exact ne_of q e (by intro h; cases h)) q
theorem Kp.free (k : Kp m H H1) {l : Addr} (h : H1 l = none) : H l = none := by
  cases e : H l with
  | none => rfl
  | some o =>
    by_cases hl : l = m
    · subst hl
      obtain ⟨x, y, z, e2⟩ := k.d1
      rw [h] at e2
      cases e2
    · rw [k.keep l o hl e] at h
      cases h
theorem Kp.new (k : Kp m H H1) {p : Addr} {o : HO} (h : H p = none) : Kp m H (upd H1 p o) := by
  have hm : m ≠ p := by
    obtain ⟨x, y, z, e⟩ := k.d0
    exact ne_of_none e h
  refine ⟨fun b u n q => ?_, k.d0, ?_⟩
  · rw [upd_ne (ne_of_none q h)]
    exact k.keep b u n q
  · obtain ⟨x, y, z, e⟩ := k.d1
    exact ⟨x, y, z, by rw [upd_ne hm]; exact e⟩
theorem Kp.put (h : DrSt H m) {a b c : Int} : Kp m H (upd H m (.dK (drK a b c))) := ⟨fun b u n q => by rw [upd_ne n]; exact q, h, ⟨_, _, _, upd_same⟩⟩
end
section
variable {P : Program} {w : World} {K : PySem.W.Frag} {mg : Str → Option Value} {base : Heap}
/-! ### _law_begin -/
def spBegin (K : PySem.W.Frag) : Sp := fun vs H Q _ => ∃ (a : Addr) (ns : List Int) (sp : Nat), vs = [.ref a, .int (sp : Nat)] ∧ SqL K H a (ns.map V.int) ∧ ∀ m H', H m = none → Same H H' → DrSt H' m → Q (.ref m) H'
theorem sc54 : FnScope ["_law_script", "_law_spot", "_law_own"] ["_law_script", "_law_spot"] (defScope s54) := ⟨rfl, rfl, rfl, by decide +kernel, rfl, by decide +kernel, by decide +kernel⟩
theorem ok_begin (T : Tb mg) (D : Df K mg "_law_begin" s54) : Pm P w K mg base "_law_begin" 1 ["_law_script", "_law_spot"] (spBegin K) := by
  refine Pm.of D sc54 (fun vs H Q E h => ?_) (fun _ _ _ _ _ _ us hl => match us, hl with | [_, _], _ => rfl) fun f cdv A outer s H vs Q E hr h => ?_
  · obtain ⟨a, ns, sp, rfl, _⟩ := h
    rfl
  · obtain ⟨a, ns, sp, rfl, hS, k⟩ := h
    refine ⟨_, pss_cons (ps_set (i := 2) sc54.nd rfl (Or.inl rfl) (pe_ifExp (pt_cmpR (op_neD hr.units) (pv 0) (pe_lst pa_nil) (nomark _))
          (pe_ix ix_list (pv 0) (pe_op op_mod (pe_callTy call_int1 (by rfl) T.int bt_int (pa_cons (pv 1) pa_nil)) (pe_callB call_len_seq (by rfl) T.len PySem.boot_len (pa_cons (pv 0) pa_nil))) (fun _ _ => rfl)) pe_int))
      (pss_one (ps_ret (pe_disp (pps_cons pe_str (pe_ifExp (pt_cmpR op_ge (pv 2) (pe_op op_pow pe_int pe_int) (nomark _)) (pv 2) pe_int)
        (pps_cons pe_str (pe_op op_mod (pe_callTy call_int1 (by rfl) T.int bt_int (pa_cons (pe_op op_add (pe_op op_add (pe_op op_mul pe_int (pv 2)) (pv 1)) pe_int) pa_nil)) pe_int)
        (pps_cons pe_str pe_int pps_nil))) (by rfl) (by rfl) (fun z => by cases z) (by decide)))), ?_⟩
    refine ⟨_, rfl, le0, fun q hq => ?_⟩
    have s1 : Same H (upd H q (.lst [])) := same_upd' hq
    have hS1 := s1.seq hS
    refine ⟨_, _, .lst hS1 (dp_ints _), .lst (ds := ([] : List Int).map PyData.int) (SqL.of upd_same) .nil, shaped_lints _, shaped_lints [], _, rfl, ?_⟩
    simp only [PyData.eqv, eqv_ints]
    have fin : ∀ (p : Addr) (x y z : Int), (upd H q (.lst [])) p = none → Q (.ref p) (upd (upd (upd H q (.lst [])) p (.dK [])) p (.dK (mergeK [] (drK x y z)))) := fun p x y z hp =>
      k p _ (s1.free hp) (s1.trans (upd2 hp)) ⟨x, y, z, upd_same⟩
    by_cases hn : ns = []
    · refine ifF (by rw [decide_eq_true hn] <;> rfl) ?_
      refine fun p hp => ⟨_, rfl, _, _, rfl, rfl, ⟨by decide, by decide, by decide⟩, _, _, rfl, rfl, _, rfl, ite2 (fun c => ⟨_, rfl, ?_⟩) fun c => ?_⟩
      · exact ⟨_, rfl, _, _, rfl, rfl, .inl ⟨by decide, by decide⟩, _, rfl, _, _, rfl, rfl, _, _, rfl, rfl, .inl ⟨_, rfl, _, _, rfl, rfl, (by show (0 : Int) < 998244353; decide), upd_same, drK _ _ _, rfl, (by show 3 ≤ 15; decide), fin p _ _ _ hp⟩⟩
      · exact ⟨_, rfl, _, _, rfl, rfl, .inl ⟨by decide, by decide⟩, _, rfl, _, _, rfl, rfl, _, _, rfl, rfl, .inl ⟨_, rfl, _, _, rfl, rfl, (by show (0 : Int) < 998244353; decide), upd_same, drK _ _ _, rfl, (by show 3 ≤ 15; decide), fin p _ _ _ hp⟩⟩
    · refine ifT (by rw [decide_eq_false hn] <;> rfl) ?_
      have hpos : 0 < ns.length := List.length_pos_iff.mpr hn
      have hj : sp % ns.length < ns.length := Nat.mod_lt _ hpos
      have hpos2 : (0 : Int) < (((ns.map V.int).length : Nat) : Int) := by
        rw [List.length_map]
        omega
      have hat : (ns.map V.int)[sp % ns.length]? = some (.int (ns[sp % ns.length]'hj)) := by
        rw [List.getElem?_map, List.getElem?_eq_getElem hj]
        rfl
      refine ⟨_, rfl, _, rfl, .inl ⟨_, rfl, _, rfl, a, _, rfl, .inl hS1, _, _, rfl, rfl, hpos2, a, _, _, _, rfl, rfl, hS1, at_of (j := sp % ns.length) ?_ hat, ?_⟩⟩
      · rw [List.length_map]
        omega
      refine fun p hp => ⟨_, rfl, _, _, rfl, rfl, ⟨by decide, by decide, by decide⟩, _, _, rfl, rfl, _, rfl, ite2 (fun c => ⟨_, rfl, ?_⟩) fun c => ?_⟩
      · exact ⟨_, rfl, _, _, rfl, rfl, .inl ⟨by decide, by decide⟩, _, rfl, _, _, rfl, rfl, _, _, rfl, rfl, .inl ⟨_, rfl, _, _, rfl, rfl, (by show (0 : Int) < 998244353; decide), upd_same, drK _ _ _, rfl, (by show 3 ≤ 15; decide), fin p _ _ _ hp⟩⟩
      · exact ⟨_, rfl, _, _, rfl, rfl, .inl ⟨by decide, by decide⟩, _, rfl, _, _, rfl, rfl, _, _, rfl, rfl, .inl ⟨_, rfl, _, _, rfl, rfl, (by show (0 : Int) < 998244353; decide), upd_same, drK _ _ _, rfl, (by show 3 ≤ 15; decide), fin p _ _ _ hp⟩⟩
/-! ### _law_draw -/
def spDraw : Sp := fun vs H Q _ => ∃ (m : Addr) (n : Int), vs = [.ref m, .int n] ∧ DrSt H m ∧ 0 < n ∧ n < 1073741824 ∧ ∀ r H', 0 ≤ r → r < n → Kp m H H' → Q (.int r) H'
theorem sc55 : FnScope ["_law_m", "_law_size", "_law_found"] ["_law_m", "_law_size"] (defScope s55) := ⟨rfl, rfl, rfl, by decide +kernel, rfl, by decide +kernel, by decide +kernel⟩
theorem lt3 (a b c : Int) : (drK a b c).length < sizeLine := lt1000 (by show 3 ≤ 1000; decide)
theorem ok_draw (T : Tb mg) (D : Df K mg "_law_draw" s55) : Pm P w K mg base "_law_draw" 1 ["_law_m", "_law_size"] spDraw := by
  refine Pm.of D sc55 (fun vs H Q E h => ?_) (fun _ _ _ _ _ _ us hl => match us, hl with | [_, _], _ => rfl) fun f cdv A outer s H vs Q E hr h => ?_
  · obtain ⟨m, n, rfl, _⟩ := h
    rfl
  · obtain ⟨m, n, rfl, hd, h0, h1, k⟩ := h
    have hu := hu_of hr
    refine ⟨_, pss_cons (ps_if (pt_cmpR op_gt (pe_dget hu (pv 0) pe_str (fun _ _ => rfl)) pe_int (nomark _))
          (pss_cons (ps_set (i := 2) sc55.nd rfl (Or.inl rfl) (pe_op op_mod (pe_callTy call_int1 (by rfl) T.int bt_int (pa_cons (pe_dget hu (pv 0) pe_str (fun _ _ => rfl)) pa_nil)) (pv 1)))
          (pss_cons (ps_dput hu (pv 0) pe_str (pe_op op_fdiv (pe_dget hu (pv 0) pe_str (fun _ _ => rfl)) (pv 1)) rfl)
          (pss_one (ps_ret (pv 2))))) pss_nil)
      (pss_cons (ps_dput hu (pv 0) pe_str (pe_op op_add (pe_dget hu (pv 0) pe_str (fun _ _ => rfl)) pe_int) rfl)
      (pss_cons (ps_dput hu (pv 0) pe_str (pe_op op_mod (pe_callTy call_int1 (by rfl) T.int bt_int (pa_cons (pe_op op_add (pe_op op_add (pe_op op_mul (pe_dget hu (pv 0) pe_str (fun _ _ => rfl)) pe_int) (pe_op op_mul pe_int (pe_dget hu (pv 0) pe_str (fun _ _ => rfl)))) pe_int) pa_nil)) pe_int) rfl)
      (pss_one (ps_ret (pe_op op_mod (pe_callTy call_int1 (by rfl) T.int bt_int (pa_cons (pe_op op_fdiv (pe_dget hu (pv 0) pe_str (fun _ _ => rfl)) pe_int) pa_nil)) (pv 1)))))), ?_⟩
    obtain ⟨a, b, c, e⟩ := id hd
    refine ⟨_, rfl, m, _, rfl, (dr_large a b c) ▸ DGet.k (k := Sum.inr "large") e, _, _, rfl, rfl, _, rfl, ite2 (fun c0 => ?_) fun c0 => ?_⟩
    · refine ⟨_, rfl, m, _, rfl, (dr_large a b c) ▸ DGet.k (k := Sum.inr "large") e, .inl ⟨_, rfl, _, rfl, _, _, rfl, rfl, h0, ?_⟩⟩
      refine ⟨_, rfl, m, _, rfl, (dr_large a b c) ▸ DGet.k (k := Sum.inr "large") e, _, rfl, _, _, rfl, rfl, ⟨h0, h1⟩, _, rfl, m, _, rfl, DPut.k (k := Sum.inr "large") e (lt3 a b c), _, rfl, ?_⟩
      rw [dr_large']
      exact k _ _ (Int.emod_nonneg _ (by omega)) (Int.emod_lt_of_pos _ h0) (Kp.put hd)
    · refine ⟨_, rfl, m, _, rfl, (dr_turn a b c) ▸ DGet.k (k := Sum.inr "turn") e, _, _, rfl, rfl, _, rfl, m, _, rfl, DPut.k (k := Sum.inr "turn") e (lt3 a b c), ?_⟩
      rw [dr_turn']
      refine ⟨_, rfl, m, _, rfl, (dr_mixed a b (c + 1)) ▸ DGet.k (k := Sum.inr "mixed") upd_same, _, _, rfl, rfl, .inr ⟨by decide, by decide⟩, _, rfl, m, _, rfl, (dr_turn a b (c + 1)) ▸ DGet.k (k := Sum.inr "turn") upd_same, _, _, rfl, rfl, .inl ⟨by decide, by decide⟩,
        _, _, rfl, rfl, _, _, rfl, rfl, .inl ⟨_, rfl, _, _, rfl, rfl, (by show (0 : Int) < 2147483647; decide), _, rfl, m, _, rfl, DPut.k (k := Sum.inr "mixed") upd_same (lt3 a b (c + 1)), ?_⟩⟩
      rw [dr_mixed']
      refine ⟨_, rfl, m, _, rfl, (dr_mixed a _ (c + 1)) ▸ DGet.k (k := Sum.inr "mixed") upd_same, _, _, rfl, rfl, ⟨by decide, by decide⟩, .inl ⟨_, rfl, _, rfl, _, _, rfl, rfl, h0, ?_⟩⟩
      exact k _ _ (Int.emod_nonneg _ (by omega)) (Int.emod_lt_of_pos _ h0) ((Kp.put hd).trans (Kp.put (Kp.put hd).d1))
end
end K51
set_option Elab.async false
set_option linter.all false
set_option maxRecDepth 100000
set_option maxHeartbeats 4000000
/-! pick, mixed -/
namespace K51
open PySem PySem.Spec PyProof.Rows L2
section
variable {P : Program} {w : World} {K : PySem.W.Frag} {mg : Str → Option Value} {base : Heap}
/-! ### _law_pick -/
def Sq (H : Hp) (a : Addr) (xs : List V) : Prop := H a = some (.lst xs) ∨ H a = some (.tup xs)
theorem Sq.kp {H H' : Hp} {m a : Addr} {xs : List V} (s : Sq H a xs) (k : Kp m H H') : Sq H' a xs := by
  rcases s with s | s
  · exact .inl (k.lst s)
  · exact .inr (k.ts _ _ s)
theorem Sq.ss {H : Hp} {a : Addr} {xs : List V} (s : Sq H a xs) : SqL K H a xs ∨ SqT K H a xs := by
  rcases s with s | s
  · exact .inl (SqL.of s)
  · exact .inr (SqT.of s)
def spPick : Sp := fun vs H Q _ => ∃ (m a : Addr) (xs : List V), vs = [.ref m, .ref a] ∧ DrSt H m ∧ Sq H a xs ∧ 0 < xs.length ∧ xs.length ≤ 1000 ∧ ∀ (i : Nat) x H', xs[i]? = some x → Kp m H H' → Q x H'
theorem sc56 : FnScope ["_law_m", "_law_items"] ["_law_m", "_law_items"] (defScope s56) := ⟨rfl, rfl, rfl, by decide +kernel, rfl, by decide +kernel, by decide +kernel⟩
theorem ok_pick (T : Tb mg) (D : Df K mg "_law_pick" s56) (W : Pm P w K mg base "_law_draw" 1 ["_law_m", "_law_size"] spDraw) : Pm P w K mg base "_law_pick" 2 ["_law_m", "_law_items"] spPick := by
  refine Pm.of D sc56 (fun vs H Q E h => ?_) (fun _ _ _ _ _ _ us hl => match us, hl with | [_, _], _ => rfl) fun f cdv A outer s H vs Q E hr h => ?_
  · obtain ⟨m, a, xs, rfl, _⟩ := h
    rfl
  · obtain ⟨m, a, xs, rfl, hd, hs, h0, h1, k⟩ := h
    refine ⟨_, pss_one (ps_ret (pe_ix ix_seq (pv 1) (pe_pm W hr (pa_cons (pv 0) (pa_cons (pe_callB call_len_seq (by rfl) T.len PySem.boot_len (pa_cons (pv 1) pa_nil)) pa_nil))) (fun _ _ => rfl))), ?_⟩
    refine ⟨_, rfl, _, rfl, _, rfl, a, xs, rfl, hs.ss, m, (xs.length : Nat), rfl, hd, by omega, by omega, fun r H' r0 r1 kp => ?_⟩
    obtain ⟨i, rfl⟩ : ∃ i : Nat, r = (i : Nat) := ⟨r.toNat, by omega⟩
    have hi : i < xs.length := by omega
    have hx : xs[i]? = some xs[i] := List.getElem?_eq_getElem hi
    rcases hs with hs | hs
    · exact .inl ⟨a, _, _, _, rfl, rfl, SqL.of (kp.lst hs), atI_nat hx, k i _ H' hx kp⟩
    · exact .inr (.inl ⟨a, _, _, _, rfl, rfl, SqT.of (kp.ts _ _ hs), atI_nat hx, k i _ H' hx kp⟩)
/-! ### _law_mixed -/
/-- what is mixed: texts, tuples of whole numbers -/
inductive Dat (H : Hp) : V → PyData → Prop
  | str (z : Str) (h : PyData.canLay0 (.str z) = true) : Dat H (.str z) (.str z)
  | nums {a : Addr} (ns : List Int) (h : H a = some (.tup (ns.map V.int))) : Dat H (.ref a) (.tuple (ns.map PyData.int))
theorem Dat.ts {H H' : Hp} {v : V} {d : PyData} (h : Dat H v d) (t : TS H H') : Dat H' v d := by
  cases h with
  | str z h => exact .str z h
  | nums ns h => exact .nums ns (t _ _ h)
theorem Dat.dp {H : Hp} {v : V} {d : PyData} (h : Dat H v d) : Dp K H v d := by
  cases h with
  | str z h => exact .str z
  | nums ns h => exact .tup (SqT.of h) (dp_ints ns)
theorem dat_all {H : Hp} : ∀ {vs : List V} {ds : List PyData}, Paired (Dat H) vs ds → DpAll K H vs ds
  | _, _, .nil => .nil
  | _, _, .cons h t => .cons h.dp (dat_all t)
theorem dat_can {H : Hp} : ∀ {vs : List V} {ds : List PyData}, Paired (Dat H) vs ds → PyData.canLayAll0 ds = true ∧ PyData.depthAll ds ≤ 1
  | _, _, .nil => by simp [PyData.canLayAll0, PyData.depthAll]
  | _, _, .cons h t => by
    have ih := dat_can t
    cases h with
    | str z h => simp [PyData.canLayAll0, PyData.depthAll, PyData.depth, h, ih.1, ih.2]
    | nums ns h => simp [PyData.canLayAll0, PyData.canLay0, PyData.depthAll, PyData.depth, can_ints, depth_ints, ih.1, ih.2]
theorem dat_shaped {H : Hp} {vs : List V} {ds : List PyData} (h : Paired (Dat H) vs ds) : SeqAt.shaped (.list ds) = true := by
  have := dat_can h
  show (PyData.canLay0 _ && decide (PyData.depth _ ≤ 64)) = true
  rw [Bool.and_eq_true]
  refine ⟨?_, decide_eq_true ?_⟩
  · simp only [PyData.canLay0]
    exact this.1
  · simp only [PyData.depth]
    omega
theorem TS.mut {H : Hp} {p : Addr} {xs : List V} {o : HO} (h : H p = some (.lst xs)) : TS H (upd H p o) := fun b ys q => by
  rw [upd_ne (ne_of q h (by intro e; cases e))]
  exact q
theorem dat_erase {H : Hp} : ∀ {vs : List V} {ds : List PyData} (i : Nat), Paired (Dat H) vs ds → Paired (Dat H) (vs.eraseIdx i) (ds.eraseIdx i)
  | _, _, _, .nil => .nil
  | _, _, 0, .cons h t => t
  | _, _, i + 1, .cons h t => .cons h (dat_erase i t)
theorem erase_perm {α : Type} : ∀ {xs : List α} {i : Nat} {x : α}, xs[i]? = some x → (x :: xs.eraseIdx i).Perm xs
  | [], _, _, h => by simp at h
  | y :: ys, 0, x, h => by
    have e : y = x := by simpa using h
    subst e
    exact List.Perm.refl _
  | y :: ys, i + 1, x, h => by
    have ih := erase_perm (xs := ys) (i := i) (x := x) (by simpa using h)
    exact (List.Perm.swap y x _).trans (List.Perm.cons y ih)
def spMixed : Sp := fun vs H Q _ => ∃ (m a : Addr) (xs : List V) (ds : List PyData), vs = [.ref m, .ref a] ∧ DrSt H m ∧ H a = some (.lst xs) ∧ Paired (Dat H) xs ds ∧ xs.length ≤ 900 ∧
  ∀ p ys H', ys.Perm xs → Kp m H H' → H p = none → H' p = some (.lst ys) → Q (.ref p) H'
theorem sc57 : FnScope ["_law_m", "_law_items", "_law_rest", "_law_found"] ["_law_m", "_law_items"] (defScope s57) := ⟨rfl, rfl, rfl, by decide +kernel, rfl, by decide +kernel, by decide +kernel⟩
/-- where the loop stands -/
structure MixSt (m a r f : Addr) (xs : List V) (H H' : Hp) (rs : List V) : Prop where
  kp : Kp m H H'
  rest : H' r = some (.lst rs)
  found : ∃ fs, H' f = some (.lst fs) ∧ (rs ++ fs).Perm xs
  dat : ∃ ds, Paired (Dat H') rs ds
theorem Kp.lset {m p : Addr} {H H' : Hp} {o : HO} (k : Kp m H H') (hp : H p = none) : Kp m H (upd H' p o) := k.new hp
theorem ok_mixed (T : Tb mg) (D : Df K mg "_law_mixed" s57) (W : Pm P w K mg base "_law_draw" 1 ["_law_m", "_law_size"] spDraw) : Pm P w K mg base "_law_mixed" 2 ["_law_m", "_law_items"] spMixed := by
  refine Pm.of D sc57 (fun vs H Q E h => ?_) (fun _ _ _ _ _ _ us hl => match us, hl with | [_, _], _ => rfl) fun f cdv A outer s H vs Q E hr h => ?_
  · obtain ⟨m, a, xs, ds, rfl, _⟩ := h
    rfl
  · obtain ⟨m, a, xs, ds, rfl, hd, ha, hds, hl, k⟩ := h
    refine ⟨_, pss_cons (ps_par (i := 2) (j := 3) (by rfl) sc57.nd rfl rfl (by decide) rfl rfl (pa_cons (pe_callTy call_list_of (by rfl) T.list bt_list (pa_cons (pv 1) pa_nil)) (pa_cons (pe_lst pa_nil) pa_nil)) (by rfl))
      (pss_cons (ps_while PassesOwn.never (pt_cmpR (op_neD hr.units) (pv 2) (pe_lst pa_nil) (nomark _))
        (pss_one (ps_expr (pe_bm PySem.F.plainAttrs_list PySem.F.slot_list_append PySem.F.type_list_append mt_append (pv 3) (pa_cons
          (pe_bm PySem.F.plainAttrs_list PySem.F.slot_list_pop PySem.F.type_list_pop mt_popAt (pv 2) (pa_cons (pe_pm W hr (pa_cons (pv 0) (pa_cons (pe_callB call_len_seq (by rfl) T.len PySem.boot_len (pa_cons (pv 2) pa_nil)) pa_nil))) pa_nil)) pa_nil)))))
      (pss_one (ps_ret (pv 3)))), ?_⟩
    refine ⟨_, rfl, a, _, rfl, .inl (SqL.of ha), fun r hr0 => ⟨le0, fun g hg => ⟨_, _, rfl, ?_⟩⟩⟩
    have hg0 : H g = none := (same_upd' (o := .lst xs) hr0).free hg
    have nrg : r ≠ g := fun e => by
      subst e
      rw [upd_same] at hg
      cases hg
    have k1 : Kp m H (upd (upd H r (.lst xs)) g (.lst [])) := ((Kp.refl hd).new hr0).new hg0
    refine ⟨fun n σ' H' => ∃ rs, n = rs.length ∧ σ' = [some (.ref m), some (.ref a), some (.ref r), some (.ref g)] ∧ MixSt m a r g xs H H' rs, ⟨xs.length, xs, rfl, rfl, k1, ?_, ⟨[], upd_same, ?_⟩, ⟨ds, Paired.imp (fun _ _ z => z.ts k1.ts) hds⟩⟩, ?_⟩
    · rw [upd_ne nrg, upd_same]
    · simp
    rintro n σ' H' ⟨rs, rfl, rfl, S⟩
    obtain ⟨kp, hrest, ⟨fs, hfound, hperm⟩, ds', hdat⟩ := S
    refine ⟨_, rfl, le0, fun q hq => ?_⟩
    have s1 : Same H' (upd H' q (.lst [])) := same_upd' hq
    have kq : Kp m H' (upd H' q (.lst [])) := Kp.of kp.d1 s1
    have hdat1 := Paired.imp (fun _ _ (z : Dat H' _ _) => z.ts kq.ts) hdat
    refine ⟨_, _, .lst (SqL.of (s1 _ _ hrest)) (dat_all hdat1), .lst (SqL.of upd_same) .nil, dat_shaped hdat, shaped_lints [], _, rfl, ?_⟩
    have hlen := hperm.length_eq
    rw [List.length_append] at hlen
    cases rs with
    | nil =>
      cases hdat
      refine ifF (by simp [PyData.eqv, PyData.eqvAll]) ⟨_, rfl, k g fs _ ?_ (kp.trans kq) hg0 (s1 _ _ hfound)⟩
      simpa using hperm
    | cons z zs =>
      cases hdat with
      | @cons _ d0 _ ds2 hz hzs =>
      refine ifT (by simp [PyData.eqv, PyData.eqvAll]) ?_
      have hlz : (z :: zs).length ≤ 900 := by omega
      refine ⟨fun σ'' H'' => ∃ rs, rs.length = zs.length ∧ σ'' = [some (.ref m), some (.ref a), some (.ref r), some (.ref g)] ∧ MixSt m a r g xs H H'' rs, fun σ'' H'' ⟨rs, e, p1, p2⟩ => ⟨rs.length, by rw [e]; exact Nat.lt_succ_self _, rs, rfl, p1, p2⟩, ?_⟩
      refine ⟨_, rfl, .inl ⟨rfl, _, SqL.of (s1 _ _ hfound)⟩, _, rfl, .inl ⟨rfl, _, SqL.of (s1 _ _ hrest)⟩, _, rfl, _, rfl, r, _, rfl, .inl (SqL.of (s1 _ _ hrest)), m, ((z :: zs).length : Nat), rfl, kq.d1, ?_, ?_, fun i H2 i0 i1 kp2 => ?_⟩
      · show (0 : Int) < (((z :: zs).length : Nat) : Int)
        rw [List.length_cons]
        omega
      · omega
      obtain ⟨j, rfl⟩ : ∃ j : Nat, i = (j : Nat) := ⟨i.toNat, by omega⟩
      have hj : j < (z :: zs).length := by omega
      have hj' : j < zs.length + 1 := hj
      have hx : (z :: zs)[j]? = some ((z :: zs)[j]) := List.getElem?_eq_getElem hj
      have kq2 := kq.trans kp2
      have hrest2 := kq2.lst hrest
      have hfound2 := kq2.lst hfound
      refine ⟨r, _, _, j, _, rfl, rfl, hrest2, by omega, by omega, ?_, hx, g, fs, _, rfl, rfl, ?_, ?_, (z :: zs).eraseIdx j, ?_, rfl, ?_, ?_, ⟨fs ++ [(z :: zs)[j]], ?_, ?_⟩, ⟨(d0 :: ds2).eraseIdx j, ?_⟩⟩
      · unfold seqIndex?
        have e1 : ¬ ((j : Int) < 0) := by omega
        simp only [e1, if_false]
        rw [if_pos (by simp; omega)]
        rfl
      · rw [upd_ne nrg.symm]
        exact hfound2
      · exact lt1000 (by rw [List.length_cons] at hlen; omega)
      · rw [List.length_eraseIdx, if_pos hj]
        rfl
      · exact ((kp.trans kq2).new hr0).new hg0
      · rw [upd_ne nrg, upd_same]
      · rw [upd_same]
      · refine List.Perm.trans ?_ hperm
        rw [← List.append_assoc]
        refine (List.perm_append_comm (l₁ := (z :: zs).eraseIdx j ++ fs) (l₂ := [(z :: zs)[j]])).trans ?_
        show ((z :: zs)[j] :: ((z :: zs).eraseIdx j ++ fs)).Perm _
        exact (erase_perm hx).append_right fs
      · refine dat_erase j (Paired.imp (fun _ _ (z : Dat H' _ _) => z.ts ?_) (.cons hz hzs))
        refine (kq2.ts.trans (TS.mut hrest2)).trans (TS.mut (xs := fs) ?_)
        rw [upd_ne nrg.symm]
        exact hfound2
end
end K51
set_option Elab.async false
set_option linter.all false
set_option maxRecDepth 100000
set_option maxHeartbeats 4000000
/-! codes: a list of opcodes of which none begins another -/
namespace K51
open PySem PySem.Spec PyProof.Rows L2
abbrev s58 : Stmt := top 58
/-! ### plain -/
theorem clash_ne {a b : Int} {as bs : List Int} (h : a ≠ b) : clash (a :: as) (b :: bs) = false := by
  unfold clash
  have h1 : ¬ (a :: as).take (b :: bs).length = b :: bs := fun e => by
    rw [List.length_cons, List.take_succ_cons] at e
    exact h (List.cons.inj e).1
  have h2 : ¬ (b :: bs).take (a :: as).length = a :: as := fun e => by
    rw [List.length_cons, List.take_succ_cons] at e
    exact h (List.cons.inj e).1.symm
  rw [decide_eq_false h1, decide_eq_false h2]
  rfl
theorem clash_eq {a : Int} {as bs : List Int} : clash (a :: as) (a :: bs) = clash as bs := by
  unfold clash
  have h1 : ((a :: as).take (a :: bs).length = a :: bs) ↔ (as.take bs.length = bs) := by
    rw [List.length_cons, List.take_succ_cons]
    exact ⟨fun e => (List.cons.inj e).2, fun e => by rw [e]⟩
  have h2 : ((a :: bs).take (a :: as).length = a :: as) ↔ (bs.take as.length = as) := by
    rw [List.length_cons, List.take_succ_cons]
    exact ⟨fun e => (List.cons.inj e).2, fun e => by rw [e]⟩
  rw [decide_eq_decide.mpr h1, decide_eq_decide.mpr h2]
theorem clash_symm (as bs : List Int) : clash as bs = clash bs as := by
  unfold clash
  exact Bool.or_comm _ _
theorem not_take {l : List Int} {i : Nat} {x : Int} (nd : l.Nodup) (h : l[i]? = some x) : x ∉ l.take i := by
  intro hm
  obtain ⟨k, hk, e⟩ := List.mem_take_iff_getElem.mp hm
  have := nd_ix nd (List.getElem?_eq_some_iff.mpr ⟨by omega, e⟩) h
  omega
def PFree (cs : List (List Int)) : Prop := cs.Pairwise fun a b => clash a b = false
theorem PFree.perm {cs cs' : List (List Int)} (p : cs'.Perm cs) (h : PFree cs) : PFree cs' :=
  (List.Perm.pairwise_iff (fun {a b} e => by rw [clash_symm]; exact e) p).mpr h
def OkC (c : List Int) : Prop := 1 ≤ c.length ∧ c.length ≤ 3 ∧ ∀ x ∈ c, 0 ≤ x ∧ x ≤ 255
structure CodesOk (cs : List (List Int)) : Prop where
  free : PFree cs
  many : 10 ≤ cs.length
  ok : ∀ c ∈ cs, OkC c
def lows : List Int := [0, 1, 2, 5, 9, 65, 127, 128, 254, 255]
def mids : List Int := [0, 1, 128, 255]
/-- behind i lows and j of the mids ms of the next low -/
structure CInv (i : Nat) (low : Int) (ms : List Int) (j : Nat) (cs : List (List Int)) : Prop where
  free : PFree cs
  ok : ∀ c ∈ cs, OkC c
  hd : ∀ c ∈ cs, (∃ h t, c = h :: t ∧ h ∈ lows.take i) ∨ (∃ x t, c = low :: x :: t ∧ x ∈ ms.take j)
  ge : i + j ≤ cs.length
  le : cs.length ≤ 8 * i + 2 * j
theorem CInv.add {i j : Nat} {low x : Int} {ms : List Int} {cs new : List (List Int)} (h : CInv i low ms j cs) (hl : lows[i]? = some low) (hx : ms[j]? = some x) (nd : ms.Nodup) (x0 : 0 ≤ x ∧ x ≤ 255)
    (hn : new = [[low, x]] ∨ new = [[low, x, 7], [low, x, 0]]) : CInv i low ms (j + 1) (cs ++ new) := by
  have hlr : 0 ≤ low ∧ low ≤ 255 := (by decide : ∀ z ∈ lows, 0 ≤ z ∧ z ≤ 255) low (List.mem_of_getElem? hl)
  have hnew : ∀ c ∈ new, ∃ t, c = low :: x :: t ∧ OkC c := by
    intro c hc
    rcases hn with rfl | rfl
    · rw [List.mem_singleton] at hc
      subst hc
      refine ⟨[], rfl, by show 1 ≤ 2; decide, by show 2 ≤ 3; decide, ?_⟩
      intro y hy
      rcases List.mem_cons.mp hy with rfl | hy
      · exact hlr
      · rw [List.mem_singleton] at hy
        subst hy
        exact x0
    · rcases List.mem_cons.mp hc with rfl | hc
      · refine ⟨[7], rfl, by show 1 ≤ 3; decide, by show 3 ≤ 3; decide, ?_⟩
        intro y hy
        rcases List.mem_cons.mp hy with rfl | hy
        · exact hlr
        · rcases List.mem_cons.mp hy with rfl | hy
          · exact x0
          · rw [List.mem_singleton] at hy
            subst hy
            decide
      · rw [List.mem_singleton] at hc
        subst hc
        refine ⟨[0], rfl, by show 1 ≤ 3; decide, by show 3 ≤ 3; decide, ?_⟩
        intro y hy
        rcases List.mem_cons.mp hy with rfl | hy
        · exact hlr
        · rcases List.mem_cons.mp hy with rfl | hy
          · exact x0
          · rw [List.mem_singleton] at hy
            subst hy
            decide
  have hlow : low ∉ lows.take i := not_take (by decide) hl
  have hxm : x ∉ ms.take j := not_take nd hx
  have hxs : x ∈ ms.take (j + 1) := by
    rw [List.take_succ, hx]
    simp
  have hml : new.length = 1 ∨ new.length = 2 := by
    rcases hn with rfl | rfl
    · exact .inl rfl
    · exact .inr rfl
  refine ⟨?_, ?_, ?_, ?_, ?_⟩
  · unfold PFree
    rw [List.pairwise_append]
    refine ⟨h.free, ?_, fun a ha b hb => ?_⟩
    · rcases hn with rfl | rfl
      · exact List.pairwise_singleton _ _
      · refine List.pairwise_cons.mpr ⟨fun b hb => ?_, List.pairwise_singleton _ _⟩
        rw [List.mem_singleton] at hb
        subst hb
        rw [clash_eq, clash_eq]
        decide
    · obtain ⟨t, rfl, _⟩ := hnew b hb
      rcases h.hd a ha with ⟨y, t2, rfl, hy⟩ | ⟨y, t2, rfl, hy⟩
      · exact clash_ne fun e => hlow (by rw [← e]; exact hy)
      · rw [clash_eq]
        exact clash_ne fun e => hxm (by rw [← e]; exact hy)
  · intro c hc
    rcases List.mem_append.mp hc with hc | hc
    · exact h.ok c hc
    · obtain ⟨t, _, o⟩ := hnew c hc
      exact o
  · intro c hc
    rcases List.mem_append.mp hc with hc | hc
    · rcases h.hd c hc with q | ⟨y, t, e, hy⟩
      · exact .inl q
      · refine .inr ⟨y, t, e, ?_⟩
        rw [List.take_succ]
        exact List.mem_append_left _ hy
    · obtain ⟨t, e, _⟩ := hnew c hc
      exact .inr ⟨x, t, e, hxs⟩
  · rw [List.length_append]
    have := h.ge
    omega
  · rw [List.length_append]
    have := h.le
    omega
theorem CInv.one {i : Nat} {low : Int} {cs : List (List Int)} (h : CInv i low [] 0 cs) (hl : lows[i]? = some low) : ∀ low', CInv (i + 1) low' [] 0 (cs ++ [[low]]) := fun low' => by
  have hlr : 0 ≤ low ∧ low ≤ 255 := (by decide : ∀ z ∈ lows, 0 ≤ z ∧ z ≤ 255) low (List.mem_of_getElem? hl)
  have hlow : low ∉ lows.take i := not_take (by decide) hl
  refine ⟨?_, ?_, ?_, ?_, ?_⟩
  · unfold PFree
    rw [List.pairwise_append]
    refine ⟨h.free, List.pairwise_singleton _ _, fun a ha b hb => ?_⟩
    rw [List.mem_singleton] at hb
    subst hb
    rcases h.hd a ha with ⟨y, t2, rfl, hy⟩ | ⟨y, t2, rfl, hy⟩
    · exact clash_ne fun e => hlow (by rw [← e]; exact hy)
    · simp at hy
  · intro c hc
    rcases List.mem_append.mp hc with hc | hc
    · exact h.ok c hc
    · rw [List.mem_singleton] at hc
      subst hc
      exact ⟨by show 1 ≤ 1; decide, by show 1 ≤ 3; decide, fun y hy => by rw [List.mem_singleton] at hy; subst hy; exact hlr⟩
  · intro c hc
    rcases List.mem_append.mp hc with hc | hc
    · rcases h.hd c hc with ⟨y, t, e, hy⟩ | ⟨y, t, e, hy⟩
      · refine .inl ⟨y, t, e, ?_⟩
        rw [List.take_succ]
        exact List.mem_append_left _ hy
      · simp at hy
    · rw [List.mem_singleton] at hc
      subst hc
      refine .inl ⟨low, [], rfl, ?_⟩
      rw [List.take_succ, hl]
      simp
  · rw [List.length_append, List.length_singleton]
    have := h.ge
    omega
  · rw [List.length_append, List.length_singleton]
    have := h.le
    omega
theorem CInv.next {i : Nat} {low : Int} {ms : List Int} {cs : List (List Int)} (h : CInv i low ms ms.length cs) (hl : lows[i]? = some low) (h1 : 1 ≤ ms.length) (h4 : ms.length ≤ 4) : ∀ low', CInv (i + 1) low' [] 0 cs := fun low' => by
  refine ⟨h.free, h.ok, fun c hc => ?_, by have := h.ge; omega, by have := h.le; omega⟩
  rcases h.hd c hc with ⟨y, t, e, hy⟩ | ⟨y, t, e, hy⟩
  · refine .inl ⟨y, t, e, ?_⟩
    rw [List.take_succ]
    exact List.mem_append_left _ hy
  · refine .inl ⟨low, _, e, ?_⟩
    rw [List.take_succ, hl]
    simp
theorem CInv.in {i : Nat} {low : Int} {cs : List (List Int)} (h : CInv i low [] 0 cs) (ms : List Int) : CInv i low ms 0 cs := by
  refine ⟨h.free, h.ok, fun c hc => ?_, h.ge, h.le⟩
  rcases h.hd c hc with q | ⟨y, t, e, hy⟩
  · exact .inl q
  · simp at hy
theorem CInv.low {i : Nat} {low : Int} {cs : List (List Int)} (h : CInv i low [] 0 cs) (low' : Int) : CInv i low' [] 0 cs := by
  refine ⟨h.free, h.ok, fun c hc => ?_, h.ge, h.le⟩
  rcases h.hd c hc with q | ⟨y, t, e, hy⟩
  · exact .inl q
  · simp at hy
theorem cut_mids {a b : Nat} (ha : a < 2) (hb : b < 3) : ∃ ms : List Int, cutV (mids.map V.int) (some (a : Nat)) (some (2 + (b : Nat))) = ms.map V.int ∧ ms.Nodup ∧ 1 ≤ ms.length ∧ ms.length ≤ 4 ∧ ∀ x ∈ ms, 0 ≤ x ∧ x ≤ 255 := by
  match a, b, ha, hb with
  | 0, 0, _, _ => exact ⟨[0, 1], rfl, by decide, by decide, by decide, by decide⟩
  | 0, 1, _, _ => exact ⟨[0, 1, 128], rfl, by decide, by decide, by decide, by decide⟩
  | 0, 2, _, _ => exact ⟨[0, 1, 128, 255], rfl, by decide, by decide, by decide, by decide⟩
  | 1, 0, _, _ => exact ⟨[1], rfl, by decide, by decide, by decide, by decide⟩
  | 1, 1, _, _ => exact ⟨[1, 128], rfl, by decide, by decide, by decide, by decide⟩
  | 1, 2, _, _ => exact ⟨[1, 128, 255], rfl, by decide, by decide, by decide, by decide⟩
theorem paired_perm {α β : Type} {R : α → β → Prop} {ys ys' : List β} (p : ys'.Perm ys) : ∀ {xs : List α}, Paired R xs ys → ∃ xs', xs'.Perm xs ∧ Paired R xs' ys' := by
  induction p with
  | nil => exact fun h => ⟨_, List.Perm.refl _, h⟩
  | cons y _ ih =>
    intro xs h
    cases h with
    | cons r t =>
      obtain ⟨xs', p1, p2⟩ := ih t
      exact ⟨_ :: xs', p1.cons _, .cons r p2⟩
  | swap y z l =>
    intro xs h
    cases h with
    | cons r t =>
      cases t with
      | cons r2 t2 => exact ⟨_, List.Perm.swap _ _ _, .cons r2 (.cons r t2)⟩
  | trans p1 p2 i1 i2 =>
    intro xs h
    obtain ⟨xs', a1, a2⟩ := i2 h
    obtain ⟨xs2, b1, b2⟩ := i1 a2
    exact ⟨xs2, b1.trans a1, b2⟩
theorem dat_codes {H : Hp} : ∀ {cs : List (List Int)} {ys : List V}, Paired (IntsV H) cs ys → Paired (Dat H) ys (cs.map fun c => .tuple (c.map PyData.int))
  | _, _, .nil => .nil
  | _, _, .cons h t => by
    obtain ⟨a, rfl, ha⟩ := h
    exact .cons (.nums _ ha) (dat_codes t)
end K51
set_option Elab.async false
set_option linter.all false
set_option maxRecDepth 100000
set_option maxHeartbeats 4000000
/-! _law_codes, _law_slot -/
namespace K51
open PySem PySem.Spec PyProof.Rows L2
abbrev s59 : Stmt := top 59
theorem Kp.mut {m p : Addr} {H H' : Hp} {o : HO} (k : Kp m H H') (hp : H p = none) : Kp m H (upd H' p o) := k.new hp
section
variable {P : Program} {w : World} {K : PySem.W.Frag} {mg : Str → Option Value} {base : Heap}
def spCodes : Sp := fun vs H Q _ => ∃ m : Addr, vs = [.ref m] ∧ DrSt H m ∧ ∀ p cs ys H', Kp m H H' → H p = none → H' p = some (.lst ys) → Paired (IntsV H') cs ys → CodesOk cs → cs.length ≤ 100 → Q (.ref p) H'
theorem sc58 : FnScope ["_law_m", "_law_found", "_law_low", "_law_mid", "_law_way"] ["_law_m"] (defScope s58) := ⟨rfl, rfl, rfl, by decide +kernel, rfl, by decide +kernel, by decide +kernel⟩
/-- where the loops stand: the list found at p -/
def CSt (m : Addr) (H H' : Hp) (p : Addr) (i : Nat) (low : Int) (ms : List Int) (j : Nat) : Prop := ∃ cs ys, H p = none ∧ Kp m H H' ∧ H' p = some (.lst ys) ∧ Paired (IntsV H') cs ys ∧ CInv i low ms j cs
theorem ok_codes (T : Tb mg) (D : Df K mg "_law_codes" s58) (W : Pm P w K mg base "_law_draw" 1 ["_law_m", "_law_size"] spDraw) (M : Pm P w K mg base "_law_mixed" 2 ["_law_m", "_law_items"] spMixed) : Pm P w K mg base "_law_codes" 3 ["_law_m"] spCodes := by
  refine Pm.of D sc58 (fun vs H Q E h => ?_) (fun _ _ _ _ _ _ us hl => match us, hl with | [_], _ => rfl) fun f cdv A outer s H vs Q E hr h => ?_
  · obtain ⟨m, rfl, _⟩ := h
    rfl
  · obtain ⟨m, rfl, hd, k⟩ := h
    refine ⟨_, (pss_cons (ps_set (i := 1) sc58.nd rfl (Or.inl rfl) (pe_lst pa_nil))
      (pss_cons (ps_for PassesOwn.never rfl (pi_list (pe_lst (pa_cons pe_int (pa_cons pe_int (pa_cons pe_int (pa_cons pe_int (pa_cons pe_int (pa_cons pe_int (pa_cons pe_int (pa_cons pe_int (pa_cons pe_int (pa_cons pe_int pa_nil)))))))))))) (pg_name (i := 2) sc58.nd rfl (Or.inl rfl)) (pss_one (ps_if (pt_cmpR op_gt (pe_pm W (hr.mono (by decide)) (pa_cons (pv 0) (pa_cons pe_int pa_nil))) pe_int (nomark _)) (pss_one (ps_expr (pe_bm PySem.F.plainAttrs_list PySem.F.slot_list_append PySem.F.type_list_append mt_append (pv 1) (pa_cons (pe_tup (pa_cons (pv 2) pa_nil)) pa_nil)))) (pss_one (ps_for PassesOwn.never rfl (pi_list (pe_slice sl_list (pe_lst (pa_cons pe_int (pa_cons pe_int (pa_cons pe_int (pa_cons pe_int pa_nil))))) (po_some (pe_pm W (hr.mono (by decide)) (pa_cons (pv 0) (pa_cons pe_int pa_nil)))) (po_some (pe_op op_add pe_int (pe_pm W (hr.mono (by decide)) (pa_cons (pv 0) (pa_cons pe_int pa_nil))))))) (pg_name (i := 3) sc58.nd rfl (Or.inl rfl)) (pss_cons (ps_set (i := 4) sc58.nd rfl (Or.inl rfl) (pe_pm W (hr.mono (by decide)) (pa_cons (pv 0) (pa_cons pe_int pa_nil))))
      (pss_one (ps_set (i := 1) sc58.nd rfl (Or.inl rfl) (pe_ifExp (pt_cmpR op_gt (pv 4) pe_int (nomark _)) (pe_op op_cat (pv 1) (pe_lst (pa_cons (pe_tup (pa_cons (pv 2) (pa_cons (pv 3) pa_nil))) pa_nil))) (pe_op op_cat (pv 1) (pe_lst (pa_cons (pe_tup (pa_cons (pv 2) (pa_cons (pv 3) (pa_cons pe_int pa_nil)))) (pa_cons (pe_tup (pa_cons (pv 2) (pa_cons (pv 3) (pa_cons pe_int pa_nil)))) pa_nil)))))))))))))
      (pss_one (ps_ret (pe_pm M (hr.mono (by decide)) (pa_cons (pv 0) (pa_cons (pv 1) pa_nil))))))), ?_⟩
    refine ⟨le0, fun p hp => ⟨by decide +kernel, fun l hl => ⟨l, rfl, ⟨_, SqL.of upd_same⟩, ?_⟩⟩⟩
    have hl0 : H l = none := (same_upd' (o := .lst []) hp).free hl
    have k0 : Kp m H (upd (upd H p (.lst [])) l (.lst (lows.map V.int))) := ((Kp.refl hd).new hp).new hl0
    have npl : p ≠ l := fun e => by
      subst e
      rw [upd_same] at hl
      cases hl
    refine for_list (K := K) (a := l) (xs := lows.map V.int) (fun i σ' H' => H' l = some (.lst (lows.map V.int)) ∧ ∃ p t2 t3 t4, σ' = [some (.ref m), some (.ref p), t2, t3, t4] ∧ p ≠ l ∧ CSt m H H' p i 0 [] 0)
      ⟨upd_same, p, none, none, none, rfl, npl, [], [], hp, k0, by rw [upd_ne npl, upd_same], .nil, ⟨List.Pairwise.nil, fun c hc => by simp at hc, fun c hc => by simp at hc, by decide, by decide⟩⟩ (fun i σ' H' _ q => SqL.of q.1) ?_ ?_
    · rintro i x σ' H' hi ⟨hL, p, t2, t3, t4, rfl, npl, cs, ys, hp, kp, hy, hcs, inv⟩
      rw [List.getElem?_map] at hi
      obtain ⟨low, hlow, rfl⟩ := Option.map_eq_some_iff.mp hi
      have hi10 : i < 10 := (List.getElem?_eq_some_iff.mp hlow).1
      refine ⟨_, rfl, m, 3, rfl, kp.d1, by decide, by decide, fun r H1 r0 r1 k1 => ⟨_, _, rfl, rfl, _, rfl, ite2 (fun c => ?_) fun c => ?_⟩⟩
      · have kp1 := kp.trans k1
        refine ⟨_, rfl, .inl ⟨rfl, _, SqL.of (k1.lst hy)⟩, _, rfl, le1, fun t ht => ?_⟩
        have kt : Kp m H1 (upd H1 t (.tup [V.int low])) := (Kp.refl k1.d1).new ht
        have ht0 := k1.free ht
        have hlen : ys.length = cs.length := hcs.length.symm
        refine ⟨p, ys, _, rfl, rfl, kt.lst (k1.lst hy), lt1000 (by have := inv.le; omega), ?_, p, _, _, _, rfl, npl, cs ++ [[low]], ys ++ [.ref t], hp, (kp1.trans kt).new hp, upd_same, ?_, (inv.low low).one hlow 0⟩
        · rw [upd_ne npl.symm]
          exact kt.lst (k1.lst hL)
        · have tm : TS H1 (upd (upd H1 t (.tup [V.int low])) p (.lst (ys ++ [.ref t]))) := kt.ts.trans (TS.mut (kt.lst (k1.lst hy)))
          refine Paired.snoc (Paired.imp (fun _ _ z => z.ts (k1.ts.trans tm)) hcs) ⟨t, rfl, ?_⟩
          exact TS.mut (kt.lst (k1.lst hy)) _ _ upd_same
      · refine ⟨by decide +kernel, fun b hb => ⟨_, rfl, m, 2, rfl, ?_, by decide, by decide, fun x1 H2 a0 a1 k2 => ⟨_, rfl, _, rfl, m, 3, rfl, k2.d1, by decide, by decide, fun x2 H3 b0 b1 k3 => ⟨_, _, rfl, rfl, _, rfl, ?_⟩⟩⟩⟩
        · exact ((Kp.refl k1.d1).new hb).d1
        obtain ⟨na, rfl⟩ : ∃ n : Nat, x1 = (n : Nat) := ⟨x1.toNat, by omega⟩
        obtain ⟨nb, rfl⟩ : ∃ n : Nat, x2 = (n : Nat) := ⟨x2.toNat, by omega⟩
        obtain ⟨ms, ems, nd, m1, m4, mr⟩ := cut_mids (a := na) (b := nb) (by omega) (by omega)
        have kb : Kp m H1 (upd H1 b (.lst (mids.map V.int))) := (Kp.refl k1.d1).new hb
        have kb3 : Kp m H1 H3 := (kb.trans k2).trans k3
        refine ⟨b, _, rfl, SqL.of (k3.lst (k2.lst upd_same)), fun g hg => ⟨g, rfl, ⟨_, SqL.of upd_same⟩, ?_⟩⟩
        rw [show cutV ([V.int 0, V.int 1, V.int 128, V.int 255]) (some (na : Nat)) (some (2 + (nb : Nat))) = ms.map V.int from ems]
        have kg : Kp m H3 (upd H3 g (.lst (ms.map V.int))) := (Kp.refl kb3.d1).new hg
        have k1g : Kp m H' (upd H3 g (.lst (ms.map V.int))) := (k1.trans kb3).trans kg
        have hg0 : H' g = none := (k1.trans kb3).free hg
        refine for_list (K := K) (a := g) (xs := ms.map V.int) (fun j σ' H' => H' l = some (.lst (lows.map V.int)) ∧ H' g = some (.lst (ms.map V.int)) ∧ ∃ p t3 t4, σ' = [some (.ref m), some (.ref p), some (.int low), t3, t4] ∧ p ≠ l ∧ CSt m H H' p i low ms j)
          ⟨k1g.lst hL, upd_same, p, _, _, rfl, npl, cs, ys, hp, kp.trans k1g, k1g.lst hy, Paired.imp (fun _ _ z => z.ts k1g.ts) hcs, (inv.low low).in ms⟩ (fun i σ' H' _ q => SqL.of q.2.1) ?_ ?_
        · rintro j x σ' H4 hj ⟨hL4, hg4, p, t3, t4, rfl, npl, cs, ys, hp, kp4, hy4, hcs4, inv⟩
          rw [List.getElem?_map] at hj
          obtain ⟨mid, hmid, rfl⟩ := Option.map_eq_some_iff.mp hj
          have hj4 := (List.getElem?_eq_some_iff.mp hmid).1
          have hlen : ys.length = cs.length := hcs4.length.symm
          have hle := inv.le
          refine ⟨_, rfl, m, 4, rfl, kp4.d1, by decide, by decide, fun y H5 y0 y1 k5 => ⟨_, rfl, _, _, rfl, rfl, _, rfl, ite2 (fun c => ?_) fun c => ?_⟩⟩
          · refine ⟨_, rfl, _, rfl, _, rfl, le2, fun t ht => ⟨le1, fun q hq => ⟨p, q, ys, _, rfl, rfl, ?_, upd_same, ?_, fun z hz => ?_⟩⟩⟩
            · exact (((Kp.refl k5.d1).new ht).trans ((Kp.refl ((Kp.refl k5.d1).new ht).d1).new hq)).lst (k5.lst hy4)
            · show ys.length + 1 ≤ sizeLine
              exact lt1000 (by omega)
            have kt : Kp m H5 (upd H5 t (.tup [V.int low, V.int mid])) := (Kp.refl k5.d1).new ht
            have kq := (Kp.refl kt.d1).new (o := .lst [.ref t]) hq
            have kz := (Kp.refl kq.d1).new (o := .lst (ys ++ [.ref t])) hz
            have kall := ((k5.trans kt).trans kq).trans kz
            refine ⟨kall.lst hL4, kall.lst hg4, z, _, _, rfl, ?_, cs ++ [[low, mid]], _, ?_, kp4.trans kall, upd_same, ?_, inv.add hlow hmid nd (mr mid (List.mem_of_getElem? hmid)) (.inl rfl)⟩
            · exact fun e => by
                rw [e] at hz
                exact absurd (((k5.trans kt).trans kq).lst hL4) (by rw [hz]; intro q; cases q)
            · exact (kp4.trans ((k5.trans kt).trans kq)).free hz
            · refine Paired.snoc (Paired.imp (fun _ _ z => z.ts kall.ts) hcs4) ⟨t, rfl, ?_⟩
              exact (kq.trans kz).ts _ _ upd_same
          · refine ⟨_, rfl, _, rfl, _, rfl, le3, fun t ht => ⟨_, rfl, _, rfl, le3, fun t2 ht2 => ⟨le2, fun q hq => ⟨p, q, ys, _, rfl, rfl, ?_, upd_same, ?_, fun z hz => ?_⟩⟩⟩⟩
            · exact (((Kp.refl k5.d1).new ht).trans (((Kp.refl ((Kp.refl k5.d1).new ht).d1).new ht2).trans ((Kp.refl ((Kp.refl ((Kp.refl k5.d1).new ht).d1).new ht2).d1).new hq))).lst (k5.lst hy4)
            · show ys.length + 2 ≤ sizeLine
              exact lt1000 (by omega)
            have kt : Kp m H5 (upd H5 t (.tup [V.int low, V.int mid, V.int 7])) := (Kp.refl k5.d1).new ht
            have kt2 := (Kp.refl kt.d1).new (o := .tup [V.int low, V.int mid, V.int 0]) ht2
            have kq := (Kp.refl kt2.d1).new (o := .lst [.ref t, .ref t2]) hq
            have kz := (Kp.refl kq.d1).new (o := .lst (ys ++ [.ref t, .ref t2])) hz
            have kall := (((k5.trans kt).trans kt2).trans kq).trans kz
            refine ⟨kall.lst hL4, kall.lst hg4, z, _, _, rfl, ?_, cs ++ [[low, mid, 7], [low, mid, 0]], _, ?_, kp4.trans kall, upd_same, ?_, inv.add hlow hmid nd (mr mid (List.mem_of_getElem? hmid)) (.inr rfl)⟩
            · exact fun e => by
                rw [e] at hz
                exact absurd ((((k5.trans kt).trans kt2).trans kq).lst hL4) (by rw [hz]; intro q; cases q)
            · exact (kp4.trans (((k5.trans kt).trans kt2).trans kq)).free hz
            · refine Paired.app (Paired.imp (fun _ _ z => z.ts kall.ts) hcs4) (.cons ⟨t, rfl, ?_⟩ (.cons ⟨t2, rfl, ?_⟩ .nil))
              · exact ((kt2.trans kq).trans kz).ts _ _ upd_same
              · exact (kq.trans kz).ts _ _ upd_same
        · rintro σ' H4 ⟨hL4, hg4, p, t3, t4, rfl, npl, cs, ys, hp, kp4, hy4, hcs4, inv⟩
          rw [List.length_map] at inv
          exact ⟨hL4, p, _, _, _, rfl, npl, cs, ys, hp, kp4, hy4, hcs4, inv.next hlow m1 m4 0⟩
    · rintro σ' H' ⟨hL, p, t2, t3, t4, rfl, npl, cs, ys, hp, kp, hy, hcs, inv⟩
      have h10 : (lows.map V.int).length = 10 := rfl
      rw [h10] at inv
      have hlen : ys.length = cs.length := hcs.length.symm
      have := inv.le
      have := inv.ge
      refine ⟨_, rfl, _, rfl, m, p, ys, _, rfl, kp.d1, hy, dat_codes hcs, by omega, fun q ys' H2 pm k2 hq h2 => ?_⟩
      obtain ⟨cs', pc, hcs'⟩ := paired_perm pm (Paired.imp (fun _ _ z => z.ts k2.ts) hcs)
      have hlc := pc.length_eq
      exact k q cs' ys' H2 (kp.trans k2) (kp.free hq) h2 hcs' ⟨inv.free.perm pc, by omega, fun c hc => inv.ok c (pc.mem_iff.mp hc)⟩ (by omega)
end
end K51
set_option Elab.async false
set_option linter.all false
set_option maxRecDepth 100000
set_option maxHeartbeats 4000000
/-! _law_slot, _law_near -/
namespace K51
open PySem PySem.Spec PyProof.Rows L2
abbrev s68 : Stmt := top 68
section
variable {P : Program} {w : World} {K : PySem.W.Frag} {mg : Str → Option Value} {base : Heap}
def spSlot : Sp := fun vs H Q _ => ∃ m : Addr, vs = [.ref m] ∧ DrSt H m ∧ ∀ f v H', Kp m H H' → FdV H' f v → okF f → Q v H'
theorem sc59 : FnScope ["_law_m"] ["_law_m"] (defScope s59) := ⟨rfl, rfl, rfl, by decide +kernel, rfl, by decide +kernel, by decide +kernel⟩
theorem usr_at {r : Int} (h0 : 0 ≤ r) (h1 : r < 3) : ∃ k : Kd, atI ("usr" : Str).cps.toList r = some k.c := by
  have : r = 0 ∨ r = 1 ∨ r = 2 := by omega
  rcases this with rfl | rfl | rfl
  · exact ⟨.u, by decide +kernel⟩
  · exact ⟨.s, by decide +kernel⟩
  · exact ⟨.r, by decide +kernel⟩
theorem num_at {r : Int} (h0 : 0 ≤ r) (h1 : r < 3) : ∃ z : Sz, atI ("124" : Str).cps.toList r = some z.c := by
  have : r = 0 ∨ r = 1 ∨ r = 2 := by omega
  rcases this with rfl | rfl | rfl
  · exact ⟨.b1, by decide +kernel⟩
  · exact ⟨.b2, by decide +kernel⟩
  · exact ⟨.b4, by decide +kernel⟩
theorem pow64_ok : CPow 2 64 := ⟨by decide, by decide, by decide⟩
def toldNs : List Int := [0, 1, 0 - 1, 5, 255, 300, 2 ^ 64, 0 - 2 ^ 64]
theorem ok_slot (T : Tb mg) (D : Df K mg "_law_slot" s59) (W : Pm P w K mg base "_law_draw" 1 ["_law_m", "_law_size"] spDraw) (M : Pm P w K mg base "_law_pick" 2 ["_law_m", "_law_items"] spPick) : Pm P w K mg base "_law_slot" 3 ["_law_m"] spSlot := by
  refine Pm.of D sc59 (fun vs H Q E h => ?_) (fun _ _ _ _ _ _ us hl => match us, hl with | [_], _ => rfl) fun f cdv A outer s H vs Q E hr h => ?_
  · obtain ⟨m, rfl, _⟩ := h
    rfl
  · obtain ⟨m, rfl, hd, k⟩ := h
    refine ⟨_, (pss_cons (ps_if (pt_cmpR op_eq (pe_pm W (hr.mono (by decide)) (pa_cons (pv 0) (pa_cons pe_int pa_nil))) pe_int (nomark _)) (pss_one (ps_ret (pe_tup (pa_cons pe_str (pa_cons (pe_pm M (hr.mono (by decide)) (pa_cons (pv 0) (pa_cons (pe_lst (pa_cons pe_int (pa_cons pe_int (pa_cons (pe_op op_sub pe_int pe_int) (pa_cons pe_int (pa_cons pe_int (pa_cons pe_int (pa_cons (pe_op op_pow pe_int pe_int) (pa_cons (pe_op op_sub pe_int (pe_op op_pow pe_int pe_int)) pa_nil))))))))) pa_nil))) pa_nil))))) pss_nil)
      (pss_one (ps_ret (pe_op op_add_str (pe_ix ix_str pe_str (pe_pm W (hr.mono (by decide)) (pa_cons (pv 0) (pa_cons pe_int pa_nil))) (fun _ _ => rfl)) (pe_ix ix_str pe_str (pe_pm W (hr.mono (by decide)) (pa_cons (pv 0) (pa_cons pe_int pa_nil))) (fun _ _ => rfl)))))), ?_⟩
    refine ⟨_, rfl, m, 8, rfl, hd, by decide, by decide, fun r H1 r0 r1 k1 => ⟨rfl, _, rfl, ite2 (fun c => ?_) fun c => ?_⟩⟩
    · refine ⟨_, rfl, _, _, rfl, rfl, _, _, rfl, rfl, pow64_ok, _, _, rfl, rfl, pow64_ok, _, _, rfl, rfl, by decide +kernel, fun l hl => ?_⟩
      refine ⟨m, l, toldNs.map V.int, rfl, ((Kp.refl k1.d1).new hl).d1, .inl upd_same, by decide, by decide, fun i x H2 hx k2 => ⟨le2, fun p hp => ?_⟩⟩
      rw [List.getElem?_map] at hx
      obtain ⟨v, hv, rfl⟩ := Option.map_eq_some_iff.mp hx
      have ho : 0 - 2 ^ 64 ≤ v ∧ v ≤ 2 ^ 64 := (by decide : ∀ z ∈ toldNs, (0 : Int) - 2 ^ 64 ≤ z ∧ z ≤ 2 ^ 64) v (List.mem_of_getElem? hv)
      have kk := (k1.trans ((Kp.refl k1.d1).new hl)).trans k2
      exact k (.n v) _ _ (kk.new (kk.free hp)) ⟨p, rfl, upd_same⟩ ho
    · refine ⟨_, rfl, m, 3, rfl, k1.d1, by decide, by decide, fun r2 H2 r20 r21 k2 => ?_⟩
      obtain ⟨kd, hkd⟩ := usr_at r20 r21
      refine ⟨_, _, kd.c, rfl, rfl, by decide +kernel, hkd, _, rfl, m, 3, rfl, k2.d1, by decide, by decide, fun r3 H3 r30 r31 k3 => ?_⟩
      obtain ⟨z, hz⟩ := num_at r30 r31
      refine ⟨_, _, z.c, rfl, rfl, by decide +kernel, hz, _, _, rfl, rfl, le2, ?_⟩
      refine k (.w kd z) _ H3 ((k1.trans k2).trans k3) ?_ trivial
      show V.str _ = V.str _
      cases kd <;> cases z <;> decide +kernel
/-! ### _law_near -/
def spNear : Sp := fun vs H Q _ => ∃ (m : Addr) (F : Fm) (rest : List Fm) (v : V) (ad : Int), vs = [.ref m, v, .int ad] ∧ DrSt H m ∧ FmsV H (F :: rest) v ∧ (∀ G ∈ F :: rest, OkFm G ∧ G.fs.length = F.fs.length) ∧ rest.length ≤ 5 ∧
  ∀ p ops H', Kp m H H' → H p = none → H' p = some (.tup (ops.map V.int)) → ops.length = F.fs.length → OpsOk ops → Q (.ref p) H'
def nearNs (lo hi r : Int) : List Int := [lo, hi, lo - 1, hi + 1, 0, lo + 1, hi - 1, r - 300]
def clamp (v : Int) : Int := if (if v < 2 ^ Int.toNat 64 then v else 2 ^ Int.toNat 64) > 0 - 2 ^ Int.toNat 64 then (if v < 2 ^ Int.toNat 64 then v else 2 ^ Int.toNat 64) else 0 - 2 ^ Int.toNat 64
theorem clamp_ok (v : Int) : 0 - 2 ^ 64 ≤ clamp v ∧ clamp v ≤ 2 ^ 64 := by
  have e : (2 : Int) ^ Int.toNat 64 = 18446744073709551616 := by decide
  have e2 : (2 : Int) ^ 64 = 18446744073709551616 := by decide
  unfold clamp
  rw [e, e2]
  split <;> split <;> omega
theorem sc68 : FnScope ["_law_m", "_law_shapes_here", "_law_far", "_law_found", "_law_here", "_law_shape", "_law_low", "_law_high", "_law_value"] ["_law_m", "_law_shapes_here", "_law_far"] (defScope s68) := ⟨rfl, rfl, rfl, by decide +kernel, rfl, by decide +kernel, by decide +kernel⟩
theorem ok_near (T : Tb mg) (D : Df K mg "_law_near" s68) (W : Pm P w K mg base "_law_draw" 1 ["_law_m", "_law_size"] spDraw) (M : Pm P w K mg base "_law_pick" 2 ["_law_m", "_law_items"] spPick) (L : Pm P w K mg base "_law_long" 2 ["_law_shape"] spLen)
    (B : Pm P w K mg base "_law_bounds" 1 ["_law_slot_here", "_law_end"] spLBounds) : Pm P w K mg base "_law_near" 3 ["_law_m", "_law_shapes_here", "_law_far"] spNear := by
  refine Pm.of D sc68 (fun vs H Q E h => ?_) (fun _ _ _ _ _ _ us hl => match us, hl with | [_, _, _], _ => rfl) fun f cdv A outer s H vs Q E hr h => ?_
  · obtain ⟨m, F, rest, v, ad, rfl, _⟩ := h
    rfl
  · obtain ⟨m, F, rest, v, ad, rfl, hd, ⟨a, fvs, rfl, ha, hfs⟩, O, hl5, k⟩ := h
    refine ⟨_, (pss_cons (ps_set (i := 3) sc68.nd rfl (Or.inl rfl) (pe_lst pa_nil))
      (pss_cons (ps_for PassesOwn.never rfl (pi_range1 rfl T.range (pa_cons (pe_callB call_len_seq (by rfl) T.len PySem.boot_len (pa_cons (pe_ix ix_tup (pe_ix ix_tup (pv 1) pe_int (fun _ _ => rfl)) pe_int (fun _ _ => rfl)) pa_nil)) pa_nil)) (pg_name (i := 4) sc68.nd rfl (Or.inl rfl)) (pss_cons (ps_set (i := 5) sc68.nd rfl (Or.inl rfl) (pe_pm M (hr.mono (by decide)) (pa_cons (pv 0) (pa_cons (pv 1) pa_nil))))
      (pss_cons (ps_asg (pe_pm B (hr.mono (by decide)) (pa_cons (pe_ix ix_tup (pe_ix ix_tup (pv 5) pe_int (fun _ _ => rfl)) (pv 4) (fun _ _ => rfl)) (pa_cons (pe_op op_add (pv 2) (pe_pm L (hr.mono (by decide)) (pa_cons (pv 5) pa_nil))) pa_nil))) (pg_tup rfl (pgs_cons (pg_name (i := 6) sc68.nd rfl (Or.inl rfl)) (pgs_cons (pg_name (i := 7) sc68.nd rfl (Or.inl rfl)) pgs_nil))))
      (pss_cons (ps_set (i := 8) sc68.nd rfl (Or.inl rfl) (pe_pm M (hr.mono (by decide)) (pa_cons (pv 0) (pa_cons (pe_lst (pa_cons (pv 6) (pa_cons (pv 7) (pa_cons (pe_op op_sub (pv 6) pe_int) (pa_cons (pe_op op_add (pv 7) pe_int) (pa_cons pe_int (pa_cons (pe_op op_add (pv 6) pe_int) (pa_cons (pe_op op_sub (pv 7) pe_int) (pa_cons (pe_op op_sub (pe_pm W (hr.mono (by decide)) (pa_cons (pv 0) (pa_cons pe_int pa_nil))) pe_int) pa_nil))))))))) pa_nil))))
      (pss_one (ps_expr (pe_bm PySem.F.plainAttrs_list PySem.F.slot_list_append PySem.F.type_list_append mt_append (pv 3) (pa_cons (pe_callB (call_max2 rfl) (by rfl) T.max (by decide +kernel) (pa_cons (pe_op op_sub pe_int (pe_op op_pow pe_int pe_int)) (pa_cons (pe_callB (call_min2 rfl) (by rfl) T.min (by decide +kernel) (pa_cons (pe_op op_pow pe_int pe_int) (pa_cons (pv 8) pa_nil))) pa_nil))) pa_nil))))))))
      (pss_one (ps_ret (pe_callTy call_tuple_of (by rfl) T.tuple bt_tuple (pa_cons (pv 3) pa_nil)))))), ?_⟩
    have hlen := hfs.length
    rw [List.length_cons] at hlen
    obtain ⟨OF, _⟩ := O F (List.mem_cons_self ..)
    refine ⟨le0, fun l hl => ?_⟩
    have k0 := (Kp.refl hd).new (o := .lst []) hl
    obtain ⟨v0, hv0, a0, x0, y0, rfl, ha0, _, e0, gvs, rfl, he0, hgs⟩ := Paired.ta (i := 0) hfs rfl
    refine ⟨_, rfl, a, _, _, _, rfl, rfl, SqT.of (k0.ts _ _ ha), atI_nat (j := 0) hv0, a0, _, _, _, rfl, rfl, SqT.of (k0.ts _ _ ha0), atI_nat (j := 1) rfl, e0, _, rfl, .inr (SqT.of (k0.ts _ _ he0)), (gvs.length : Nat), rfl, ?_, ?_, ?_⟩
    · omega
    · have := hgs.length
      have := OF.f4
      omega
    refine for_range (lo := 0) (n := gvs.length) (fun i σ' H' => ∃ ops : List Int, ∃ t4 t5 t6 t7 t8, σ' = [some (.ref m), some (.ref a), some (.int ad), some (.ref l), t4, t5, t6, t7, t8] ∧ Kp m H H' ∧ H' l = some (.lst (ops.map V.int)) ∧ ops.length = i ∧ OpsOk ops)
      ⟨[], none, none, none, none, none, rfl, k0, upd_same, rfl, fun v hv => by simp at hv⟩ ?_ ?_
    · rintro i σ' H' hi ⟨ops, t4, t5, t6, t7, t8, rfl, kp, hL, hol, hok⟩
      have h4 : gvs.length ≤ 4 := by
        have := hgs.length
        have := OF.f4
        omega
      refine ⟨_, rfl, _, rfl, m, a, fvs, rfl, kp.d1, .inr (kp.ts _ _ ha), by omega, by omega, fun j x H1 hx k1 => ?_⟩
      obtain ⟨G, hG, hGv⟩ := Paired.at hfs hx
      obtain ⟨OG, eG⟩ := O G (List.mem_of_getElem? hG)
      have kp1 := kp.trans k1
      obtain ⟨a1, x1, y1, rfl, ha1, _, e1, hvs, rfl, he1, hhs⟩ := id hGv
      have hil : i < hvs.length := by
        have := hgs.length
        have := hhs.length
        omega
      obtain ⟨fv, hfv⟩ : ∃ fv, hvs[i]? = some fv := ⟨hvs[i], List.getElem?_eq_getElem hil⟩
      obtain ⟨fd, hfd, hfdv⟩ := Paired.at hhs hfv
      refine ⟨_, rfl, a1, _, _, _, rfl, rfl, SqT.of (kp1.ts _ _ ha1), atI_nat (j := 1) rfl, _, rfl, e1, _, _, fv, rfl, rfl, SqT.of (kp1.ts _ _ he1), at_of (j := i) (by omega) hfv, _, rfl, _, rfl, G, _, rfl, hGv.ts kp1.ts, OG, fun H2 s2 => ?_⟩
      refine ⟨_, _, rfl, rfl, fd, fv, _, rfl, hfdv.ts (kp1.ts.trans (TS.of s2)), fun p H3 hp s3 h3 => ?_⟩
      have k2 := (Kp.of k1.d1 s2)
      have k3 := (Kp.of k2.d1 s3)
      have kp3 := (kp1.trans k2).trans k3
      refine ⟨p, _, rfl, SqT.of h3, rfl, _, _, rfl, _, _, rfl, rfl, ?_⟩
      refine ⟨_, rfl, _, rfl, _, rfl, _, rfl, _, _, rfl, rfl, _, rfl, _, _, rfl, rfl, _, rfl, _, _, rfl, rfl, _, rfl, _, _, rfl, rfl, _, rfl, m, 600, rfl, k3.d1, by decide, by decide, fun r H4 r0 r1 k4 => ?_⟩
      refine ⟨_, _, rfl, rfl, (by show 8 ≤ sizeLine; decide +kernel), fun q hq => ?_⟩
      have k5 := (Kp.refl k4.d1).new (o := .lst ((nearNs (fd.lo (ad + (G.len : Nat))) (fd.hi (ad + (G.len : Nat))) r).map V.int)) hq
      refine ⟨m, q, (nearNs (fd.lo (ad + (G.len : Nat))) (fd.hi (ad + (G.len : Nat))) r).map V.int, rfl, k5.d1, .inl upd_same, (by show 0 < 8; decide), (by show 8 ≤ 1000; decide), fun j2 x2 H6 hx2 k6 => ?_⟩
      rw [List.getElem?_map] at hx2
      obtain ⟨val, _, rfl⟩ := Option.map_eq_some_iff.mp hx2
      have kp6 := ((kp3.trans k4).trans k5).trans k6
      have hL6 := (((((k1.trans k2).trans k3).trans k4).trans k5).trans k6).lst hL
      refine ⟨_, rfl, .inl ⟨rfl, _, SqL.of hL6⟩, _, _, rfl, rfl, pow64_ok, _, _, rfl, rfl, _, _, rfl, rfl, pow64_ok, _, rfl, _, _, rfl, _, _, rfl, l, _, _, rfl, rfl, hL6, ?_, ?_⟩
      · rw [List.length_map]
        exact lt1000 (by omega)
      refine ⟨ops ++ [clamp val], _, _, _, _, _, rfl, kp6.new hl, ?_, ?_, ?_⟩
      · rw [upd_same, List.map_append]
        rfl
      · rw [List.length_append, hol]
        rfl
      · intro z hz
        rcases List.mem_append.mp hz with hz | hz
        · exact hok z hz
        · rw [List.mem_singleton] at hz
          subst hz
          exact clamp_ok val
    · rintro σ' H' ⟨ops, t4, t5, t6, t7, t8, rfl, kp, hL, hol, hok⟩
      refine ⟨_, rfl, l, _, rfl, .inl ⟨SqL.of hL, fun p hp => k p ops _ (kp.new (kp.free hp)) (kp.free hp) upd_same ?_ hok⟩⟩
      rw [hol, ← hgs.length]
end
end K51
set_option Elab.async false
set_option linter.all false
set_option maxRecDepth 100000
set_option maxHeartbeats 4000000
/-! _law_shapes -/
namespace K51
open PySem PySem.Spec PyProof.Rows L2
abbrev s62 : Stmt := top 62
/-- all but the draws' dict and the list at c as it was -/
structure Kc (m c : Addr) (H H' : Hp) : Prop where
  keep : ∀ b o, b ≠ m → b ≠ c → H b = some o → H' b = some o
  d0 : DrSt H m
  d1 : DrSt H' m
  c0 : ∃ ys, H c = some (.lst ys)
  c1 : ∃ ys, H' c = some (.lst ys)
section
variable {m c : Addr} {H H1 H2 : Hp}
theorem Kc.refl (h : DrSt H m) (hc : ∃ ys, H c = some (.lst ys)) : Kc m c H H := ⟨fun _ _ _ _ q => q, h, h, hc, hc⟩
theorem Kc.kp (a : Kc m c H H1) (b : Kp m H1 H2) : Kc m c H H2 := ⟨fun x o n1 n2 q => b.keep x o n1 (a.keep x o n1 n2 q), a.d0, b.d1, a.c0, let ⟨ys, q⟩ := a.c1; ⟨ys, b.lst q⟩⟩
theorem Kc.ts (k : Kc m c H H1) : TS H H1 := fun b xs q => k.keep b _ (by
  obtain ⟨x, y, z, e⟩ := k.d0
  exact ne_of q e (by intro h; cases h)) (by
  obtain ⟨ys, e⟩ := k.c0
  exact ne_of q e (by intro h; cases h)) q
theorem Kc.free (k : Kc m c H H1) {l : Addr} (h : H1 l = none) : H l = none := by
  cases e : H l with
  | none => rfl
  | some o =>
    by_cases hl : l = m
    · subst hl
      obtain ⟨x, y, z, e2⟩ := k.d1
      rw [h] at e2
      cases e2
    · by_cases hc : l = c
      · subst hc
        obtain ⟨ys, e2⟩ := k.c1
        rw [h] at e2
        cases e2
      · rw [k.keep l o hl hc e] at h
        cases h
theorem Kc.new (k : Kc m c H H1) {p : Addr} {o : HO} (h : H p = none) : Kc m c H (upd H1 p o) := by
  have hm : m ≠ p := by
    obtain ⟨x, y, z, e⟩ := k.d0
    exact ne_of_none e h
  have hc : c ≠ p := by
    obtain ⟨ys, e⟩ := k.c0
    exact ne_of_none e h
  refine ⟨fun b u n1 n2 q => ?_, k.d0, ?_, k.c0, ?_⟩
  · rw [upd_ne (ne_of_none q h)]
    exact k.keep b u n1 n2 q
  · obtain ⟨x, y, z, e⟩ := k.d1
    exact ⟨x, y, z, by rw [upd_ne hm]; exact e⟩
  · obtain ⟨ys, e⟩ := k.c1
    exact ⟨ys, by rw [upd_ne hc]; exact e⟩
theorem Kc.set (k : Kc m c H H1) {xs : List V} : Kc m c H (upd H1 c (.lst xs)) := by
  refine ⟨fun b u n1 n2 q => by rw [upd_ne n2]; exact k.keep b u n1 n2 q, k.d0, ?_, k.c0, ⟨xs, upd_same⟩⟩
  obtain ⟨x, y, z, e⟩ := k.d1
  obtain ⟨ys, e2⟩ := k.c1
  exact ⟨x, y, z, by rw [upd_ne (ne_of e e2 (by intro h; cases h))]; exact e⟩
theorem Kc.trans (a : Kc m c H H1) (b : Kc m c H1 H2) : Kc m c H H2 := ⟨fun x o n1 n2 q => b.keep x o n1 n2 (a.keep x o n1 n2 q), a.d0, b.d1, a.c0, b.c1⟩
end
/-! ### forms as data -/
theorem fd_dp {K : PySem.W.Frag} {H : Hp} {f : Fd} {v : V} (h : FdV H f v) : ∃ d, Dp K H v d ∧ PyData.canLay0 d = true ∧ PyData.depth d ≤ 1 := by
  cases f with
  | w k z =>
    obtain rfl : v = .str (fdS k z) := h
    refine ⟨.str (fdS k z), .str _, ?_, ?_⟩
    · cases k <;> cases z <;> decide +kernel
    · simp [PyData.depth]
  | n x =>
    obtain ⟨a, rfl, ha⟩ := h
    refine ⟨.tuple [.str "n", .int x], .tup (SqT.of ha) (.cons (.str _) (.cons (.int x) .nil)), ?_, ?_⟩
    · simp only [PyData.canLay0, PyData.canLayAll0]
      decide +kernel
    · simp [PyData.depth, PyData.depthAll]
theorem all_dp {K : PySem.W.Frag} {H : Hp} {α : Type} {R : α → V → Prop} {n : Nat} (f : ∀ x v, R x v → ∃ d, Dp K H v d ∧ PyData.canLay0 d = true ∧ PyData.depth d ≤ n) : ∀ {xs : List α} {vs : List V}, Paired R xs vs →
    ∃ ds, DpAll K H vs ds ∧ PyData.canLayAll0 ds = true ∧ PyData.depthAll ds ≤ n ∧ ds.length = vs.length
  | _, _, .nil => ⟨[], .nil, by simp [PyData.canLayAll0], by simp [PyData.depthAll], rfl⟩
  | _, _, .cons h t => by
    obtain ⟨d, h1, h2, h3⟩ := f _ _ h
    obtain ⟨ds, g1, g2, g3, g4⟩ := all_dp f t
    refine ⟨d :: ds, .cons h1 g1, ?_, ?_, congrArg Nat.succ g4⟩
    · simp [PyData.canLayAll0, h2, g2]
    · simp only [PyData.depthAll]
      omega
theorem fm_dp {K : PySem.W.Frag} {H : Hp} {F : Fm} {v : V} (h : FmV H F v) : ∃ d, Dp K H v d ∧ PyData.canLay0 d = true ∧ PyData.depth d ≤ 3 := by
  obtain ⟨a, x, y, rfl, ha, ⟨b, rfl, hb⟩, e, fvs, rfl, he, hfs⟩ := h
  obtain ⟨ds, g1, g2, g3, g4⟩ := all_dp (K := K) (fun _ _ q => fd_dp q) hfs
  refine ⟨.tuple [.tuple (F.op.map PyData.int), .tuple ds], .tup (SqT.of ha) (.cons (.tup (SqT.of hb) (dp_ints _)) (.cons (.tup (SqT.of he) g1) .nil)), ?_, ?_⟩
  · simp only [PyData.canLay0, PyData.canLayAll0, can_ints, g2]
    rfl
  · simp only [PyData.depth, PyData.depthAll, depth_ints]
    omega
theorem fms_dp {K : PySem.W.Frag} {H : Hp} {fms : List Fm} {vs : List V} (h : Paired (FmV H) fms vs) : ∃ ds, DpAll K H vs ds ∧ SeqAt.shaped (.list ds) = true ∧ ds.length = vs.length := by
  obtain ⟨ds, g1, g2, g3, g4⟩ := all_dp (K := K) (fun _ _ q => fm_dp q) h
  refine ⟨ds, g1, ?_, g4⟩
  show (PyData.canLay0 _ && decide (PyData.depth _ ≤ 64)) = true
  rw [Bool.and_eq_true]
  refine ⟨?_, decide_eq_true ?_⟩
  · simp only [PyData.canLay0]
    exact g2
  · simp only [PyData.depth]
    omega
theorem eqv_nil (ds : List PyData) : PyData.eqv (.list ds) (.list []) = ds.isEmpty := by
  cases ds <;> simp [PyData.eqv, PyData.eqvAll]
/-- a row's forms -/
structure ShOk (n : Nat) (fms : List Fm) : Prop where
  one : 1 ≤ fms.length
  three : fms.length ≤ 3
  fm : ∀ F ∈ fms, OkFm F ∧ F.fs.length = n
  up : ∀ (i : Nat) F G, fms[i]? = some F → fms[i + 1]? = some G → F.len < G.len
section
variable {P : Program} {w : World} {K : PySem.W.Frag} {mg : Str → Option Value} {base : Heap}
def spShapes : Sp := fun vs H Q _ => ∃ (m c : Addr) (cs : List (List Int)) (ys : List V) (n : Nat), vs = [.ref m, .ref c, .int (n : Nat)] ∧ DrSt H m ∧ H c = some (.lst ys) ∧ Paired (IntsV H) cs ys ∧ 3 ≤ cs.length ∧ cs.length ≤ 100 ∧ n ≤ 4 ∧ (∀ x ∈ cs, OkC x) ∧
  ∀ v fms H', Kc m c H H' → FmsV H' fms v → ShOk n fms → fms.map Fm.op = cs.take fms.length → H' c = some (.lst (ys.drop fms.length)) → Q v H'
theorem sc62 : FnScope ["_law_m", "_law_codes_here", "_law_many", "_law_found", "_law_turn", "_law_shape", "_law_k"] ["_law_m", "_law_codes_here", "_law_many"] (defScope s62) := ⟨rfl, rfl, rfl, by decide +kernel, rfl, by decide +kernel, by decide +kernel⟩
structure SSt (m c : Addr) (H H' : Hp) (l : Addr) (cs : List (List Int)) (ys : List V) (n t : Nat) (fms : List Fm) (vs : List V) : Prop where
  kc : Kc m c H H'
  lst : H' l = some (.lst vs)
  pr : Paired (FmV H') fms vs
  codes : H' c = some (.lst (ys.drop fms.length))
  le : fms.length ≤ t
  one : 1 ≤ t → 1 ≤ fms.length
  fm : ∀ F ∈ fms, OkFm F ∧ F.fs.length = n
  up : ∀ (i : Nat) F G, fms[i]? = some F → fms[i + 1]? = some G → F.len < G.len
  ops : fms.map Fm.op = cs.take fms.length
/-- one more form -/
theorem SSt.add {m c l : Addr} {H H' H2 : Hp} {cs : List (List Int)} {ys : List V} {n t : Nat} {fms : List Fm} {vs : List V} {G : Fm} {op : List Int} {v : V} (S : SSt m c H H' l cs ys n t fms vs) (hl : H l = none) (k : Kp m H' H2) (hG : FmV H2 G v) (hop : cs[fms.length]? = some op) (eop : G.op = op) (hok : OkFm G) (hn : G.fs.length = n)
    (hup : ∀ F, fms[fms.length - 1]? = some F → 1 ≤ fms.length → F.len < G.len) : SSt m c H (upd (upd H2 c (.lst (ys.drop (fms.length + 1)))) l (.lst (vs ++ [v]))) l cs ys n (t + 1) (fms ++ [G]) (vs ++ [v]) := by
  have hcl : c ≠ l := by
    obtain ⟨zs, e⟩ := S.kc.c0
    exact ne_of_none e hl
  have hc2 := k.lst S.codes
  have hl2 := k.lst S.lst
  have t2 : TS H2 (upd (upd H2 c (.lst (ys.drop (fms.length + 1)))) l (.lst (vs ++ [v]))) := (TS.mut hc2).trans (TS.mut (xs := vs) (by rw [upd_ne hcl.symm]; exact hl2))
  refine ⟨((S.kc.kp k).set).new hl, upd_same, ?_, ?_, ?_, fun _ => by rw [List.length_append, List.length_singleton]; omega, ?_, ?_, ?_⟩
  · exact Paired.snoc (Paired.imp (fun _ _ z => z.ts (k.ts.trans t2)) S.pr) (hG.ts t2)
  · rw [upd_ne hcl, upd_same, List.length_append, List.length_singleton]
  · rw [List.length_append, List.length_singleton]
    have := S.le
    omega
  · intro F hF
    rcases List.mem_append.mp hF with hF | hF
    · exact S.fm F hF
    · rw [List.mem_singleton] at hF
      subst hF
      exact ⟨hok, hn⟩
  · intro i F G' h1 h2
    by_cases hi : i + 1 < fms.length
    · rw [List.getElem?_append_left (by omega)] at h1
      rw [List.getElem?_append_left hi] at h2
      exact S.up i F G' h1 h2
    · have hlt := (List.getElem?_eq_some_iff.mp h2).1
      rw [List.length_append, List.length_singleton] at hlt
      have e : i + 1 = fms.length := by omega
      rw [List.getElem?_append_left (by omega)] at h1
      rw [List.getElem?_append_right (by omega), e, Nat.sub_self] at h2
      have e2 : G = G' := by simpa using h2
      subst e2
      refine hup F ?_ (by omega)
      rw [← h1]
      congr 1
      omega
  · rw [List.map_append, S.ops, List.length_append, List.length_singleton, List.take_succ, hop, ← eop]
    rfl
end
end K51
set_option Elab.async false
set_option linter.all false
set_option maxRecDepth 100000
set_option maxHeartbeats 4000000
/-! _law_shapes: the walk -/
namespace K51
open PySem PySem.Spec PyProof.Rows L2
section
variable {P : Program} {w : World} {K : PySem.W.Frag} {mg : Str → Option Value} {base : Heap}
theorem okfm_of {op : List Int} {fds : List Fd} (ho : OkC op) (h4 : fds.length ≤ 4) (hf : ∀ f ∈ fds, okF f) : OkFm ⟨op, fds⟩ := ⟨ho.1, ho.2.1, ho.2.2, h4, hf⟩
theorem seq0 {n : Nat} (h : 0 < n) : seqIndex? (0 : Int) n = some 0 := by
  have e : (decide ((0 : Int) ≤ 0) && decide ((0 : Int) < (n : Int))) = true := by
    rw [Bool.and_eq_true]
    exact ⟨by decide, decide_eq_true (by omega)⟩
  show (if (decide ((0 : Int) ≤ 0) && decide ((0 : Int) < (n : Int))) = true then some (0 : Int).toNat else none) = some 0
  rw [if_pos e]
  rfl
theorem last_at {xs : List V} {v : V} (h : xs[xs.length - 1]? = some v) (h1 : 1 ≤ xs.length) : atI xs (-1) = some v := by
  have e : xs = xs.dropLast ++ [v] := by
    have hne : xs ≠ [] := by
      intro q
      subst q
      exact absurd h1 (by decide)
    have h2 := List.dropLast_concat_getLast hne
    have h3 : xs.getLast hne = v := by
      rw [List.getLast_eq_getElem]
      have := (List.getElem?_eq_some_iff.mp h)
      obtain ⟨_, q⟩ := this
      exact q
    rw [h3] at h2
    exact h2.symm
  rw [e]
  exact atI_last _ v
theorem ok_shapes (T : Tb mg) (D : Df K mg "_law_shapes" s62) (W : Pm P w K mg base "_law_draw" 1 ["_law_m", "_law_size"] spDraw) (G : Pm P w K mg base "_law_slot" 3 ["_law_m"] spSlot) (L : Pm P w K mg base "_law_long" 2 ["_law_shape"] spLen) :
    Pm P w K mg base "_law_shapes" 4 ["_law_m", "_law_codes_here", "_law_many"] spShapes := by
  refine Pm.of D sc62 (fun vs H Q E h => ?_) (fun _ _ _ _ _ _ us hl => match us, hl with | [_, _, _], _ => rfl) fun f cdv A outer s H vs Q E hr h => ?_
  · obtain ⟨m, c, cs, ys, n, rfl, _⟩ := h
    rfl
  · obtain ⟨m, c, cs, ys, n, rfl, hd, hc, hcs, h3, h100, hn4, hok, k⟩ := h
    refine ⟨_, (pss_cons (ps_set (i := 3) sc62.nd rfl (Or.inl rfl) (pe_lst pa_nil))
      (pss_cons (ps_for PassesOwn.never rfl (pi_range1 rfl T.range (pa_cons (pe_op op_add pe_int (pe_pm W (hr.mono (by decide)) (pa_cons (pv 0) (pa_cons pe_int pa_nil)))) pa_nil)) (pg_name (i := 4) sc62.nd rfl (Or.inl rfl)) (pss_cons (ps_set (i := 5) sc62.nd rfl (Or.inl rfl) (pe_tup (pa_cons (pe_ix ix_list (pv 1) pe_int (fun _ _ => rfl)) (pa_cons (pe_callTy call_tuple_of (by rfl) T.tuple bt_tuple (pa_cons (pe_lc (own := [("_law_k", 6)]) (g := gName 6) (tt := tYes) rfl sc62.nd (pi_range1 rfl T.range (pa_cons (pv 2) pa_nil)) (blkOk_by (N := ["_law_m", "_law_codes_here", "_law_many", "_law_found", "_law_turn", "_law_shape", "_law_k"]) (sc := defScope s62) (by decide +kernel)) (fun _ _ _ _ _ => pg_name (i := 6) sc62.nd rfl (Or.inl rfl)) (fun _ _ _ _ _ => pts_nil) (fun _ _ _ _ _ => (pe_pm G (hr.mono (by decide)) (pa_cons (pv 0) pa_nil)))) pa_nil)) pa_nil))))
      (pss_one (ps_if (PW.pt (pw_or (pt_cmpR (op_eqD hr.units) (pv 3) (pe_lst pa_nil) (nomark _)) (pw_or1 (pt_cmpR op_lt (pe_pm L (hr.mono (by decide)) (pa_cons (pe_ix ix_list (pv 3) (pe_un un_neg pe_int) (fun _ _ => rfl)) pa_nil)) (pe_pm L (hr.mono (by decide)) (pa_cons (pv 5) pa_nil)) (nomark _))))) (pss_cons (ps_expr (pe_bm PySem.F.plainAttrs_list PySem.F.slot_list_pop PySem.F.type_list_pop mt_popAt (pv 1) (pa_cons pe_int pa_nil)))
      (pss_one (ps_expr (pe_bm PySem.F.plainAttrs_list PySem.F.slot_list_append PySem.F.type_list_append mt_append (pv 3) (pa_cons (pv 5) pa_nil))))) pss_nil))))
      (pss_one (ps_ret (pe_callTy call_tuple_of (by rfl) T.tuple bt_tuple (pa_cons (pv 3) pa_nil)))))), ?_⟩
    refine ⟨le0, fun l hl => ?_⟩
    have hcl : c ≠ l := ne_of_none hc hl
    have k0 : Kc m c H (upd H l (.lst [])) := (Kc.refl hd ⟨_, hc⟩).new hl
    refine ⟨_, rfl, m, 3, rfl, k0.d1, by decide, by decide, fun r H1 r0 r1 k1 => ⟨_, _, rfl, rfl, _, rfl, ?_, ?_, ?_⟩⟩
    · omega
    · omega
    refine for_range (lo := 0) (n := (1 + r).toNat) (fun t σ' H' => ∃ fms vs t4 t5, σ' = [some (.ref m), some (.ref c), some (.int (n : Nat)), some (.ref l), t4, t5, none] ∧ SSt m c H H' l cs ys n t fms vs)
      ⟨[], [], none, none, rfl, k0.kp k1, k1.lst upd_same, .nil, ?_, Nat.le_refl _, fun h => absurd h (by decide), fun F hF => by simp at hF, fun i F G h => by simp at h, rfl⟩ ?_ ?_
    · have : (upd H l (.lst [])) c = some (.lst ys) := by rw [upd_ne hcl]; exact hc
      exact k1.lst this
    · rintro t σ' H' ht ⟨fms, vs, t4, t5, rfl, S⟩
      have hle := S.le
      have hfl : fms.length < cs.length := by omega
      have hyl : ys.length = cs.length := hcs.length.symm
      obtain ⟨op, hop⟩ : ∃ op, cs[fms.length]? = some op := ⟨cs[fms.length], List.getElem?_eq_getElem hfl⟩
      obtain ⟨yv, hyv, hyi⟩ := Paired.ta hcs hop
      have hoc := hok op (List.mem_of_getElem? hop)
      have hy0 : (ys.drop fms.length)[0]? = some yv := by rw [List.getElem?_drop]; exact hyv
      refine ⟨_, rfl, c, _, _, yv, rfl, rfl, SqL.of S.codes, atI_nat (j := 0) hy0, _, rfl, (n : Nat), rfl, ?_, ?_, fun d hd0 => ?_⟩
      · omega
      · omega
      -- the slots
      refine lc_range (lo := 0) (n := n) (fun i H'' => Kp m H' H'' ∧ ∃ fds zs, H'' d = some (.lst zs) ∧ Paired (FdV H'') fds zs ∧ fds.length = i ∧ ∀ f ∈ fds, okF f)
        ⟨(Kp.refl S.kc.d1).new hd0, [], [], upd_same, .nil, rfl, fun f hf => by simp at hf⟩ ?_ ?_
      · rintro i H2 hi ⟨k2, fds, zs, hz, hpz, hfi, hfo⟩
        refine ⟨rfl, ?_⟩
        refine iteT (B := Kp m H' H2 ∧ ∃ fds zs, H2 d = some (.lst zs) ∧ Paired (FdV H2) fds zs ∧ fds.length = i + 1 ∧ ∀ f ∈ fds, okF f) ?_
        refine ⟨_, rfl, m, rfl, k2.d1, fun fd fv H3 k3 hfv hfo3 => ⟨zs, k3.lst hz, ?_, (k2.trans k3).new hd0, fds ++ [fd], zs ++ [fv], upd_same, ?_, ?_, ?_⟩⟩
        · have := hpz.length
          exact lt1000 (by omega)
        · have tm := TS.mut (o := .lst (zs ++ [fv])) (k3.lst hz)
          exact Paired.snoc (Paired.imp (fun _ _ q => q.ts (k3.ts.trans tm)) hpz) (hfv.ts tm)
        · rw [List.length_append, hfi]
          rfl
        · intro f hf
          rcases List.mem_append.mp hf with hf | hf
          · exact hfo f hf
          · rw [List.mem_singleton] at hf
            subst hf
            exact hfo3
      · rintro H2 ⟨k2, fds, zs, hz, hpz, hfi, hfo⟩
        refine ⟨d, _, rfl, .inl ⟨SqL.of hz, fun p hp => ⟨le2, fun q hq => ?_⟩⟩⟩
        have k3 := (Kp.refl k2.d1).new (o := .tup zs) hp
        have k4 := (Kp.refl k3.d1).new (o := .tup [yv, .ref p]) hq
        have k24 := (k2.trans k3).trans k4
        have hG : FmV (upd (upd H2 p (.tup zs)) q (.tup [yv, .ref p])) ⟨op, fds⟩ (.ref q) :=
          ⟨q, yv, .ref p, rfl, upd_same, hyi.ts (S.kc.ts.trans k24.ts), p, zs, rfl, k4.ts _ _ upd_same, Paired.imp (fun _ _ z => z.ts (k3.ts.trans k4.ts)) hpz⟩
        have hGo : OkFm ⟨op, fds⟩ := okfm_of hoc (by omega) hfo
        have ys1 : (ys.drop fms.length).eraseIdx 0 = ys.drop (fms.length + 1) := by
          rw [List.eraseIdx_zero, List.tail_drop]
        -- how it goes on from a heap H5 where the form stands
        have go : ∀ H5, Kp m H' H5 → FmV H5 ⟨op, fds⟩ (.ref q) → (∀ F, fms[fms.length - 1]? = some F → 1 ≤ fms.length → F.len < (⟨op, fds⟩ : Fm).len) → ∃ fms' vs', SSt m c H (upd (upd H5 c (.lst (ys.drop (fms.length + 1)))) l (.lst (vs ++ [.ref q]))) l cs ys n (t + 1) fms' vs' := fun H5 k5 hG5 hup =>
          ⟨_, _, S.add hl k5 hG5 hop rfl hGo hfi hup⟩
        have hlz : ∀ H5, Kp m H' H5 → (upd H5 c (.lst (ys.drop (fms.length + 1)))) l = some (.lst vs) := fun H5 k5 => by
          rw [upd_ne hcl.symm]
          exact k5.lst S.lst
        have hvl : vs.length < sizeLine := by
          have := S.pr.length
          exact lt1000 (by omega)
        have hpop : seqIndex? (0 : Int) (ys.drop fms.length).length = some 0 := by
          exact seq0 (by rw [List.length_drop]; omega)
        -- found == []
        refine ⟨_, rfl, le0, fun e he => ?_⟩
        have k5 := (Kp.refl k4.d1).new (o := .lst []) he
        have k25 := k24.trans k5
        obtain ⟨ds, g1, g2, g3⟩ := fms_dp (K := K) (Paired.imp (fun _ _ z => z.ts k25.ts) S.pr)
        refine ⟨_, _, .lst (SqL.of (k25.lst S.lst)) g1, .lst (ds := []) (SqL.of upd_same) .nil, g2, shaped_lints [], _, rfl, ?_⟩
        rw [eqv_nil]
        have hpr := S.pr.length
        cases hfms : fms with
        | nil =>
          rw [hfms] at hpr
          have hv0 : vs = [] := List.length_eq_zero_iff.mp hpr.symm
          have hd1 : ds = [] := List.length_eq_zero_iff.mp (by rw [g3, hv0]; rfl)
          refine ifT (by rw [hd1]; rfl) (iteT ?_)
          have hc5 := k25.lst S.codes
          refine ⟨_, rfl, .inl ⟨rfl, _, SqL.of hc5⟩, c, _, 0, 0, yv, rfl, rfl, hc5, by decide, by decide, hpop, hy0, _, rfl, .inl ⟨rfl, vs, ?_⟩, _, rfl, l, vs, _, rfl, rfl, ?_, hvl, ?_⟩
          · rw [ys1]
            exact SqL.of (hlz _ k25)
          · rw [ys1]
            exact hlz _ k25
          · rw [ys1]
            obtain ⟨fms', vs', S'⟩ := go _ k25 (hG.ts k5.ts) (fun F hF h1 => by rw [hfms] at h1; exact absurd h1 (by decide))
            exact ⟨fms', vs', _, _, rfl, S'⟩
        | cons F0 Fr =>
          have h1 : 1 ≤ fms.length := by rw [hfms]; exact Nat.succ_le_succ (Nat.zero_le _)
          have hdl : ds ≠ [] := fun q => by
            rw [q] at g3
            have : vs.length = 0 := g3.symm
            omega
          refine ifF (by cases ds with | nil => exact absurd rfl hdl | cons _ _ => rfl) ?_
          obtain ⟨FL, hFL⟩ : ∃ F, fms[fms.length - 1]? = some F := ⟨fms[fms.length - 1], List.getElem?_eq_getElem (by omega)⟩
          obtain ⟨lv, hlv, hlF⟩ := Paired.ta S.pr hFL
          obtain ⟨oL, _⟩ := S.fm FL (List.mem_of_getElem? hFL)
          have hlv2 : vs[vs.length - 1]? = some lv := by rw [← hpr]; exact hlv
          refine ⟨_, rfl, _, rfl, l, _, _, lv, rfl, rfl, SqL.of (k25.lst S.lst), last_at hlv2 (by omega), FL, lv, rfl, hlF.ts k25.ts, oL, fun H6 s6 => ?_⟩
          have k6 := Kp.of k25.d1 s6
          have k26 := k25.trans k6
          refine ⟨_, rfl, ⟨op, fds⟩, _, rfl, hG.ts (k5.ts.trans k6.ts), hGo, fun H7 s7 => ?_⟩
          have k7 := Kp.of k26.d1 s7
          have k27 := k26.trans k7
          refine ⟨_, _, rfl, rfl, _, rfl, ite2 (fun cc => ?_) fun cc => ?_⟩
          · have hup : ∀ F, fms[fms.length - 1]? = some F → 1 ≤ fms.length → F.len < (⟨op, fds⟩ : Fm).len := fun F hF _ => by
              rw [hFL] at hF
              have e := Option.some.inj hF
              subst e
              have := of_decide_eq_true cc
              omega
            have hc7 := k27.lst S.codes
            refine ⟨_, rfl, .inl ⟨rfl, _, SqL.of hc7⟩, c, _, 0, 0, yv, rfl, rfl, hc7, by decide, by decide, hpop, hy0, _, rfl, .inl ⟨rfl, vs, ?_⟩, _, rfl, l, vs, _, rfl, rfl, ?_, hvl, ?_⟩
            · rw [ys1]
              exact SqL.of (hlz _ k27)
            · rw [ys1]
              exact hlz _ k27
            · rw [ys1]
              obtain ⟨fms', vs', S'⟩ := go _ k27 (hG.ts ((k5.ts.trans k6.ts).trans k7.ts)) hup
              exact ⟨fms', vs', _, _, rfl, S'⟩
          · exact ⟨fms, vs, _, _, rfl, S.kc.kp k27, k27.lst S.lst, Paired.imp (fun _ _ z => z.ts k27.ts) S.pr, k27.lst S.codes, Nat.le_succ_of_le S.le, fun _ => h1, S.fm, S.up, S.ops⟩
    · rintro σ' H' ⟨fms, vs, t4, t5, rfl, S⟩
      refine ⟨_, rfl, l, _, rfl, .inl ⟨SqL.of S.lst, fun p hp => ?_⟩⟩
      have hp0 := S.kc.free hp
      have s1 := same_upd' (o := .tup vs) hp
      have hle := S.le
      refine k _ fms _ (S.kc.new hp0) ⟨p, vs, rfl, upd_same, Paired.imp (fun _ _ z => z.ts (TS.of s1)) S.pr⟩ ⟨S.one (by omega), by omega, S.fm, S.up⟩ S.ops (s1 _ _ S.codes)
end
end K51
set_option Elab.async false
set_option linter.all false
set_option maxRecDepth 100000
set_option maxHeartbeats 4000000
/-! _law_plan: a table -/
namespace K51
open PySem PySem.Spec PyProof.Rows L2
abbrev s63 : Stmt := top 63
/-! ### 'a' * 39 -/
def a39 : Str := ⟨(List.replicate (39 : Int).toNat ("a" : Str).cps).foldl (· ++ ·) #[]⟩
theorem op_repS {X : Cx} : OpR X (binaryOp .Mult) (fun x y H Q => x = .str "a" ∧ y = .int 39 ∧ Q (.str a39) H) := by
  intro pins s σ H x y v u Q I rx ry h
  obtain ⟨rfl, rfl, q⟩ := h
  obtain ⟨t, rfl⟩ := rx
  obtain ⟨t', rfl⟩ := ry
  refine PySem.P.mul_str (by decide +kernel) (fun _ _ => by decide +kernel) (fun _ _ => by decide +kernel) ?_
  rw [if_neg (by decide), if_neg (by decide +kernel)]
  exact ⟨by decide +kernel, .str a39, H, I.tok _, ⟨_, rfl⟩, q⟩
def titles : List Str := ["go", "jump", "x1", "Load_2", ("_" : Str) ++ a39]
def nameB (z : Str) : Bool := decide (z.length ≤ 40) && (z.cps.toList.all fun c => decide (c ∈ signs.cps.toList)) && (match z.cps.toList with | c :: _ => decide (c ∈ letters.cps.toList) | [] => false) && !inV (.str z) reserved
theorem nameB_ok {z : Str} (h : nameB z = true) : FreeName z := by
  unfold nameB at h
  simp only [Bool.and_eq_true] at h
  obtain ⟨⟨⟨h1, h2⟩, h3⟩, h4⟩ := h
  refine ⟨⟨of_decide_eq_true h1, fun c hc => of_decide_eq_true (List.all_eq_true.mp h2 c hc), ?_⟩, by simpa using h4⟩
  cases e : z.cps.toList with
  | nil => rw [e] at h3; cases h3
  | cons c r =>
    rw [e] at h3
    exact ⟨c, rfl, of_decide_eq_true h3⟩
theorem titles_ok : ∀ z ∈ titles, FreeName z := fun z hz => nameB_ok ((by decide +kernel : ∀ z ∈ titles, nameB z = true) z hz)
theorem titles_nd : titles.Nodup := by decide +kernel
theorem titles_can : ∀ z ∈ titles, PyData.canLay0 (.str z) = true := by
  have h : ∀ z ∈ titles, (z.cps.all (· < 0x110000)) = true := by decide +kernel
  intro z hz
  simp only [PyData.canLay0]
  exact h z hz
theorem dat_titles {H : Hp} : ∀ {ts : List Str}, (∀ z ∈ ts, PyData.canLay0 (.str z) = true) → Paired (Dat H) (ts.map V.str) (ts.map PyData.str)
  | [], _ => .nil
  | t :: ts, h => .cons (.str t (h t (List.mem_cons_self ..))) (dat_titles fun z hz => h z (List.mem_cons_of_mem _ hz))
theorem paired_map {α β : Type} (f : α → β) : ∀ xs : List α, Paired (fun x y => y = f x) xs (xs.map f)
  | [] => .nil
  | _ :: xs => .cons rfl (paired_map f xs)
theorem paired_drop {α β : Type} {R : α → β → Prop} : ∀ {xs : List α} {ys : List β} (n : Nat), Paired R xs ys → Paired R (xs.drop n) (ys.drop n)
  | _, _, 0, h => h
  | _, _, n + 1, .nil => .nil
  | _, _, n + 1, .cons _ t => paired_drop n t
theorem map_of_paired {α β : Type} {f : α → β} : ∀ {xs : List α} {ys : List β}, Paired (fun x y => y = f x) xs ys → ys = xs.map f
  | _, _, .nil => rfl
  | _, _, .cons h t => by rw [h, map_of_paired t]; rfl
/-! ### a table -/
structure TabOk (rows : List Row) : Prop where
  one : 1 ≤ rows.length
  three : rows.length ≤ 3
  nd : (rows.map (·.1)).Nodup
  free : ∀ r ∈ rows, FreeName r.1
  sh : ∀ r ∈ rows, ∃ n, n ≤ 4 ∧ ShOk n r.2
  pf : PFree (rows.flatMap fun r => r.2.map Fm.op)
section
variable {P : Program} {w : World} {K : PySem.W.Frag} {mg : Str → Option Value} {base : Heap}
def spPlan : Sp := fun vs H Q _ => ∃ m : Addr, vs = [.ref m] ∧ DrSt H m ∧ ∀ v rows H', Kp m H H' → RowsV H' rows v → TabOk rows → Q v H'
theorem sc63 : FnScope ["_law_m", "_law_codes_here", "_law_found", "_law_title"] ["_law_m"] (defScope s63) := ⟨rfl, rfl, rfl, by decide +kernel, rfl, by decide +kernel, by decide +kernel⟩
/-- how many forms the rows have -/
def used (rows : List Row) : Nat := (rows.map fun r => r.2.length).sum
theorem used_snoc (rows : List Row) (r : Row) : used (rows ++ [r]) = used rows + r.2.length := by
  unfold used
  simp
structure PSt (m c l g : Addr) (H0 H H' : Hp) (cs : List (List Int)) (ys : List V) (ts : List Str) (i : Nat) (rows : List Row) (vs : List V) : Prop where
  kc : Kc m c H H'
  lst : H' l = some (.lst vs)
  ti : H' g = some (.lst (ts.map V.str))
  pr : Paired (RowV H') rows vs
  codes : H' c = some (.lst (ys.drop (used rows)))
  len : rows.length = i
  us : used rows ≤ 3 * i
  names : rows.map (·.1) = ts.take i
  sh : ∀ r ∈ rows, ∃ n, n ≤ 4 ∧ ShOk n r.2
  ops : (rows.flatMap fun r => r.2.map Fm.op) = cs.take (used rows)
theorem ok_plan (T : Tb mg) (D : Df K mg "_law_plan" s63) (C : Pm P w K mg base "_law_codes" 3 ["_law_m"] spCodes) (W : Pm P w K mg base "_law_draw" 1 ["_law_m", "_law_size"] spDraw) (M : Pm P w K mg base "_law_mixed" 2 ["_law_m", "_law_items"] spMixed)
    (S : Pm P w K mg base "_law_shapes" 4 ["_law_m", "_law_codes_here", "_law_many"] spShapes) : Pm P w K mg base "_law_plan" 5 ["_law_m"] spPlan := by
  refine Pm.of D sc63 (fun vs H Q E h => ?_) (fun _ _ _ _ _ _ us hl => match us, hl with | [_], _ => rfl) fun f cdv A outer s H vs Q E hr h => ?_
  · obtain ⟨m, rfl, _⟩ := h
    rfl
  · obtain ⟨m, rfl, hd, k⟩ := h
    refine ⟨_, (pss_cons (ps_par (i := 1) (j := 2) (by rfl) sc63.nd rfl rfl (by decide) rfl rfl (pa_cons (pe_pm C (hr.mono (by decide)) (pa_cons (pv 0) pa_nil)) (pa_cons (pe_lst pa_nil) pa_nil)) (by rfl))
      (pss_cons (ps_for PassesOwn.never rfl (pi_list (pe_slice sl_list (pe_pm M (hr.mono (by decide)) (pa_cons (pv 0) (pa_cons (pe_lst (pa_cons pe_str (pa_cons pe_str (pa_cons pe_str (pa_cons pe_str (pa_cons (pe_op op_add_str pe_str (pe_op op_repS pe_str pe_int)) pa_nil)))))) pa_nil))) po_none (po_some (pe_op op_add pe_int (pe_pm W (hr.mono (by decide)) (pa_cons (pv 0) (pa_cons pe_int pa_nil))))))) (pg_name (i := 3) sc63.nd rfl (Or.inl rfl)) (pss_one (ps_expr (pe_bm PySem.F.plainAttrs_list PySem.F.slot_list_append PySem.F.type_list_append mt_append (pv 2) (pa_cons (pe_tup (pa_cons (pv 3) (pa_cons (pe_pm S (hr.mono (by decide)) (pa_cons (pv 0) (pa_cons (pv 1) (pa_cons (pe_pm W (hr.mono (by decide)) (pa_cons (pv 0) (pa_cons pe_int pa_nil))) pa_nil)))) pa_nil))) pa_nil)))))
      (pss_one (ps_ret (pe_callTy call_tuple_of (by rfl) T.tuple bt_tuple (pa_cons (pv 2) pa_nil)))))), ?_⟩
    refine ⟨_, rfl, m, rfl, hd, fun c cs ys H1 k1 hc0 hc hcs CO h100 => ⟨le0, fun l hl => ⟨_, _, rfl, ?_⟩⟩⟩
    have k2 := (Kp.refl k1.d1).new (o := .lst []) hl
    have k12 := k1.trans k2
    refine ⟨_, rfl, rfl, rfl, _, _, rfl, rfl, by decide +kernel, by decide +kernel, fun t ht => ?_⟩
    have k3 := (Kp.refl k2.d1).new (o := .lst (titles.map V.str)) ht
    have k13 := k12.trans k3
    refine ⟨m, t, titles.map V.str, titles.map PyData.str, rfl, k3.d1, upd_same, dat_titles titles_can, by decide, fun q ys' H2 pm k4 hq h2 => ?_⟩
    obtain ⟨ts, pts, hts⟩ := paired_perm pm (paired_map V.str titles)
    obtain rfl := map_of_paired hts
    have k14 := k13.trans k4
    refine ⟨_, rfl, m, 3, rfl, k4.d1, by decide, by decide, fun r H3 r0 r1 k5 => ⟨_, _, rfl, rfl, _, rfl, ?_⟩⟩
    refine ⟨q, _, rfl, SqL.of (k5.lst h2), fun g hg => ⟨g, rfl, ⟨_, SqL.of upd_same⟩, ?_⟩⟩
    obtain ⟨nr, rfl⟩ : ∃ n : Nat, r = (n : Nat) := ⟨r.toNat, by omega⟩
    have hcut : cutV (ts.map V.str) none (some (1 + (nr : Nat))) = (ts.take (1 + nr)).map V.str := by
      have e : (1 + ((nr : Nat) : Int)) = ((1 + nr : Nat) : Int) := by omega
      unfold cutV
      rw [HT.sIx_none, e, HT.sIx_nat, List.drop_zero, Nat.sub_zero, ← List.map_take]
      congr 1
      have hl5 : ts.length = 5 := pts.length_eq
      rw [List.length_map, Nat.min_eq_left (by omega)]
    have hl5 : ts.length = 5 := pts.length_eq
    show ∃ W : Nat → Nat → L2.St → Hp → Prop, _
    rw [hcut]
    have k6 := (Kp.refl k5.d1).new (o := .lst ((ts.take (1 + nr)).map V.str)) hg
    have k26 := ((k3.trans k4).trans k5).trans k6
    have kH1 := (k2.trans k26)
    have hcx : H1 l = none := hl
    have c16 := (k26.lst (k2.lst hc))
    refine for_list (K := K) (a := g) (xs := (ts.take (1 + nr)).map V.str) (fun i σ' H' => ∃ rows vs t3, σ' = [some (.ref m), some (.ref c), some (.ref l), t3] ∧ PSt m c l g H H1 H' cs ys (ts.take (1 + nr)) i rows vs)
      ⟨[], [], none, rfl, (Kc.refl k1.d1 ⟨_, hc⟩).kp kH1, k26.lst upd_same, upd_same, .nil, c16, rfl, Nat.le_refl _, rfl, fun r hr => by simp at hr, rfl⟩ (fun i σ' H' _ ⟨_, _, _, _, S⟩ => SqL.of S.ti) ?_ ?_
    · rintro i x σ' H' hi ⟨rows, vs, t3, rfl, Z⟩
      rw [List.getElem?_map] at hi
      obtain ⟨z, hz, rfl⟩ := Option.map_eq_some_iff.mp hi
      have hi3 : i < 3 := by
        have := (List.getElem?_eq_some_iff.mp hz).1
        rw [List.length_take] at this
        omega
      have hu := Z.us
      have hyl : ys.length = cs.length := hcs.length.symm
      have hcm := CO.many
      have hpair : Paired (IntsV H') (cs.drop (used rows)) (ys.drop (used rows)) := paired_drop _ (Paired.imp (fun _ _ q => q.ts Z.kc.ts) hcs)
      refine ⟨_, rfl, .inl ⟨rfl, _, SqL.of Z.lst⟩, _, rfl, _, rfl, _, rfl, _, rfl, m, 4, rfl, Z.kc.d1, by decide, by decide, fun n H4 n0 n1 k7 => ?_⟩
      obtain ⟨nn, rfl⟩ : ∃ k : Nat, n = (k : Nat) := ⟨n.toNat, by omega⟩
      refine ⟨m, c, cs.drop (used rows), ys.drop (used rows), nn, rfl, k7.d1, k7.lst Z.codes, Paired.imp (fun _ _ q => q.ts k7.ts) hpair, ?_, ?_, by omega, fun x hx => CO.ok x (List.mem_of_mem_drop hx), fun v fms H5 k8 hv hsh hops hc8 => ⟨le2, fun p hp => ?_⟩⟩
      · rw [List.length_drop]
        omega
      · rw [List.length_drop]
        omega
      have kc5 : Kc m c H1 H5 := (Z.kc.kp k7).trans k8
      have nlm : l ≠ m := by
        obtain ⟨x, y, zz, e⟩ := k7.d1
        exact ne_of (k7.lst Z.lst) e (by intro h; cases h)
      have nlc : l ≠ c := fun e => by
        rw [e] at hl
        rw [hc] at hl
        cases hl
      have hl5' : H5 l = some (.lst vs) := k8.keep l _ nlm nlc (k7.lst Z.lst)
      have ngm : g ≠ m := by
        obtain ⟨x, y, zz, e⟩ := k7.d1
        exact ne_of (k7.lst Z.ti) e (by intro h; cases h)
      have hg1 : H1 g = none := (((k2.trans k3).trans k4).trans k5).free hg
      have ngc : g ≠ c := fun e => by
        rw [e] at hg1
        rw [hc] at hg1
        cases hg1
      have nlg : l ≠ g := fun e => by
        have h0 : (upd H1 l (.lst [])) l = some (.lst []) := upd_same
        have h1 := ((k3.trans k4).trans k5).lst h0
        rw [e, hg] at h1
        cases h1
      have hg5 : H5 g = some (.lst ((ts.take (1 + nr)).map V.str)) := k8.keep g _ ngm ngc (k7.lst Z.ti)
      have hlp : l ≠ p := ne_of_none hl5' hp
      have kp5 : Kc m c H1 (upd H5 p (.tup [V.str z, v])) := kc5.new (kc5.free hp)
      have s5 : Same H5 (upd H5 p (.tup [V.str z, v])) := same_upd' hp
      have t5 := TS.of s5
      have hlp5 := s5 _ _ hl5'
      have vl : vs.length < sizeLine := by
        have := Z.pr.length
        have := Z.len
        exact lt1000 (by omega)
      refine ⟨l, vs, _, rfl, rfl, hlp5, vl, rows ++ [(z, fms)], vs ++ [.ref p], _, rfl, ?_⟩
      have tm := TS.mut (o := .lst (vs ++ [.ref p])) hlp5
      have tall : TS H' (upd (upd H5 p (.tup [V.str z, v])) l (.lst (vs ++ [.ref p]))) := ((k7.ts.trans k8.ts).trans t5).trans tm
      refine ⟨kp5.new hl, upd_same, ?_, ?_, ?_, ?_, ?_, ?_, ?_, ?_⟩
      · rw [upd_ne nlg.symm]
        exact s5 _ _ hg5
      · exact Paired.snoc (Paired.imp (fun _ _ q => q.ts tall) Z.pr) ⟨p, v, rfl, tm _ _ upd_same, hv.ts (t5.trans tm)⟩
      · rw [upd_ne nlc.symm, used_snoc]
        have := s5 _ _ hc8
        rw [List.drop_drop] at this
        exact this
      · rw [List.length_append, Z.len]
        rfl
      · rw [used_snoc]
        have := hsh.three
        show used rows + fms.length ≤ _
        omega
      · rw [List.map_append, Z.names, List.take_succ, hz]
        rfl
      · intro r hr
        rcases List.mem_append.mp hr with hr | hr
        · exact Z.sh r hr
        · rw [List.mem_singleton] at hr
          subst hr
          exact ⟨nn, by omega, hsh⟩
      · rw [List.flatMap_append, Z.ops, used_snoc]
        have e1 : ([(z, fms)] : List Row).flatMap (fun r => r.2.map Fm.op) = fms.map Fm.op := by simp
        rw [e1, hops]
        exact (List.take_add).symm
    · rintro σ' H' ⟨rows, vs, t3, rfl, Z⟩
      have hlt : ((ts.take (1 + nr)).map V.str).length = 1 + nr := by
        rw [List.length_map, List.length_take]
        omega
      rw [hlt] at Z
      have hp0 : ∀ p, H' p = none → H1 p = none := fun p hp => Z.kc.free hp
      refine ⟨_, rfl, l, _, rfl, .inl ⟨SqL.of Z.lst, fun p hp => ?_⟩⟩
      have s1 := same_upd' (o := .tup vs) hp
      have hKp : Kp m H (upd H' p (.tup vs)) := by
        refine ⟨fun b o hb hbo => ?_, hd, (Z.kc.new (o := .tup vs) (hp0 p hp)).d1⟩
        have h1b := k1.keep b o hb hbo
        exact s1 _ _ (Z.kc.keep b o hb (fun e => by rw [e, hc0] at hbo; cases hbo) h1b)
      refine k _ rows _ hKp ⟨p, vs, rfl, upd_same, Paired.imp (fun _ _ q => q.ts (TS.of s1)) Z.pr⟩ ⟨?_, ?_, ?_, ?_, Z.sh, ?_⟩
      · rw [Z.len]
        omega
      · rw [Z.len]
        omega
      · rw [Z.names]
        have : ts.Nodup := pts.nodup_iff.mpr titles_nd
        exact ((List.take_sublist _ _).trans (List.take_sublist _ _)).nodup this
      · intro r hr
        have hm : r.1 ∈ rows.map (·.1) := List.mem_map_of_mem hr
        rw [Z.names] at hm
        exact titles_ok r.1 (pts.mem_iff.mp (List.mem_of_mem_take (List.mem_of_mem_take hm)))
      · rw [Z.ops]
        exact List.Pairwise.sublist (List.take_sublist _ _) CO.free
end
end K51
set_option Elab.async false
set_option linter.all false
set_option maxRecDepth 100000
set_option maxHeartbeats 4000000
/-! need_forms, need_rows -/
namespace K51
open PySem PySem.Spec PyProof.Rows L2
abbrev s45 : Stmt := top 45
abbrev s46 : Stmt := top 46
section
variable {K : PySem.W.Frag} {a D : Addr} {xs ys : List V} {te : TE} {vs : List Nat} {j : Nat} {σ : L2.St} {H1 : Hp} {Qd : Hp → Prop}
theorem lc_pureL (hD : H1 D = none) (hw : ∀ x, wipe ((wipe σ vs).set j (some x)) vs = wipe σ vs) (hl : ys.length = xs.length) (hz : xs.length < sizeLine) (ht : SqL K H1 a xs)
    (hs : ∀ (i : Nat) (x y : V) (H : Hp) (Q : VK), xs[i]? = some x → ys[i]? = some y → Same H1 H → (∀ H4, Same H H4 → Q y H4) → te ((wipe σ vs).set j (some x)) H Q)
    (hd : ∀ H, Same H1 H → H D = some (.lst ys) → Qd H) :
    ∃ W : Nat → Nat → Hp → Prop, (∃ m, W 0 m (upd H1 D (.lst []))) ∧ ∀ i m H, W i m H →
      ((Itl K a).stop i H ∧ Qd H) ∨ ((Itl K a).go i H ∧ ∃ Nx : Hp → Prop, (∀ H', Nx H' → ∃ m', m' < m ∧ W (i + 1) m' H') ∧ ∀ x H', (Itl K a).yld i H x H' → gName j x (wipe σ vs) H' fun σ2 H2 => wipe σ2 vs = wipe σ vs ∧ tYes σ2 H2 fun b H3 =>
        if b = true then te σ2 H3 fun y H4 => ∃ acc, H4 D = some (.lst acc) ∧ acc.length < sizeLine ∧ Nx (upd H4 D (.lst (acc ++ [y]))) else Nx H3) := by
  have sD : ∀ {H : Hp} {o : HO}, Same H1 H → Same H1 (upd H D o) := fun {H o} e b u q => by
    rw [upd_ne (ne_of_none q hD)]
    exact e b u q
  refine lc_list (K := K) (a := a) (xs := xs) (fun i H => Same H1 H ∧ H D = some (.lst (ys.take i))) ⟨sD (Same.refl H1), upd_same⟩ (fun i H _ p => p.1.seq ht) (fun i x H hx p => ?_) fun H p => ?_
  · obtain ⟨hi, _⟩ := List.getElem?_eq_some_iff.mp hx
    have hy : ys[i]? = some (ys[i]'(by omega)) := List.getElem?_eq_getElem (by omega)
    refine ⟨hw x, ?_⟩
    refine iteT (B := Same H1 H ∧ H D = some (.lst (ys.take (i + 1)))) ?_
    refine hs i x _ H _ hx hy p.1 fun H4 e4 => ⟨ys.take i, e4 _ _ p.2, ?_, sD (p.1.trans e4), ?_⟩
    · rw [List.length_take]
      omega
    · rw [upd_same, List.take_succ, hy]
      rfl
  · refine hd H p.1 ?_
    rw [← hl, List.take_length] at p
    exact p.2
end
section
variable {P : Program} {w : World} {K : PySem.W.Frag} {mg : Str → Option Value} {base : Heap}
theorem any_false {α : Type} (xs : List α) : (xs.map fun _ => false).any id = false := by
  induction xs with
  | nil => rfl
  | cons x xs ih => simpa using ih
def spNeedForms : Sp := fun vs H Q _ => ∃ (row : Int) (fms : List Fm) (ops : List (List Int)) (n : Nat) (v : V) (a : Addr) (ys : List V), vs = [.int row, v, .ref a] ∧ FmsV H fms v ∧ ShOk n fms ∧ H a = some (.lst ys) ∧ Paired (IntsV H) ops ys ∧ ops.length ≤ 100 ∧
  PFree (ops ++ fms.map Fm.op) ∧ ∀ p ys' H', Same H H' → H' p = some (.lst ys') → Paired (IntsV H') (ops ++ fms.map Fm.op) ys' → Q (.ref p) H'
theorem sc45 : FnScope ["row", "forms", "ahead", "opcodes", "number", "form", "opcode"] ["row", "forms", "ahead"] (defScope s45) := ⟨rfl, rfl, rfl, by decide +kernel, rfl, by decide +kernel, by decide +kernel⟩
/-- behind the first test of a turn -/
theorem nf_tail {D : Ends} {row : Int} {vb va vi fv : V} {p : Addr} {ys : List V} {cs : List (List Int)} {G : Fm} {H4 : Hp} (hp : H4 p = some (.lst ys)) (hpr : Paired (IntsV H4) cs ys) (hG : FmV H4 G fv) (hcl : ∀ c ∈ cs, clash G.op c = false) (h200 : cs.length ≤ 200)
    (hnx : ∀ p' x H5, Same H4 H5 → H5 p' = some (.lst (ys ++ [x])) → IntsV H5 G.op x → D.nx [some (.int row), some vb, some va, some (.ref p'), some vi, some fv, none] H5) :
    tSeq (tIfS (tB (tCB (rAny K) (tCons (tLc (iList K (tVar 3)) (gName 6) tYes (tCall spClash [] E0 (tCons (tOp (rIxT K) (tVar 5) (tC (.int 0))) (tCons (tVar 6) tNil))) [6]) tNil))) tNever tNext)
      (tAsg (tOp rCat (tVar 3) (tLst (tCons (tOp (rIxT K) (tVar 5) (tC (.int 0))) tNil))) (gName 3)) D [some (.int row), some vb, some va, some (.ref p), some vi, some fv, none] H4 := by
  obtain ⟨a, x, y, rfl, ha, ⟨b, rfl, hb⟩, _⟩ := id hG
  have hl := hpr.length
  refine ⟨_, rfl, p, rfl, ⟨_, SqL.of hp⟩, fun l hl0 => ?_⟩
  refine lc_pureL (ys := (ys.map fun _ => false).map V.bl) hl0 (fun x => rfl) (by simp) (lt1000 (by omega)) (SqL.of hp) (fun i x y H1 Q1 hx hy s1 q => ?_) fun H5 s5 h5 => ?_
  · obtain ⟨c, hc, hcv⟩ := Paired.at hpr hx
    have hy' : y = V.bl false := by
      rw [List.getElem?_map, List.getElem?_map, hx] at hy
      exact (Option.some.inj hy).symm
    subst hy'
    exact ⟨_, rfl, a, _, _, _, rfl, rfl, SqT.of (s1 _ _ ha), atI_nat (j := 0) rfl, _, rfl, G.op, c, _, x, rfl, ⟨b, rfl, s1 _ _ hb⟩, hcv.ts (TS.of s1), hcl c (List.mem_of_getElem? hc), q⟩
  refine ⟨l, ys.map fun _ => false, rfl, SqL.of h5, _, rfl, ?_⟩
  rw [any_false]
  refine iteF ⟨_, rfl, _, rfl, a, _, _, _, rfl, rfl, SqT.of (s5 _ _ ha), atI_nat (j := 0) rfl, le1, fun q hq => ⟨p, q, ys, _, rfl, rfl, ?_, upd_same, ?_, fun r hr => ?_⟩⟩
  · rw [upd_ne (ne_of_none (s5 _ _ hp) hq)]
    exact s5 _ _ hp
  · show ys.length + 1 ≤ sizeLine
    exact lt1000 (by omega)
  · have s6 := (s5.trans (same_upd' (o := .lst [V.ref b]) hq)).trans (same_upd' (o := .lst (ys ++ [V.ref b])) hr)
    exact hnx r (.ref b) _ s6 upd_same ⟨b, rfl, s6 _ _ hb⟩
theorem ok_needForms (T : Tb mg) (D : Df K mg "need_forms" s45) (F : Pm P w K mg base "is_form" 4 ["value"] spForm) (C : Pm P w K mg base "can_follow" 3 ["before", "form"] spFollow) (X : Pm P w K mg base "do_clash" 1 ["one", "other"] spClash) :
    Pm P w K mg base "need_forms" 5 ["row", "forms", "ahead"] spNeedForms := by
  refine Pm.of D sc45 (fun vs H Q E h => ?_) (fun _ _ _ _ _ _ us hl => match us, hl with | [_, _, _], _ => rfl) fun f cdv A outer s H vs Q E hr h => ?_
  · obtain ⟨row, fms, ops, n, v, a, ys, rfl, _⟩ := h
    rfl
  · obtain ⟨row, fms, ops, n, v, a, ys, rfl, ⟨b, fvs, rfl, hb, hfs⟩, SO, ha, hops, h100, pf, k⟩ := h
    refine ⟨_, (pss_cons (ps_set (i := 3) sc45.nd rfl (Or.inl rfl) (pv 2))
      (pss_cons (ps_for PassesOwn.never rfl (pi_en (by rfl) T.enumerate (pa_cons (pv 1) pa_nil)) (pg_tup rfl (pgs_cons (pg_name (i := 4) sc45.nd rfl (Or.inl rfl)) (pgs_cons (pg_name (i := 5) sc45.nd rfl (Or.inr rfl)) pgs_nil))) (pss_cons (ps_if (PW.pt (pw_or (pt_not (pt_val (pe_pm F (hr.mono (by decide)) (pa_cons (pv 5) pa_nil)))) (pw_or1 (PW.pt (pw_and (pt_cmpR op_gt (pv 4) pe_int (nomark _)) (pw_and1 (pt_not (pt_val (pe_pm C (hr.mono (by decide)) (pa_cons (pe_ix ix_tup (pv 1) (pe_op op_sub (pv 4) pe_int) (fun _ _ => rfl)) (pa_cons (pv 5) pa_nil))))))))))) (pss_one ps_never) pss_nil)
      (pss_cons (ps_if (pt_val (pe_callB (cr_any rfl) (by rfl) T.any (by decide +kernel) (pa_cons (pe_lc (own := [("opcode", 6)]) (g := gName 6) (tt := tYes) rfl sc45.nd (pi_list (pv 3)) (blkOk_by (N := ["row", "forms", "ahead", "opcodes", "number", "form", "opcode"]) (sc := defScope s45) (by decide +kernel)) (fun _ _ _ _ _ => pg_name (i := 6) sc45.nd rfl (Or.inl rfl)) (fun _ _ _ _ _ => pts_nil) (fun _ _ _ _ _ => (pe_pm X (hr.mono (by decide)) (pa_cons (pe_ix (r := rIxT K) ix_tup (pv 5) pe_int (fun _ _ => rfl)) (pa_cons (pv 6) pa_nil))))) pa_nil))) (pss_one ps_never) pss_nil)
      (pss_one (ps_set (i := 3) sc45.nd rfl (Or.inl rfl) (pe_op op_cat (pv 3) (pe_lst (pa_cons (pe_ix ix_tup (pv 5) pe_int (fun _ _ => rfl)) pa_nil))))))))
      (pss_one (ps_ret (pv 3))))), ?_⟩
    have hlen := hfs.length
    have h3 := SO.three
    refine ⟨_, rfl, _, rfl, b, _, rfl, SqT.of hb, ?_⟩
    refine for_en (K := K) (a := b) (xs := fvs) (fun i σ' H' => ∃ p ys t4 t5, σ' = [some (.int row), some (.ref b), some (.ref a), some (.ref p), t4, t5, none] ∧ Same H H' ∧ H' p = some (.lst ys) ∧ Paired (IntsV H') (ops ++ (fms.take i).map Fm.op) ys)
      ⟨a, ys, none, none, rfl, Same.refl _, ha, by simpa using hops⟩ (fun i σ' H' ⟨_, _, _, _, _, s1, _⟩ => SqT.of (s1 _ _ hb)) ?_ ?_
    · rintro i fv t σ' H' hi ⟨p, ys, t4, t5, rfl, s1, hp, hpr⟩ ht
      obtain ⟨G, hG, hGv⟩ := Paired.at hfs hi
      obtain ⟨OG, nG⟩ := SO.fm G (List.mem_of_getElem? hG)
      have s2 := same_upd' (o := .tup [V.int (i : Nat), fv]) ht
      have s12 := s1.trans s2
      have hil := (List.getElem?_eq_some_iff.mp hi).1
      refine ⟨t, _, rfl, SqT.of upd_same, rfl, _, _, rfl, _, _, rfl, rfl, ?_⟩
      refine ⟨_, rfl, G, fv, rfl, hGv.ts (TS.of s12), OG, fun H3 s3 => ⟨_, rfl, iteF ?_⟩⟩
      have s13 := s12.trans s3
      -- what follows the first test, at any heap
      have hlen2 := hpr.length
      rw [List.length_append, List.length_map, List.length_take] at hlen2
      have hGop : fms.map Fm.op = (fms.take i).map Fm.op ++ G.op :: (fms.drop (i + 1)).map Fm.op := by
        rw [← List.map_cons, ← List.map_append]
        congr 1
        have := List.getElem?_eq_some_iff.mp hG
        obtain ⟨hi2, e⟩ := this
        rw [← e, List.getElem_cons_drop hi2]
        exact (List.take_append_drop i fms).symm
      have hcl : ∀ c ∈ ops ++ (fms.take i).map Fm.op, clash G.op c = false := fun c hc => by
        have h0 := pf
        rw [hGop, ← List.append_assoc] at h0
        have := (List.pairwise_append.mp h0).2.2 c hc G.op (List.mem_cons_self ..)
        rw [clash_symm]
        exact this
      have nxt : ∀ H4, Same H' H4 → ∀ p' x H5, Same H4 H5 → H5 p' = some (.lst (ys ++ [x])) → IntsV H5 G.op x → ∃ p ys, ∃ t4 t5 : Option V, [some (.int row), some (.ref b), some (.ref a), some (.ref p'), some (V.int (i : Nat)), some fv, none] = [some (.int row), some (.ref b), some (.ref a), some (.ref p), t4, t5, none] ∧ Same H H5 ∧ H5 p = some (.lst ys) ∧ Paired (IntsV H5) (ops ++ (fms.take (i + 1)).map Fm.op) ys := fun H4 s4 p' x H5 s5 h5 hx => by
        refine ⟨p', ys ++ [x], _, _, rfl, (s1.trans s4).trans s5, h5, ?_⟩
        rw [List.take_succ, hG, List.map_append, ← List.append_assoc]
        exact Paired.snoc (Paired.imp (fun _ _ q => q.ts (TS.of (s4.trans s5))) hpr) hx
      have l200 : (ops ++ (fms.take i).map Fm.op).length ≤ 200 := by
        rw [List.length_append, List.length_map, List.length_take]
        omega
      refine ⟨_, rfl, _, _, rfl, rfl, _, rfl, ite2 (fun c0 => ?_) fun c0 => ?_⟩
      · have hi0 : 0 < i := by
          have := of_decide_eq_true c0
          omega
        obtain ⟨B, hB⟩ : ∃ B, fms[i - 1]? = some B := ⟨fms[i - 1]'(by omega), List.getElem?_eq_getElem _⟩
        obtain ⟨bv, hbv, hBv⟩ := Paired.ta hfs hB
        obtain ⟨OB, nB⟩ := SO.fm B (List.mem_of_getElem? hB)
        have e1 : i - 1 + 1 = i := by omega
        have hup := SO.up (i - 1) B G hB (by rw [e1]; exact hG)
        refine ⟨_, rfl, _, rfl, _, _, rfl, rfl, b, _, _, bv, rfl, rfl, SqT.of (s13 _ _ hb), at_of (j := i - 1) (by omega) hbv, _, rfl, B, G, bv, fv, rfl, hBv.ts (TS.of s13), hGv.ts (TS.of s13), OB, OG, by rw [nB, nG], hup, fun H4 s4 => ⟨_, rfl, iteF ?_⟩⟩
        have s24 := (s2.trans s3).trans s4
        exact nf_tail (cs := ops ++ (fms.take i).map Fm.op) (s24 _ _ hp) (Paired.imp (fun _ _ q => q.ts (TS.of s24)) hpr) (hGv.ts (TS.of (s1.trans s24))) hcl l200 (nxt H4 s24)
      · refine iteF ?_
        have s24 := s2.trans s3
        exact nf_tail (cs := ops ++ (fms.take i).map Fm.op) (s24 _ _ hp) (Paired.imp (fun _ _ q => q.ts (TS.of s24)) hpr) (hGv.ts (TS.of (s1.trans s24))) hcl l200 (nxt H3 s24)
    · rintro σ' H' ⟨p, ys, t4, t5, rfl, s1, hp, hpr⟩
      rw [← hlen, List.take_length] at hpr
      exact ⟨_, rfl, k p ys H' s1 hp hpr⟩
/-! ### need_rows -/
theorem inV_strs (zs : List Str) (z : Str) : inV (.str z) (zs.map V.str) = decide (z ∈ zs) := by
  induction zs with
  | nil => rfl
  | cons y zs ih =>
    have e : inV (.str z) (V.str y :: zs.map V.str) = (eqV (.str y) (.str z) || inV (.str z) (zs.map V.str)) := rfl
    rw [List.map_cons, e, ih]
    have e2 : eqV (.str y) (.str z) = decide (y = z) := rfl
    rw [e2]
    by_cases h : y = z
    · subst h
      simp
    · have h' : ¬ z = y := fun q => h q.symm
      simp [h, h']
theorem flat_strs (zs : List Str) : (zs.map V.str).all flatV = true := by
  induction zs with
  | nil => rfl
  | cons m zs ih => exact ih
def spNeedRows : Sp := fun vs H Q _ => ∃ (rows : List Row) (v : V), vs = [v] ∧ RowsV H rows v ∧ TabOk rows ∧ ∀ H', Same H H' → Q .non H'
theorem sc46 : FnScope ["rows", "opcodes", "row", "pair", "one"] ["rows"] (defScope s46) := ⟨rfl, rfl, rfl, by decide +kernel, rfl, by decide +kernel, by decide +kernel⟩
theorem ok_needRows (T : Tb mg) (D : Df K mg "need_rows" s46) (W : Pm P w K mg base "is_tuple_of" 1 ["value", "least", "most"] spTupleOf) (F : Pm P w K mg base "is_free_name" 3 ["value"] spFree) (G : Pm P w K mg base "need_forms" 5 ["row", "forms", "ahead"] spNeedForms)
    (c : ∃ t, mg "MOST_ROWS" = some (.int 100 t)) (d : ∃ t, mg "MOST_FORMS" = some (.int 6 t)) : Pm P w K mg base "need_rows" 6 ["rows"] spNeedRows := by
  obtain ⟨tc, c⟩ := c
  obtain ⟨td, d⟩ := d
  refine Pm.of D sc46 (fun vs H Q E h => ?_) (fun _ _ _ _ _ _ us hl => match us, hl with | [_], _ => rfl) fun f cdv A outer s H vs Q E hr h => ?_
  · obtain ⟨rows, v, rfl, _⟩ := h
    rfl
  · obtain ⟨rows, v, rfl, ⟨a, rvs, rfl, ha, hrs⟩, TO, k⟩ := h
    refine ⟨_, (pss_cons (ps_if (pt_cmpR op_gt (pe_callB call_len_seq (by rfl) T.len PySem.boot_len (pa_cons (pv 0) pa_nil)) (pe_glob (v := .int 100) rfl c ⟨_, rfl⟩) (nomark _)) (pss_one ps_never) pss_nil)
      (pss_cons (ps_set (i := 1) sc46.nd rfl (Or.inl rfl) (pe_lst pa_nil))
      (pss_one (ps_for PassesOwn.never rfl (pi_en (by rfl) T.enumerate (pa_cons (pv 0) pa_nil)) (pg_tup rfl (pgs_cons (pg_name (i := 2) sc46.nd rfl (Or.inl rfl)) (pgs_cons (pg_name (i := 3) sc46.nd rfl (Or.inl rfl)) pgs_nil))) (pss_cons (ps_if (PW.pt (pw_or (pt_not (pt_val (pe_pm W (hr.mono (by decide)) (pa_cons (pv 3) (pa_cons pe_int (pa_cons pe_int pa_nil)))))) (pw_or (pt_not (pt_val (pe_pm F (hr.mono (by decide)) (pa_cons (pe_ix ix_tup (pv 3) pe_int (fun _ _ => rfl)) pa_nil)))) (pw_or1 (pt_cmpR op_in_seq (pe_ix ix_tup (pv 3) pe_int (fun _ _ => rfl)) (pe_lc (own := [("one", 4)]) (g := gName 4) (tt := tYes) rfl sc46.nd (pi_tup (pe_slice sl_tupA (pv 0) po_none (po_some (pv 2)))) (blkOk_by (N := ["rows", "opcodes", "row", "pair", "one"]) (sc := defScope s46) (by decide +kernel)) (fun _ _ _ _ _ => pg_name (i := 4) sc46.nd rfl (Or.inl rfl)) (fun _ _ _ _ _ => pts_nil) (fun _ _ _ _ _ => (pe_ix (r := rIxT K) ix_tup (pv 4) pe_int (fun _ _ => rfl)))) rfl))))) (pss_one ps_never) pss_nil)
      (pss_cons (ps_if (pt_not (pt_val (pe_pm W (hr.mono (by decide)) (pa_cons (pe_ix ix_tup (pv 3) pe_int (fun _ _ => rfl)) (pa_cons pe_int (pa_cons (pe_glob (v := .int 6) rfl d ⟨_, rfl⟩) pa_nil)))))) (pss_one ps_never) pss_nil)
      (pss_one (ps_set (i := 1) sc46.nd rfl (Or.inl rfl) (pe_pm G (hr.mono (by decide)) (pa_cons (pv 2) (pa_cons (pe_ix ix_tup (pv 3) pe_int (fun _ _ => rfl)) (pa_cons (pv 1) pa_nil)))))))))))), ?_⟩
    have hlen := hrs.length
    have h3 := TO.three
    refine ⟨_, rfl, a, _, rfl, .inr (SqT.of ha), _, _, rfl, rfl, _, rfl, ifF (decide_eq_false (by omega)) ⟨le0, fun l hl => ?_⟩⟩
    refine ⟨_, rfl, a, _, rfl, SqT.of (same_upd' hl _ _ ha), ?_⟩
    refine for_en (K := K) (a := a) (xs := rvs) (fun i σ' H' => ∃ p ys t2 t3, σ' = [some (.ref a), some (.ref p), t2, t3, none] ∧ Same H H' ∧ H' p = some (.lst ys) ∧ Paired (IntsV H') ((rows.take i).flatMap fun r => r.2.map Fm.op) ys)
      ⟨l, [], none, none, rfl, same_upd' hl, upd_same, .nil⟩ (fun i σ' H' ⟨_, _, _, _, _, s1, _⟩ => SqT.of (s1 _ _ ha)) ?_ ?_
    · rintro i rv t σ' H' hi ⟨p, ys, t2, t3, rfl, s1, hp, hpr⟩ ht
      obtain ⟨r, hr0, hrv⟩ := Paired.at hrs hi
      obtain ⟨q, y, rfl, hq, hy⟩ := id hrv
      obtain ⟨e, fvs, rfl, he, hfs⟩ := id hy
      have hmem := List.mem_of_getElem? hr0
      obtain ⟨n, hn4, SO⟩ := TO.sh r hmem
      have s2 := same_upd' (o := .tup [V.int (i : Nat), .ref q]) ht
      have s12 := s1.trans s2
      have hil := (List.getElem?_eq_some_iff.mp hi).1
      refine ⟨t, _, rfl, SqT.of upd_same, rfl, _, _, rfl, _, _, rfl, rfl, ?_⟩
      refine ⟨_, rfl, q, _, 2, 2, rfl, s12 _ _ hq, Int.le_refl 2, Int.le_refl 2, _, rfl, iteF ?_⟩
      refine ⟨_, rfl, q, _, _, _, rfl, rfl, SqT.of (s12 _ _ hq), atI_nat (j := 0) rfl, r.1, rfl, TO.free r hmem, _, rfl, iteF ?_⟩
      refine ⟨_, rfl, q, _, _, _, rfl, rfl, SqT.of (s12 _ _ hq), atI_nat (j := 0) rfl, ?_⟩
      have hsx : HT.sIx rvs.length rvs.length (some ((i : Nat) : Int)) = i := by rw [HT.sIx_nat, Nat.min_eq_left (by omega)]
      refine ⟨_, rfl, _, rfl, _, rfl, a, rvs, rfl, SqT.of (s12 _ _ ha), fun cc => ?_, fun cc g hg => ?_⟩
      · have := cc.2
        rw [hsx] at this
        omega
      have hcut : cutV rvs none (some ((i : Nat) : Int)) = rvs.take i := by
        unfold cutV
        rw [HT.sIx_none, hsx, List.drop_zero, Nat.sub_zero]
      rw [hcut]
      have s3 := same_upd' (o := .tup (rvs.take i)) hg
      have s13 := s12.trans s3
      refine ⟨g, rfl, ⟨_, SqT.of upd_same⟩, fun o ho => ?_⟩
      refine lc_pure (ys := ((rows.take i).map (·.1)).map V.str) ho (fun x => rfl) (by simp [hlen]) ?_ (SqT.of upd_same) (fun j x y H4 Q1 hx hy s4 qq => ?_) fun H4 s4 h4 => ?_
      · rw [List.length_take]
        exact lt1000 (by omega)
      · have hji : j < i := by
          have := (List.getElem?_eq_some_iff.mp hx).1
          rw [List.length_take] at this
          omega
        rw [List.getElem?_take_of_lt hji] at hx
        obtain ⟨r2, hr2, q2, y2, rfl, hq2, _⟩ := Paired.at hrs hx
        rw [List.getElem?_map, List.getElem?_map, List.getElem?_take_of_lt hji, hr2] at hy
        have hy' := (Option.some.inj hy).symm
        subst hy'
        exact ⟨_, rfl, q2, _, _, _, rfl, rfl, SqT.of ((s13.trans s4) _ _ hq2), atI_nat (j := 0) rfl, qq H4 (Same.refl _)⟩
      refine ⟨o, _, rfl, .inl (SqL.of h4), rfl, flat_strs _, _, rfl, ?_⟩
      have s14 := s13.trans s4
      rw [if_neg (by decide), inV_strs]
      have hnot : r.1 ∉ (rows.take i).map (·.1) := by
        intro hm
        rw [List.map_take] at hm
        obtain ⟨j, hj, ej⟩ := List.mem_take_iff_getElem.mp hm
        have h1 : (rows.map (·.1))[j]? = some r.1 := List.getElem?_eq_some_iff.mpr ⟨by omega, ej⟩
        have h2 : (rows.map (·.1))[i]? = some r.1 := by rw [List.getElem?_map, hr0]; rfl
        have := nd_ix TO.nd h1 h2
        omega
      refine ifF (decide_eq_false hnot) ?_
      have s34 := s3.trans s4
      refine ⟨_, rfl, q, _, _, _, rfl, rfl, SqT.of (s14 _ _ hq), atI_nat (j := 1) rfl, e, _, 1, 6, rfl, s14 _ _ he, ?_, ?_, _, rfl, iteF ?_⟩
      · have := hfs.length
        have := SO.one
        omega
      · have := hfs.length
        have := SO.three
        omega
      have hpl := hpr.length
      have hul : ∀ rs : List Row, (∀ r ∈ rs, r.2.length ≤ 3) → (rs.flatMap fun r => r.2.map Fm.op).length ≤ 3 * rs.length := by
        intro rs
        induction rs with
        | nil => intro _; exact Nat.le_refl _
        | cons r rs ih =>
          intro h
          rw [List.flatMap_cons, List.length_append, List.length_map, List.length_cons]
          have := h r (List.mem_cons_self ..)
          have := ih fun r hr => h r (List.mem_cons_of_mem _ hr)
          omega
      have hu := hul (rows.take i) fun r hr => by
        obtain ⟨_, _, so⟩ := TO.sh r (List.mem_of_mem_take hr)
        exact so.three
      rw [List.length_take] at hu
      have s24 := s2.trans s34
      refine ⟨_, rfl, _, rfl, q, _, _, _, rfl, rfl, SqT.of (s14 _ _ hq), atI_nat (j := 1) rfl, _, rfl, (i : Nat), r.2, (rows.take i).flatMap (fun r => r.2.map Fm.op), n, _, p, ys, rfl, hy.ts (TS.of s14), SO, s24 _ _ hp, Paired.imp (fun _ _ z => z.ts (TS.of s24)) hpr, by omega, ?_, fun p' ys' H5 s5 h5 hp5 => ?_⟩
      · have h0 := TO.pf
        have e1 : rows.flatMap (fun r => r.2.map Fm.op) = ((rows.take i).flatMap (fun r => r.2.map Fm.op) ++ r.2.map Fm.op) ++ (rows.drop (i + 1)).flatMap (fun r => r.2.map Fm.op) := by
          have e2 : rows = rows.take i ++ r :: rows.drop (i + 1) := by
            obtain ⟨hi2, e⟩ := List.getElem?_eq_some_iff.mp hr0
            rw [← e, List.getElem_cons_drop hi2]
            exact (List.take_append_drop i rows).symm
          conv => lhs; rw [e2]
          rw [List.flatMap_append, List.flatMap_cons, List.append_assoc]
        rw [e1] at h0
        exact (List.pairwise_append.mp h0).1
      · refine ⟨p', ys', _, _, rfl, s14.trans s5, h5, ?_⟩
        rw [List.take_succ, hr0, List.flatMap_append]
        simpa using hp5
    · rintro σ' H' ⟨p, ys, t2, t3, rfl, s1, hp, hpr⟩
      exact k H' s1
end
end K51
set_option Elab.async false
set_option linter.all false
set_option maxRecDepth 100000
set_option maxHeartbeats 4000000
/-! class Table: __init__ -/
namespace K51
open PySem PySem.Spec PyProof.Rows L2
abbrev sTi : Stmt := inClass (top 52) 0
abbrev sTo : Stmt := inClass (top 52) 1
abbrev sTg : Stmt := inClass (top 52) 3
abbrev sTc : Stmt := inClass (top 52) 9
abbrev sTf : Stmt := inClass (top 52) 10
def tabF (rv : V) (d1 d2 : Addr) : List (Str × V) := [("own_rows", rv), ("own_forms", .ref d1), ("own_places", .ref d2)]
/-- a table of these rows stands at t -/
def TabAt (C : Addr) (H : Hp) (t : Addr) (rows : List Row) : Prop := ∃ dx d1 d2 rv kvs, H t = some (.ins C dx (tabF rv d1 d2)) ∧ H d1 = some (.dK kvs) ∧ ∀ r ∈ rows, ∃ v, valV kvs (.inr r.1) = some v ∧ FmsV H r.2 v
theorem TabAt.sm {C t : Addr} {H H' : Hp} {rows : List Row} (h : TabAt C H t rows) (s : Same H H') : TabAt C H' t rows := by
  obtain ⟨dx, d1, d2, rv, kvs, h1, h2, h3⟩ := h
  refine ⟨dx, d1, d2, rv, kvs, s _ _ h1, s _ _ h2, fun r hr => ?_⟩
  obtain ⟨v, e, q⟩ := h3 r hr
  exact ⟨v, e, q.ts (TS.of s)⟩
/-- .. and its dict of forms is new since H0 -/
def TabF (C : Addr) (H0 H : Hp) (t : Addr) (rows : List Row) : Prop := ∃ dx d1 d2 rv kvs, H0 d1 = none ∧ H t = some (.ins C dx (tabF rv d1 d2)) ∧ H d1 = some (.dK kvs) ∧ ∀ r ∈ rows, ∃ v, valV kvs (.inr r.1) = some v ∧ FmsV H r.2 v
/-- .. and its dict of forms is not the dict at m -/
def TabM (C : Addr) (H : Hp) (t : Addr) (rows : List Row) (m : Addr) : Prop := ∃ dx d1 d2 rv kvs, d1 ≠ m ∧ H t = some (.ins C dx (tabF rv d1 d2)) ∧ H d1 = some (.dK kvs) ∧ ∀ r ∈ rows, ∃ v, valV kvs (.inr r.1) = some v ∧ FmsV H r.2 v
theorem TabM.at_ {C t m : Addr} {H : Hp} {rows : List Row} (h : TabM C H t rows m) : TabAt C H t rows := by
  obtain ⟨dx, d1, d2, rv, kvs, _, h⟩ := h
  exact ⟨dx, d1, d2, rv, kvs, h⟩
theorem TabF.at_ {C t : Addr} {H0 H : Hp} {rows : List Row} (h : TabF C H0 H t rows) : TabAt C H t rows := by
  obtain ⟨dx, d1, d2, rv, kvs, _, h⟩ := h
  exact ⟨dx, d1, d2, rv, kvs, h⟩
theorem TabF.tm {C t m : Addr} {H0 H : Hp} {rows : List Row} (h : TabF C H0 H t rows) (hm : DrSt H0 m) : TabM C H t rows m := by
  obtain ⟨dx, d1, d2, rv, kvs, n, h⟩ := h
  obtain ⟨a, b, c, e⟩ := hm
  exact ⟨dx, d1, d2, rv, kvs, (ne_of_none e n).symm, h⟩
theorem TabM.kp {C t m : Addr} {H H' : Hp} {rows : List Row} (h : TabM C H t rows m) (k : Kp m H H') : TabM C H' t rows m := by
  obtain ⟨dx, d1, d2, rv, kvs, n, h1, h2, h3⟩ := h
  obtain ⟨a, b, c, e⟩ := k.d0
  refine ⟨dx, d1, d2, rv, kvs, n, k.keep _ _ (ne_of h1 e (by intro z; cases z)) h1, k.keep _ _ n h2, fun r hr => ?_⟩
  obtain ⟨v, e, q⟩ := h3 r hr
  exact ⟨v, e, q.ts k.ts⟩
structure TC (K : PySem.W.Frag) (mg : Str → Option Value) (C : Addr) : Prop where
  mgC : mg "Table" = some (.ref C)
  cl : Cls K C
  nR : NoAttr K C "own_rows"
  nF : NoAttr K C "own_forms"
  nP : NoAttr K C "own_places"
section
variable {P : Program} {w : World} {K : PySem.W.Frag} {mg : Str → Option Value} {base : Heap} {C : Addr}
theorem scTi : FnScope ["self", "rows", "name", "forms", "number", "form"] (([("self" : Str)]) ++ [("rows" : Str)]) (defScope sTi) := ⟨rfl, rfl, rfl, by decide +kernel, rfl, by decide +kernel, by decide +kernel⟩
/-- self, rows already a tuple -/
def spTi (C : Addr) : Sp := fun vs H Q _ => ∃ (x p dx : Addr) (rvs : List V) (rows : List Row), vs = [.ref x, .ref p] ∧ H x = some (.ins C dx []) ∧ H p = some (.tup rvs) ∧ Paired (RowV H) rows rvs ∧ TabOk rows ∧
  ∀ H', TabF C H H' x rows → (∀ b o, H b = some o → b ≠ x → H' b = some o) → Q .non H'
/-- of the dict of the forms behind i rows -/
def FormsTo (H : Hp) (rows : List Row) (i : Nat) (kvs : List (Key × V)) : Prop := kvs.length ≤ i ∧ ∀ (j : Nat) r, j < i → rows[j]? = some r → ∃ v, valV kvs (.inr r.1) = some v ∧ FmsV H r.2 v
theorem ints_key (xs : List Int) : (xs.map (Sum.inl : Int → Key)).map kV = xs.map V.int := by
  rw [List.map_map]
  rfl
theorem ok_tinit {f : Addr} {fd : FuncData} (T : Tb mg) (F : FunD K "__init__" "Table.__init__" (defArgs sTi) (defBody sTi) (defScope sTi) [] [] f fd) (Z : TC K mg C) (NR : Pm P w K mg base "need_rows" 6 ["rows"] spNeedRows) :
    L2.FnR P w K mg base CX0 7 f (fun vs H Q E => ∃ ws rest, vs = ws ++ rest ∧ ws.length = ([("self" : Str)]).length ∧ rest.length ≤ sizeLine ∧ ∀ p, H p = none → spTi C (ws ++ [V.ref p]) (upd H p (.tup rest)) Q E) := by
  obtain ⟨oc, od, dV, kV, doc, pm, an, cdv, ct, osl, rfl, lk, hcd, hD, hK⟩ := F.ex
  obtain rfl : dV = .none := by
    rcases hD with ⟨_, e⟩ | ⟨e, _⟩
    · exact e
    · exact absurd rfl e
  refine StX.fn_star (ps := [("self" : Str)]) (pv := "rows") (sp := spTi C) lk hcd scTi StX.cxUp_none (StX.bind_star1 (B := fun us => bindArgs (PySem.W.fnOf "__init__" "Table.__init__" (defArgs sTi) (defBody sTi) (defScope sTi) .none kV doc pm an cdv ct) ⟨us, []⟩) (p1 := "self") (pv := "rows") (fun _ => by rfl) (fun _ _ _ => by rfl)) fun A outer s H vs Q E hr h => ?_
  obtain ⟨x, p, dx, rvs, rows, rfl, hx, hp, hrs, TO, k⟩ := h
  have hu := hu_of hr
  refine ⟨_, PSs.nox (pss_cons (ps_expr (pe_pm NR hr (pa_cons (pv 1) pa_nil)))
    (pss_cons (ps_fld (pv 0) (pv 1) rfl)
    (pss_cons (ps_fld (pv 0) (pe_dc (own := [("name", 2), ("forms", 3)]) (g := gTup K 2 (gCons (gName 2) (gCons (gName 3) gNil))) (tt := tYes) rfl scTi.nd (pi_tup (pv 1)) (blkOk_by (N := ["self", "rows", "name", "forms", "number", "form"]) (sc := defScope sTi) (by decide +kernel))
        (fun _ _ _ _ _ => pg_tup rfl (pgs_cons (pg_name (i := 2) scTi.nd rfl (Or.inl rfl)) (pgs_cons (pg_name (i := 3) scTi.nd rfl (Or.inl rfl)) pgs_nil))) (fun _ _ _ _ _ => pts_nil) (fun _ _ _ _ _ => pv 2) (fun _ _ _ _ _ => pv 3)) rfl)
    (pss_one (ps_fld (pv 0) (pe_dc2 (own := [("name", 2), ("forms", 3), ("number", 4), ("form", 5)]) (vs1 := [4, 5]) (g := gTup K 2 (gCons (gName 2) (gCons (gName 3) gNil))) (g1 := gTup K 2 (gCons (gName 4) (gCons (gName 5) gNil))) (wi1 := iEn K (tCons (tVar 3) tNil))
        (tk := tOp (rIxT K) (tVar 5) (tC (.int 0))) (tv := tTup (tCons (tVar 2) (tCons (tVar 4) tNil))) hr.units0 rfl scTi.nd (pi_tup (pv 1)) (blkOk_by (N := ["self", "rows", "name", "forms", "number", "form"]) (sc := defScope sTi) (by decide +kernel)) (by decide)
        (fun _ _ _ _ _ => pg_tup rfl (pgs_cons (pg_name (i := 2) scTi.nd rfl (Or.inl rfl)) (pgs_cons (pg_name (i := 3) scTi.nd rfl (Or.inl rfl)) pgs_nil)))
        (fun _ _ _ _ _ => pi_en (by rfl) T.enumerate (pa_cons (pv 3) pa_nil))
        (fun _ _ _ _ _ => pg_tup rfl (pgs_cons (pg_name (i := 4) scTi.nd rfl (Or.inl rfl)) (pgs_cons (pg_name (i := 5) scTi.nd rfl (Or.inl rfl)) pgs_nil)))
        (fun _ _ _ _ _ => pe_ix (r := rIxT K) ix_tup (pv 5) pe_int (fun _ _ => rfl)) (fun _ _ _ _ _ => pe_tup (pa_cons (pv 2) (pa_cons (pv 4) pa_nil)))) rfl))))), ?_⟩
  have hlen := hrs.length
  have h3 := TO.three
  refine ⟨_, rfl, rows, _, rfl, ⟨p, rvs, rfl, hp, hrs⟩, TO, fun H1 s1 => ?_⟩
  refine ⟨_, rfl, _, rfl, x, C, dx, [], rfl, s1 _ _ hx, Z.cl, Z.nR, (by show 0 < 1000; decide), ?_⟩
  have npx : p ≠ x := ne_of hp hx (by intro e; cases e)
  -- from here on all but x stays
  have keep1 : ∀ b o, H b = some o → b ≠ x → (upd H1 x (.ins C dx (putF "own_rows" (V.ref p) []))) b = some o := fun b o e n => by
    rw [upd_ne n]
    exact s1 _ _ e
  have hx2 : (upd H1 x (.ins C dx (putF "own_rows" (V.ref p) []))) x = some (.ins C dx [("own_rows", V.ref p)]) := upd_same
  generalize upd H1 x (.ins C dx (putF "own_rows" (V.ref p) [])) = H2 at keep1 hx2
  have t12 : TS H H2 := fun b xs q => keep1 b _ q (ne_of q hx (by intro e; cases e))
  refine ⟨_, rfl, p, rfl, ⟨_, SqT.of (t12 _ _ hp)⟩, fun d1 hd1 => ?_⟩
  refine dc_tup (K := K) (a := p) (xs := rvs) (fun i H' => Same H2 H' ∧ ∃ kvs, H' d1 = some (.dK kvs) ∧ FormsTo H' rows i kvs) ⟨same_upd' hd1, [], upd_same, Nat.le_refl _, fun j r hj => absurd hj (Nat.not_lt_zero j)⟩
    (fun i H' _ q => SqT.of (q.1 _ _ (t12 _ _ hp))) ?_ ?_
  · rintro i rv H' hi ⟨s2, kvs, hd, hl, hf⟩
    obtain ⟨r, hr0, q, y, rfl, hq, hy⟩ := Paired.at hrs hi
    have t2 := t12.trans (TS.of s2)
    refine ⟨q, _, rfl, SqT.of (t2 _ _ hq), rfl, _, _, rfl, _, _, rfl, rfl, rfl, ?_⟩
    have hi3 := (List.getElem?_eq_some_iff.mp hi).1
    refine iteT (B := Same H2 H' ∧ ∃ kvs, H' d1 = some (.dK kvs) ∧ FormsTo H' rows (i + 1) kvs) ⟨_, rfl, _, rfl, kvs, .inr r.1, rfl, hd, lt1000 (by omega), same_upd s2 hd1, _, upd_same, ?_, ?_⟩
    · have := length_putK kvs (.inr r.1) y
      omega
    · intro j r2 hj hr2
      rw [valV_put]
      have tm : TS H' (upd H' d1 (.dK (putK kvs (.inr r.1) y))) := fun b xs e => by
        rw [upd_ne (ne_of e hd (by intro z; cases z))]
        exact e
      by_cases e : (Sum.inr r2.1 : Key) = Sum.inr r.1
      · rw [if_pos e]
        have e1 : r2.1 = r.1 := Sum.inr.inj e
        have e2 : j = i := nd_ix TO.nd (x := r.1) (by rw [List.getElem?_map, hr2, ← e1]; rfl) (by rw [List.getElem?_map, hr0]; rfl)
        subst e2
        rw [hr0] at hr2
        have e3 := Option.some.inj hr2
        subst e3
        exact ⟨y, rfl, hy.ts (t2.trans tm)⟩
      · rw [if_neg e]
        have hji : j < i := by
          by_cases hji : j < i
          · exact hji
          · have : j = i := by omega
            subst this
            rw [hr0] at hr2
            have e3 := Option.some.inj hr2
            subst e3
            exact absurd rfl e
        obtain ⟨v, hv, hvf⟩ := hf j r2 hji hr2
        exact ⟨v, hv, hvf.ts tm⟩
  · rintro H3 ⟨s23, kvs, hd3, hf⟩
    refine ⟨_, rfl, x, C, dx, _, rfl, s23 _ _ hx2, Z.cl, Z.nF, (by show 1 < 1000; decide), ?_⟩
    have nd1 : d1 ≠ x := (ne_of_none hx2 hd1).symm
    have keep4 : ∀ b o, H3 b = some o → b ≠ x → (upd H3 x (.ins C dx (putF "own_forms" (V.ref d1) [("own_rows", V.ref p)]))) b = some o := fun b o e n => by
      rw [upd_ne n]
      exact e
    have hx4 : (upd H3 x (.ins C dx (putF "own_forms" (V.ref d1) [("own_rows", V.ref p)]))) x = some (.ins C dx [("own_rows", V.ref p), ("own_forms", V.ref d1)]) := upd_same
    generalize upd H3 x (.ins C dx (putF "own_forms" (V.ref d1) [("own_rows", V.ref p)])) = H4 at keep4 hx4
    have t24 : TS H2 H4 := fun b xs q => keep4 b _ (s23 _ _ q) (ne_of q hx2 (by intro e; cases e))
    have t14 := t12.trans t24
    have hd4 : H4 d1 = some (.dK kvs) := keep4 _ _ hd3 nd1
    refine ⟨_, rfl, p, rfl, ⟨_, SqT.of (t14 _ _ hp)⟩, fun d2 hd2 => ?_⟩
    refine ⟨fun i m H' => m = rvs.length - i ∧ i ≤ rvs.length ∧ Same H4 H' ∧ ∃ ts, H' d2 = some (.dT ts) ∧ ts.length ≤ 3 * i, ⟨_, rfl, Nat.zero_le _, same_upd' hd2, [], upd_same, Nat.le_refl _⟩, ?_⟩
    rintro i m H5 ⟨rfl, hi, s5, ts, hts, htl⟩
    by_cases hlt : i < rvs.length
    · refine .inr ⟨⟨rvs, rvs[i], SqT.of (s5 _ _ (t14 _ _ hp)), List.getElem?_eq_getElem hlt⟩, fun H' => Same H4 H' ∧ ∃ ts, H' d2 = some (.dT ts) ∧ ts.length ≤ 3 * (i + 1), fun H' q => ⟨rvs.length - (i + 1), by omega, rfl, hlt, q⟩, ?_⟩
      rintro rv H6 ⟨e6, hrv⟩
      subst e6
      have hi0 := hrv rvs (SqT.of (s5 _ _ (t14 _ _ hp)))
      obtain ⟨r, hr0, q, y, rfl, hq, hy⟩ := Paired.at hrs hi0
      have t16 := t14.trans (TS.of s5)
      refine ⟨q, _, rfl, SqT.of (t16 _ _ hq), rfl, _, _, rfl, _, _, rfl, rfl, rfl, ?_⟩
      obtain ⟨e, fvs, rfl, he, hfs⟩ := hy
      obtain ⟨n, hn4, SO⟩ := TO.sh r (List.mem_of_getElem? hr0)
      have hfl := hfs.length
      have hs3 := SO.three
      refine ⟨_, rfl, e, _, rfl, SqT.of (t16 _ _ he), ?_⟩
      refine ⟨fun j m H' => m = fvs.length - j ∧ j ≤ fvs.length ∧ Same H4 H' ∧ ∃ ts, H' d2 = some (.dT ts) ∧ ts.length ≤ 3 * i + j, ⟨_, rfl, Nat.zero_le _, s5, ts, hts, htl⟩, ?_⟩
      rintro j m H7 ⟨rfl, hj, s7, ts7, hts7, htl7⟩
      have t17 := t14.trans (TS.of s7)
      by_cases hlt2 : j < fvs.length
      · refine .inr ⟨⟨fvs, fvs[j], SqT.of (t17 _ _ he), List.getElem?_eq_getElem hlt2⟩, fun H' => Same H4 H' ∧ ∃ ts, H' d2 = some (.dT ts) ∧ ts.length ≤ 3 * i + (j + 1), fun H' q => ⟨fvs.length - (j + 1), by omega, rfl, hlt2, q⟩, ?_⟩
        rintro v H8 ⟨u, fv, rfl, hu8, rfl, hfv⟩
        have hj0 := hfv fvs (SqT.of (t17 _ _ he))
        obtain ⟨G, hG, b, z1, z2, rfl, hb, ⟨ob, rfl, hob⟩, _⟩ := Paired.at hfs hj0
        have s8 := same_upd' (o := .tup [V.int (j : Nat), V.ref b]) hu8
        have t18 := t17.trans (TS.of s8)
        refine ⟨u, _, rfl, SqT.of upd_same, rfl, _, _, rfl, _, _, rfl, rfl, rfl, ?_⟩
        refine ⟨_, rfl, b, _, _, _, rfl, rfl, SqT.of (t18 _ _ hb), atI_nat (j := 0) rfl, _, rfl, _, rfl, le2, fun c hc => ?_⟩
        have s9 := same_upd' (o := .tup [V.str r.1, V.int (j : Nat)]) hc
        have s79 := (s8.trans s9)
        refine ⟨ob, ts7, G.op.map Sum.inl, rfl, ?_, s79 _ _ hts7, lt1000 (by omega), ?_, _, upd_same, ?_⟩
        · rw [ints_key]
          exact (t18.trans (TS.of s9)) _ _ hob
        · exact same_upd (s7.trans s79) hd2
        · have := length_putK ts7 (G.op.map Sum.inl) (V.ref c)
          omega
      · have ej : j = fvs.length := by omega
        subst ej
        exact .inl ⟨⟨fvs, SqT.of (t17 _ _ he), rfl⟩, s7, ts7, hts7, by omega⟩
    · have ei : i = rvs.length := by omega
      subst ei
      refine .inl ⟨⟨rvs, SqT.of (s5 _ _ (t14 _ _ hp)), Nat.le_refl _⟩, ?_⟩
      refine ⟨_, rfl, x, C, dx, _, rfl, s5 _ _ hx4, Z.cl, Z.nP, (by show 2 < 1000; decide), ?_⟩
      have nx5 : ∀ b o, H5 b = some o → b ≠ x → (upd H5 x (.ins C dx (putF "own_places" (V.ref d2) [("own_rows", V.ref p), ("own_forms", V.ref d1)]))) b = some o := fun b o e n => by
        rw [upd_ne n]
        exact e
      have hd1H : H d1 = none := by
        cases e : H d1 with
        | none => rfl
        | some o =>
          have := keep1 d1 o e nd1
          rw [hd1] at this
          cases this
      refine k _ ⟨dx, d1, d2, .ref p, kvs, hd1H, upd_same, nx5 _ _ (s5 _ _ hd4) nd1, fun r hr => ?_⟩ fun b o e n => nx5 _ _ (s5 _ _ (keep4 _ _ (s23 _ _ (keep1 _ _ e n)) n)) n
      obtain ⟨j, hj, ej⟩ := List.mem_iff_getElem.mp hr
      obtain ⟨v, hv, hvf⟩ := hf.2 j r (by omega) (List.getElem?_eq_some_iff.mpr ⟨hj, ej⟩)
      refine ⟨v, hv, hvf.ts fun b xs e => nx5 _ _ (s5 _ _ (keep4 _ _ e ?_)) ?_⟩
      · exact ne_of e (s23 _ _ hx2) (by intro z; cases z)
      · exact ne_of e (s23 _ _ hx2) (by intro z; cases z)
end
end K51
set_option Elab.async false
set_option linter.all false
set_option maxRecDepth 100000
set_option maxHeartbeats 4000000
/-! class Table: of, __getitem__, __call__, fitting -/
namespace K51
open PySem PySem.Spec PyProof.Rows L2
section
variable {P : Program} {w : World} {K : PySem.W.Frag} {mg : Str → Option Value} {base : Heap} {C Ce fe : Addr}
/-! ### of -/
def spOf (C : Addr) : Sp := fun vs H Q _ => ∃ (rows : List Row) (v : V), vs = [.ref C, v] ∧ RowsV H rows v ∧ TabOk rows ∧ ∀ t H', H t = none → Same H H' → TabF C H H' t rows → Q (.ref t) H'
theorem scTo : FnScope ["cls", "rows"] ["cls", "rows"] (defScope sTo) := ⟨rfl, rfl, rfl, by decide +kernel, rfl, by decide +kernel, by decide +kernel⟩
abbrev spInit (C : Addr) : Sp := fun vs H Q E => ∃ ws rest, vs = ws ++ rest ∧ ws.length = ([("self" : Str)]).length ∧ rest.length ≤ sizeLine ∧ ∀ p, H p = none → spTi C (ws ++ [V.ref p]) (upd H p (.tup rest)) Q E
/-- a new instance, then __init__ -/
theorem init_go {x dx : Addr} {rvs : List V} {rows : List Row} {H : Hp} {Q : VK} (hx : H x = none) (hdx : H dx = none) (ne : dx ≠ x) (hrs : Paired (RowV H) rows rvs) (TO : TabOk rows) (k : ∀ H', Same H H' → TabF C H H' x rows → Q (.ref x) H') :
    spInit C (V.ref x :: rvs) (upd (upd H dx (.own x)) x (.ins C dx [])) (fun v H2 => v = .non ∧ Q (.ref x) H2) E0 := by
  have hlen := hrs.length
  have h3 := TO.three
  refine ⟨[.ref x], rvs, rfl, rfl, Nat.le_of_lt (lt1000 (by omega)), fun p hp => ?_⟩
  have npx : x ≠ p := by
    intro e
    rw [← e, upd_same] at hp
    cases hp
  have hp0 : H p = none := by
    rw [upd_ne npx.symm] at hp
    by_cases e : p = dx
    · rw [e, upd_same] at hp
      cases hp
    · rw [upd_ne e] at hp
      exact hp
  have s1 : Same H (upd (upd (upd H dx (.own x)) x (.ins C dx [])) p (.tup rvs)) := same_upd (same_upd (same_upd' hdx) hx) hp0
  refine ⟨x, p, dx, rvs, rows, rfl, ?_, upd_same, Paired.imp (fun _ _ q => q.ts (TS.of s1)) hrs, TO, fun H' hT hk => ⟨rfl, k H' (fun b o e => hk b o (s1 _ _ e) ?_) (let ⟨a1, a2, a3, a4, a5, n, r⟩ := hT; ⟨a1, a2, a3, a4, a5, s1.free n, r⟩)⟩⟩
  · rw [upd_ne npx, upd_same]
  · exact ne_of_none e hx
theorem ok_of {f fI : Addr} {fd : FuncData} (T : Tb mg) (F : FunD K "of" "Table.of" (defArgs sTo) (defBody sTo) (defScope sTo) [] [] f fd) (M : Mk K C fI) (FI : L2.FnR P w K mg base CX0 7 fI (spInit C)) : FnOk P w K mg base CX0 9 f fd ["cls", "rows"] (spOf C) := by
  refine F.ok scTo (fun vs H Q E h => ?_) fun cdv A outer s H vs Q E hr h => ?_
  · obtain ⟨rows, v, rfl, _⟩ := h
    rfl
  · obtain ⟨rows, v, rfl, ⟨a, rvs, rfl, ha, hrs⟩, TO, k⟩ := h
    refine ⟨_, PSs.nox (pss_cons (ps_if (pt_not (pt_val (pe_isi T T.tuple bt_tuple (pv 1)))) (pss_one ps_never) pss_nil) (pss_one (ps_ret (pe_clsS (pv 0) M FI hr (pv 1))))), ?_⟩
    refine ⟨_, rfl, "tuple", true, .base (.tup ha), by decide +kernel, _, rfl, iteF ⟨_, rfl, rfl, _, rfl, a, rvs, rfl, SqT.of ha, fun x dx hx hdx ne => ?_⟩⟩
    exact init_go hx hdx ne hrs TO fun H' s' hT => k x H' hx s' hT
/-! ### __getitem__ -/
def spGet (C : Addr) : Sp := fun vs H Q _ => ∃ (t : Addr) (nm : Str) (fms : List Fm) (rows : List Row), vs = [.ref t, .str nm] ∧ TabAt C H t rows ∧ (nm, fms) ∈ rows ∧ ∀ v, FmsV H fms v → Q v H
theorem scTg : FnScope ["self", "name"] ["self", "name"] (defScope sTg) := ⟨rfl, rfl, rfl, by decide +kernel, rfl, by decide +kernel, by decide +kernel⟩
theorem ok_get {f : Addr} {fd : FuncData} (T : Tb mg) (Z : TC K mg C) (F : FunD K "__getitem__" "Table.__getitem__" (defArgs sTg) (defBody sTg) (defScope sTg) [] [] f fd) : FnOk P w K mg base CX0 1 f fd ["self", "name"] (spGet C) := by
  refine F.ok scTg (fun vs H Q E h => ?_) fun cdv A outer s H vs Q E hr h => ?_
  · obtain ⟨t, nm, fms, rows, rfl, _⟩ := h
    rfl
  · obtain ⟨t, nm, fms, rows, rfl, ⟨dx, d1, d2, rv, kvs, h1, h2, h3⟩, hm, k⟩ := h
    obtain ⟨v, hv, hvf⟩ := h3 _ hm
    have hu := hu_of hr
    refine ⟨_, PSs.nox (pss_cons (ps_if (PW.pt (pw_or (pt_not (pt_val (pe_isi T T.str bt_str (pv 1)))) (pw_or1 (pt_cmp (pc_dnotin hu (pv 1) (pe_fld (pv 0) rfl)) rfl)))) (pss_one ps_never) pss_nil) (pss_one (ps_ret (pe_dget hu (pe_fld (pv 0) rfl) (pv 1) (fun _ _ => rfl))))), ?_⟩
    refine ⟨_, rfl, "str", true, .base (.str _), by decide +kernel, _, rfl, iteF ?_⟩
    refine ⟨_, rfl, _, rfl, t, C, dx, _, _, rfl, h1, Z.cl, Z.nF, rfl, d1, _, rfl, DGet.k (k := Sum.inr nm) h2, _, rfl, ?_⟩
    have hv' : valV kvs (Sum.inr nm) = some v := hv
    rw [hv']
    exact iteF ⟨_, rfl, t, C, dx, _, _, rfl, h1, Z.cl, Z.nF, rfl, _, rfl, d1, v, rfl, hv' ▸ DGet.k (k := Sum.inr nm) h2, k v hvf⟩
/-! ### __call__, fitting -/
/-- the operands that are told -/
structure CallOk (rows : List Row) (nm : Str) (fms : List Fm) (ops : List Int) (ad : Int) : Prop where
  mem : (nm, fms) ∈ rows
  one : 1 ≤ fms.length
  fit : FitOk fms ops
  four : ops.length ≤ 4
  ops : OpsOk ops
  a0 : 0 ≤ ad
  a1 : ad ≤ 2 ^ 40
def spCall (C Ce : Addr) : Sp := fun vs H Q E => ∃ (t : Addr) (nm : Str) (fms : List Fm) (rows : List Row) (ops : List Int) (ad : Int) (u : V), vs = [.ref t, .str nm, u, .int ad] ∧ TabAt C H t rows ∧ CallOk rows nm fms ops ad ∧ IntsV H ops u ∧
  (∀ i F, firstFit fms ops ad 0 [] = some i → fms[i]? = some F → ∀ p H', H p = none → Same H H' → H' p = some (.tup ((cellsBy F ops ad).map V.int)) → Q (.ref p) H') ∧
  (firstFit fms ops ad 0 [] = none → ∀ d H', Same H H' → H' d = none → E (.ref Ce) (some d) (upd H' d (.xd [(("index" : Str), V.non)])))
theorem scTc : FnScope ["self", "name", "operands", "address", "forms", "number"] ["self", "name", "operands", "address"] (defScope sTc) := ⟨rfl, rfl, rfl, by decide +kernel, rfl, by decide +kernel, by decide +kernel⟩
theorem first_in {fms : List Fm} {ops : List Int} {ad : Int} {lo i : Nat} {mv : List Int} (h : firstFit fms ops ad lo mv = some i) : i < fms.length := by
  unfold firstFit at h
  obtain ⟨j, hj, e⟩ := Option.map_eq_some_iff.mp h
  have := List.mem_of_find?_eq_some hj
  rw [List.mem_range] at this
  omega
theorem ok_call {f fg : Addr} {fd : FuncData} (Z : TC K mg C) (F : FunD K "__call__" "Table.__call__" (defArgs sTc) (defBody sTc) (defScope sTc) [.int 0] [] f fd) (G : SubO K C fg) (FG : L2.FnR P w K mg base CX0 1 fg (spGet C))
    (NO : Pm P w K mg base "need_operands" 3 ["forms", "operands"] spOperands) (NA : Pm P w K mg base "need_address" 3 ["address"] spAddress) (FF : Pm P w K mg base "first_fit" 4 ["forms", "operands", "address", "first", "moving"] (spFirst K))
    (CB : Pm P w K mg base "cells_by" 3 ["form", "operands", "address"] spBy) (X : BoTxt P K mg Ce fe) : FnOk P w K mg base (L2.CX P w) 6 f fd ["self", "name", "operands", "address"] (spCall C Ce) := by
  refine F.ok scTc (fun vs H Q E h => ?_) fun cdv A outer s H vs Q E hr h => ?_
  · obtain ⟨t, nm, fms, rows, ops, ad, u, rfl, _⟩ := h
    rfl
  · obtain ⟨t, nm, fms, rows, ops, ad, u, rfl, hT, CO, hu, k1, k2⟩ := h
    refine ⟨_, pss_cons (ps_set (i := 4) scTc.nd rfl (Or.inl rfl) (pe_subO (pv 0) (pv 1) G FG (hr.mono (by decide))))
      (pss_cons (ps_expr (pe_pm NO (hr.mono (by decide)) (pa_cons (pv 4) (pa_cons (pv 2) pa_nil))))
      (pss_cons (ps_expr (pe_pm NA (hr.mono (by decide)) (pa_cons (pv 3) pa_nil)))
      (pss_cons (ps_set (i := 5) scTc.nd rfl (Or.inl rfl) (pe_pm FF (hr.mono (by decide)) (pa_cons (pv 4) (pa_cons (pv 2) (pa_cons (pv 3) (pa_cons pe_int (pa_cons (pe_tup pa_nil) pa_nil)))))))
      (pss_cons (ps_if (pt_cmpR op_isN (pv 5) pe_non (nomark _)) (pss_one (ps_raiseBo rfl X hr (takes_of rfl rfl rfl rfl) (by exact (pa_cons pe_non pa_nil)))) pss_nil)
      (pss_one (ps_ret (pe_pm CB (hr.mono (by decide)) (pa_cons (pe_ix ix_tup (pv 4) (pv 5) (fun _ _ => rfl)) (pa_cons (pv 2) (pa_cons (pv 3) pa_nil)))))))))), ?_⟩
    obtain ⟨dx, d1, d2, rv, kvs, h1, h2, h3⟩ := id hT
    refine ⟨_, rfl, _, rfl, t, dx, _, rfl, h1, t, nm, fms, rows, rfl, hT, CO.mem, fun v hv => ?_⟩
    obtain ⟨F0, Fr, hF0⟩ : ∃ F0 Fr, fms = F0 :: Fr := by
      have := CO.one
      cases hf : fms with
      | nil => rw [hf] at this; exact absurd this (by decide)
      | cons a b => exact ⟨a, b, rfl⟩
    have hF0m : F0 ∈ fms := by rw [hF0]; exact List.mem_cons_self ..
    obtain ⟨o1, o2⟩ := CO.fit.fm F0 hF0m
    refine ⟨_, rfl, _, rfl, F0, Fr, ops, v, u, rfl, hF0 ▸ hv, hu, o2, CO.four, CO.ops, fun H1 s1 => ?_⟩
    refine ⟨_, rfl, ad, rfl, CO.a0, CO.a1, ?_⟩
    refine ⟨_, rfl, _, rfl, _, rfl, le0, fun p hp => ?_⟩
    have s2 := s1.trans (same_upd' (o := .tup []) hp)
    refine ⟨fms, ops, ad, 0, [], v, u, .ref p, rfl, hv.ts (TS.of s2), CO.fit, hu.ts (TS.of s2), ⟨p, rfl, SqT.of upd_same⟩, Nat.zero_le _, fun H3 s3 => ?_⟩
    have s13 := s2.trans s3
    refine ⟨_, rfl, rfl, _, rfl, ?_⟩
    rw [optV_none]
    cases hff : firstFit fms ops ad 0 [] with
    | none => exact iteT ⟨_, rfl, fun d hd => k2 hff d H3 s13 hd⟩
    | some i =>
      have hi := first_in hff
      obtain ⟨a, fvs, rfl, ha, hfs⟩ := hv
      obtain ⟨Fi, hFi⟩ : ∃ Fi, fms[i]? = some Fi := ⟨fms[i], List.getElem?_eq_getElem hi⟩
      obtain ⟨fv, hfv, hFv⟩ := Paired.ta hfs hFi
      obtain ⟨q1, q2⟩ := CO.fit.fm Fi (List.mem_of_getElem? hFi)
      refine iteF ⟨_, rfl, _, rfl, a, _, _, fv, rfl, rfl, SqT.of (s13 _ _ ha), atI_nat (j := i) hfv, _, rfl, _, rfl, Fi, ops, ad, fv, u, rfl, hFv.ts (TS.of s13), q1, hu.ts (TS.of s13), q2, fun p4 H4 hp4 s4 h4 => ?_⟩
      exact k1 i Fi hff hFi p4 H4 (s13.free hp4) (s13.trans s4) h4
def spFit (K : PySem.W.Frag) (C : Addr) : Sp := fun vs H Q _ => ∃ (t : Addr) (nm : Str) (fms : List Fm) (rows : List Row) (ops : List Int) (ad : Int) (lo : Nat) (mv : List Int) (u x : V), vs = [.ref t, .str nm, u, .int ad, .int (lo : Nat), x] ∧ TabAt C H t rows ∧ CallOk rows nm fms ops ad ∧ IntsV H ops u ∧ MvV K H mv x ∧ lo ≤ 6 ∧
  ∀ H', Same H H' → Q (optV (firstFit fms ops ad lo mv)) H'
theorem scTf : FnScope ["self", "name", "operands", "address", "first", "moving", "forms"] ["self", "name", "operands", "address", "first", "moving"] (defScope sTf) := ⟨rfl, rfl, rfl, by decide +kernel, rfl, by decide +kernel, by decide +kernel⟩
theorem ok_fitting {f fg : Addr} {fd : FuncData} {kws : List (Str × V)} (Z : TC K mg C) (F : FunD K "fitting" "Table.fitting" (defArgs sTf) (defBody sTf) (defScope sTf) [] kws f fd) (G : SubO K C fg) (FG : L2.FnR P w K mg base CX0 1 fg (spGet C))
    (NO : Pm P w K mg base "need_operands" 3 ["forms", "operands"] spOperands) (NA : Pm P w K mg base "need_address" 3 ["address"] spAddress) (FF : Pm P w K mg base "first_fit" 4 ["forms", "operands", "address", "first", "moving"] (spFirst K))
    (W : Pm P w K mg base "is_whole" 1 ["value", "least", "most"] spWhole) (d : ∃ t, mg "MOST_FORMS" = some (.int 6 t)) : FnOk P w K mg base CX0 6 f fd ["self", "name", "operands", "address", "first", "moving"] (spFit K C) := by
  obtain ⟨td, d⟩ := d
  refine F.ok scTf (fun vs H Q E h => ?_) fun cdv A outer s H vs Q E hr h => ?_
  · obtain ⟨t, nm, fms, rows, ops, ad, lo, mv, u, x, rfl, _⟩ := h
    rfl
  · obtain ⟨t, nm, fms, rows, ops, ad, lo, mv, u, x, rfl, hT, CO, hu, hx, hlo, k⟩ := h
    refine ⟨_, PSs.nox (pss_cons (ps_set (i := 6) scTf.nd rfl (Or.inl rfl) (pe_subO (pv 0) (pv 1) G FG (hr.mono (by decide))))
      (pss_cons (ps_expr (pe_pm NO (hr.mono (by decide)) (pa_cons (pv 6) (pa_cons (pv 2) pa_nil))))
      (pss_cons (ps_expr (pe_pm NA (hr.mono (by decide)) (pa_cons (pv 3) pa_nil)))
      (pss_cons (ps_if (pt_not (pt_val (pe_pm W (hr.mono (by decide)) (pa_cons (pv 4) (pa_cons pe_int (pa_cons (pe_glob (v := .int 6) rfl d ⟨_, rfl⟩) pa_nil)))))) (pss_one ps_never) pss_nil)
      (pss_one (ps_ret (pe_pm FF (hr.mono (by decide)) (pa_cons (pv 6) (pa_cons (pv 2) (pa_cons (pv 3) (pa_cons (pv 4) (pa_cons (pv 5) pa_nil)))))))))))), ?_⟩
    obtain ⟨dx, d1, d2, rv, kvs, h1, h2, h3⟩ := id hT
    refine ⟨_, rfl, _, rfl, t, dx, _, rfl, h1, t, nm, fms, rows, rfl, hT, CO.mem, fun v hv => ?_⟩
    obtain ⟨F0, Fr, hF0⟩ : ∃ F0 Fr, fms = F0 :: Fr := by
      have := CO.one
      cases hf : fms with
      | nil => rw [hf] at this; exact absurd this (by decide)
      | cons a b => exact ⟨a, b, rfl⟩
    have hF0m : F0 ∈ fms := by rw [hF0]; exact List.mem_cons_self ..
    obtain ⟨o1, o2⟩ := CO.fit.fm F0 hF0m
    refine ⟨_, rfl, _, rfl, F0, Fr, ops, v, u, rfl, hF0 ▸ hv, hu, o2, CO.four, CO.ops, fun H1 s1 => ?_⟩
    refine ⟨_, rfl, ad, rfl, CO.a0, CO.a1, ?_⟩
    refine ⟨_, rfl, (lo : Nat), 0, 6, rfl, _, rfl, ifF ?_ ?_⟩
    · rw [decide_eq_true (by omega), decide_eq_true (by omega)]
      rfl
    exact ⟨_, rfl, _, rfl, _, rfl, _, rfl, _, rfl, fms, ops, ad, lo, mv, v, u, x, rfl, hv.ts (TS.of s1), CO.fit, hu.ts (TS.of s1), hx.sm s1, by omega, fun H3 s3 => k H3 (s1.trans s3)⟩
end
end K51
set_option Elab.async false
set_option linter.all false
set_option maxRecDepth 100000
set_option maxHeartbeats 4000000
/-! _law_made -/
namespace K51
open PySem PySem.Spec PyProof.Rows L2
abbrev s70 : Stmt := top 70
abbrev s71 : Stmt := top 71
abbrev s72 : Stmt := top 72
section
variable {P : Program} {w : World} {K : PySem.W.Frag} {mg : Str → Option Value} {base : Heap} {C Ce fe : Addr}
/-- what a call of a table gives, as _law_made tells it -/
def MadeAs (fms : List Fm) (ops : List Int) (ad : Int) (H : Hp) (v : V) : Prop := (firstFit fms ops ad 0 [] = none ∧ ∃ p, v = .ref p ∧ H p = some (.lst [.non])) ∨ ∃ i F p, firstFit fms ops ad 0 [] = some i ∧ fms[i]? = some F ∧ v = .ref p ∧ H p = some (.tup ((cellsBy F ops ad).map V.int))
def spMade (C : Addr) : Sp := fun vs H Q _ => ∃ (t : Addr) (nm : Str) (fms : List Fm) (rows : List Row) (ops : List Int) (ad : Int) (u : V), vs = [.ref t, .str nm, u, .int ad] ∧ TabAt C H t rows ∧ CallOk rows nm fms ops ad ∧ IntsV H ops u ∧ ∀ v H', Same H H' → MadeAs fms ops ad H' v → Q v H'
theorem sc70 : FnScope ["_law_some", "_law_title", "_law_given", "_law_far", "e"] ["_law_some", "_law_title", "_law_given", "_law_far"] (defScope s70) := ⟨rfl, rfl, rfl, by decide +kernel, rfl, by decide +kernel, by decide +kernel⟩
theorem ok_made {fc : Addr} (D : Df K mg "_law_made" s70) (X : BoTxt P K mg Ce fe) (c : StX.CallO K C fc) (FC : L2.FnR P w K mg base (L2.CX P w) 6 fc (spCall C Ce)) : Pm P w K mg base "_law_made" 7 ["_law_some", "_law_title", "_law_given", "_law_far"] (spMade C) := by
  refine Pm.of D sc70 (fun vs H Q E h => ?_) (fun _ _ _ _ _ _ us hl => match us, hl with | [_, _, _, _], _ => rfl) fun f cdv A outer s H vs Q E hr h => ?_
  · obtain ⟨t, nm, fms, rows, ops, ad, u, rfl, _⟩ := h
    rfl
  · obtain ⟨t, nm, fms, rows, ops, ad, u, rfl, hT, CO, hu, k⟩ := h
    refine ⟨_, pss_one (ps_try_as (i := 4) (tb := fun W => tRet (tCallOS C (spCall C Ce) (WE W) (tVar 0) (tCons (tVar 1) (tCons (tVar 2) (tCons (tVar 3) tNil))))) (ts := fun a cls d => tRet (tLst (tCons (tByIx Ce a cls d (tVar 4)) tNil))) (Wout := fun _ _ _ _ => False) rfl rfl sc70.nd rfl rfl ⟨rfl, by decide, Or.inl X.gC⟩ takes0
        (fun W pn xe tk _ => pss_one (ps_ret (by exact (pe_callOS (pv 0) c FC hr (fun σ => passAt tk σ) (by exact (pa_cons (pv 1) (pa_cons (pv 2) (pa_cons (pv 3) pa_nil))))))))
        (fun a oe cls d pn hz hf => pss_one (ps_ret (by exact (pe_lst (pa_cons (pe_byIx X hz hf (pv 4)) pa_nil)))))), ?_⟩
    obtain ⟨dx, d1, d2, rv, kvs, h1, h2, h3⟩ := id hT
    refine ⟨_, rfl, t, rfl, _, rfl, _, rfl, _, rfl, ⟨dx, _, h1⟩, t, nm, fms, rows, ops, ad, u, rfl, hT, CO, hu, fun i F hi hF p H' hp s1 h' => ?_, fun hn d H' s1 hd => ?_⟩
    · exact k _ H' s1 (.inr ⟨i, F, p, hi, hF, rfl, h'⟩)
    · refine ⟨true, X.te, fun _ a ha => ?_, fun q => Bool.noConfusion q⟩
      refine ⟨_, rfl, rfl, rfl, d, _, rfl, upd_same, le1, fun p hp => ?_⟩
      have s2 : Same H (upd (upd H' d (.xd [(("index" : Str), V.non)])) p (.lst [.non])) := (s1.trans (same_upd' hd)).trans (same_upd' hp)
      exact k _ _ s2 (.inl ⟨hn, p, rfl, upd_same⟩)
end
end K51
set_option Elab.async false
set_option linter.all false
set_option maxRecDepth 100000
set_option maxHeartbeats 4000000
/-! _law_right -/
namespace K51
open PySem PySem.Spec PyProof.Rows L2
/-! ### plain -/
def optD : Option Nat → PyData
  | none => .none
  | some i => .int (i : Nat)
theorem optD_dp {K : PySem.W.Frag} {H : Hp} (o : Option Nat) : Dp K H (optV o) (optD o) := by
  cases o with
  | none => exact .non
  | some i => exact .int _
theorem optD_show {o : Option Nat} (h : ∀ i, o = some i → i ≤ 255) : ShowOk (optD o) := by
  cases o with
  | none => exact show_none
  | some i => exact show_int (Int.natCast_nonneg _) (by have := h i rfl; omega)
theorem put_ok {f : Fd} {v e c : Int} (h : c ∈ f.put v e) : 0 ≤ c ∧ c ≤ 255 := by
  unfold Fd.put at h
  obtain ⟨k, _, rfl⟩ := List.mem_map.mp h
  have h1 := Int.emod_nonneg (f.rest v e / 256 ^ k) (by decide : (256 : Int) ≠ 0)
  have h2 := Int.emod_lt_of_pos (f.rest v e / 256 ^ k) (by decide : (0 : Int) < 256)
  omega
theorem cells_ok {F : Fm} {ops : List Int} {ad : Int} (O : OkFm F) : ∀ c ∈ cellsBy F ops ad, 0 ≤ c ∧ c ≤ 255 := by
  intro c hc
  unfold cellsBy at hc
  rcases List.mem_append.mp hc with hc | hc
  · exact O.cell c hc
  · obtain ⟨p, _, hp⟩ := List.mem_flatMap.mp hc
    exact put_ok hp
theorem cells_len {F : Fm} {ops : List Int} {ad : Int} (O : OkFm F) : (cellsBy F ops ad).length ≤ 1000 := by
  have h := byTo_len F ops ad (F.fs.zip ops).length
  have e : byTo F ops ad (F.fs.zip ops).length = cellsBy F ops ad := by
    unfold byTo cellsBy
    rw [List.take_length]
  rw [e, List.length_zip] at h
  have := O.o3
  have := O.f4
  omega
def dMade (fms : List Fm) (ops : List Int) (ad : Int) : PyData := match firstFit fms ops ad 0 [] with
  | none => .list [.none]
  | some i => .tuple ((cellsBy (fms.getD i ⟨[], []⟩) ops ad).map PyData.int)
theorem made_dp {K : PySem.W.Frag} {fms : List Fm} {ops : List Int} {ad : Int} {H : Hp} {v : V} (h : MadeAs fms ops ad H v) : Dp K H v (dMade fms ops ad) := by
  unfold dMade
  rcases h with ⟨e, p, rfl, hp⟩ | ⟨i, F, p, e, hF, rfl, hp⟩
  · rw [e]
    exact .lst (SqL.of hp) (.cons .non .nil)
  · rw [e]
    have g : fms.getD i ⟨[], []⟩ = F := by rw [List.getD_eq_getElem?_getD, hF]; rfl
    simp only [g]
    exact .tup (SqT.of hp) (dp_ints _)
theorem made_show {fms : List Fm} {ops : List Int} {ad : Int} (O : ∀ F ∈ fms, OkFm F) : ShowOk (dMade fms ops ad) := by
  unfold dMade
  cases e : firstFit fms ops ad 0 [] with
  | none => exact show_lnone
  | some i =>
    have hi := first_in e
    have g : fms.getD i ⟨[], []⟩ = fms[i] := by rw [List.getD_eq_getElem?_getD, List.getElem?_eq_getElem hi]; rfl
    simp only [g]
    have o := O _ (List.getElem_mem hi)
    exact show_ints (cells_ok o) (cells_len o)
theorem scal_opt (a b : Option Nat) : scal (optV a) (optV b) = true := by cases a <;> cases b <;> rfl
section
variable {P : Program} {w : World} {K : PySem.W.Frag} {mg : Str → Option Value} {base : Heap} {C : Addr}
/-- what the walk asks of fitting: its promise, and how it binds -/
def FitM (P : Program) (w : World) (K : PySem.W.Frag) (mg : Str → Option Value) (base : Heap) (C : Addr) : Prop := ∃ ff fdf a0, Meth K C "fitting" ff ∧ FnOk P w K mg base CX0 6 ff fdf ["self", "name", "operands", "address", "first", "moving"] (spFit K C) ∧ (∀ H, SqT K H a0 []) ∧
  (∃ g, KBn K fdf ["self", "name", "operands", "address", "first", "moving"] 3 ["address", "first"] g (fun vs zs => vs ++ (zs ++ [V.ref a0]))) ∧
  (∃ g, KBn K fdf ["self", "name", "operands", "address", "first", "moving"] 3 ["address", "first", "moving"] g (fun vs zs => vs ++ (zs ++ []))) ∧
  (∃ g, KBn K fdf ["self", "name", "operands", "address", "first", "moving"] 3 ["moving"] g (fun vs zs => vs ++ ([V.int 0, V.int 0] ++ zs)))
def spRight (C : Addr) : Sp := fun vs H Q _ => ∃ (m t : Addr) (nm : Str) (fms : List Fm) (rows : List Row) (n : Nat) (v : V), vs = [.ref m, .ref t, .str nm, v] ∧ DrSt H m ∧ TabM C H t rows m ∧ (nm, fms) ∈ rows ∧ FmsV H fms v ∧ ShOk n fms ∧ n ≤ 4 ∧ ∀ H', Kp m H H' → Q (.bl true) H'
theorem sc71 : FnScope ["_law_m", "_law_some", "_law_title", "_law_shapes_here", "_law_far", "_law_given", "_law_here", "_law_shifts", "_law_low", "_law_due"] ["_law_m", "_law_some", "_law_title", "_law_shapes_here"] (defScope s71) := ⟨rfl, rfl, rfl, by decide +kernel, rfl, by decide +kernel, by decide +kernel⟩
/-- return repr(_law_made(..)) == repr(_law_due) -/
theorem right_tail {D : Ends} {m t : Addr} {nm : Str} {v u dv : V} {ad : Int} {s6 s7 s8 : Option V} {fms : List Fm} {rows : List Row} {ops : List Int} {H : Hp} (hT : TabAt C H t rows) (CO : CallOk rows nm fms ops ad) (hu : IntsV H ops u) (hd : Dp K H dv (dMade fms ops ad))
    (k : ∀ H', Same H H' → D.rt (.bl true) H') (st : ∀ H', Same H H' → Dp K H' dv (dMade fms ops ad)) :
    tRet (tOp rEq (tCB (rRepr K) (tCons (tCall (spMade C) [] E0 (tCons (tVar 1) (tCons (tVar 2) (tCons (tVar 5) (tCons (tVar 4) tNil))))) tNil)) (tCB (rRepr K) (tCons (tVar 9) tNil))) D [some (.ref m), some (.ref t), some (.str nm), some v, some (.int ad), some u, s6, s7, s8, some dv] H := by
  have sh := made_show (ops := ops) (ad := ad) fun F hF => (CO.fit.fm F hF).1
  refine ⟨_, rfl, _, rfl, _, rfl, _, rfl, t, nm, fms, rows, ops, ad, u, rfl, hT, CO, hu, fun mv H' s1 hm => ?_⟩
  refine ⟨mv, _, rfl, made_dp hm, sh, _, rfl, dv, _, rfl, st H' s1, sh, rfl, ?_⟩
  exact asV (Q := D.rt) (congrArg V.bl (decide_eq_true rfl)) (k H' s1)
theorem pow106 : (10 : Int) ^ (6 : Int).toNat = 1000000 := by decide
def farNs (r : Int) : List Int := [0, 1, 100, 65535, 2 ^ (32 : Int).toNat, r]
theorem far_ok {r : Int} (h0 : 0 ≤ r) (h1 : r < 1000000) : ∀ z ∈ farNs r, 0 ≤ z ∧ z ≤ 2 ^ 40 := by
  intro z hz
  have e : (2 : Int) ^ (32 : Int).toNat = 4294967296 := by decide
  have e2 : (2 : Int) ^ 40 = 1099511627776 := by decide
  unfold farNs at hz
  rw [e] at hz
  rw [e2]
  simp only [List.mem_cons, List.not_mem_nil, or_false] at hz
  omega
theorem ok_right (T : Tb mg) (D : Df K mg "_law_right" s71) (Z : TC K mg C) (W : Pm P w K mg base "_law_draw" 1 ["_law_m", "_law_size"] spDraw) (M : Pm P w K mg base "_law_pick" 2 ["_law_m", "_law_items"] spPick) (R : Pm P w K mg base "_law_near" 3 ["_law_m", "_law_shapes_here", "_law_far"] spNear)
    (F : Pm P w K mg base "_law_first" 4 ["_law_shapes_here", "_law_given", "_law_far", "_law_low", "_law_shifts"] (spFirst K)) (Cd : Pm P w K mg base "_law_coded" 3 ["_law_shape", "_law_given", "_law_far"] spBy) (Md : Pm P w K mg base "_law_made" 7 ["_law_some", "_law_title", "_law_given", "_law_far"] (spMade C)) (FM : FitM P w K mg base C) :
    PmG P w K mg base "_law_right" 8 ["_law_m", "_law_some", "_law_title", "_law_shapes_here"] (spRight C) := by
  obtain ⟨f, fd, hmg, FD⟩ := D
  obtain ⟨ff, fdf, a0, hm, FF, ha0, ⟨g1, KB1⟩, ⟨g2, KB2⟩, _⟩ := FM
  refine ⟨f, fd, hmg, FD.kp, FnG.of FD sc71 (fun vs H Q E h => ?_) (fun cdv A outer s H vs Q E hr hG h => ?_), FD.bindsN fun _ _ _ _ _ _ us hl => match us, hl with | [_, _, _, _], _ => rfl⟩
  · obtain ⟨m, t, nm, fms, rows, n, v, rfl, _⟩ := h
    rfl
  · obtain ⟨m, t, nm, fms, rows, n, v, rfl, hd, hT, hmem, hv, SO, hn4, k⟩ := h
    refine ⟨_, (pss_cons (ps_set (i := 4) sc71.nd rfl (Or.inl rfl) (pe_pm M (hr.mono (by decide)) (pa_cons (pv 0) (pa_cons (pe_lst (pa_cons pe_int (pa_cons pe_int (pa_cons pe_int (pa_cons pe_int (pa_cons (pe_op op_pow pe_int pe_int) (pa_cons (pe_pm W (hr.mono (by decide)) (pa_cons (pv 0) (pa_cons (pe_op op_pow pe_int pe_int) pa_nil))) pa_nil))))))) pa_nil))))
      (pss_cons (ps_set (i := 5) sc71.nd rfl (Or.inl rfl) (pe_pm R (hr.mono (by decide)) (pa_cons (pv 0) (pa_cons (pv 3) (pa_cons (pv 4) pa_nil)))))
      (pss_cons (ps_set (i := 7) sc71.nd rfl (Or.inl rfl) (pe_callTy call_tuple_of (by rfl) T.tuple bt_tuple (pa_cons (pe_lc (own := [("_law_here", 6)]) (g := gName 6) rfl sc71.nd (pi_range1 rfl T.range (pa_cons (pe_callB call_len_seq (by rfl) T.len PySem.boot_len (pa_cons (pv 5) pa_nil)) pa_nil)) (blkOk_by (N := ["_law_m", "_law_some", "_law_title", "_law_shapes_here", "_law_far", "_law_given", "_law_here", "_law_shifts", "_law_low", "_law_due"]) (sc := defScope s71) (by decide +kernel)) (fun _ _ _ _ _ => pg_name (i := 6) sc71.nd rfl (Or.inl rfl)) (fun _ _ _ _ _ => pts_one (pt_cmpR op_eq (pe_pm W (hr.mono (by decide)) (pa_cons (pv 0) (pa_cons pe_int pa_nil))) pe_int (nomark _))) (fun _ _ _ _ _ => (pv 6))) pa_nil)))
      (pss_cons (ps_for PassesOwn.never rfl (pi_range1 rfl T.range (pa_cons pe_int pa_nil)) (pg_name (i := 8) sc71.nd rfl (Or.inl rfl)) (pss_cons (ps_if (pt_cmpR op_ne (pe_methK (pv 1) Z.cl hm FF (hr.mono (by decide)) KB1 (pa_cons (pv 2) (pa_cons (pv 5) pa_nil)) (pk_cons (pv 4) (pk_cons (pv 8) pk_nil))) (pe_pm F (hr.mono (by decide)) (pa_cons (pv 3) (pa_cons (pv 5) (pa_cons (pv 4) (pa_cons (pv 8) (pa_cons (pe_tup pa_nil) pa_nil)))))) (nomark _)) (pss_one (ps_ret pe_bl)) pss_nil)
      (pss_cons (ps_set (i := 9) sc71.nd rfl (Or.inl rfl) (pe_pm F (hr.mono (by decide)) (pa_cons (pv 3) (pa_cons (pv 5) (pa_cons (pv 4) (pa_cons (pv 8) (pa_cons (pv 7) pa_nil)))))))
      (pss_one (ps_if (pt_cmpR op_ne (pe_callB (call_reprG hG hr.units) (by rfl) T.repr (by decide +kernel) (pa_cons (pe_methK (pv 1) Z.cl hm FF (hr.mono (by decide)) KB2 (pa_cons (pv 2) (pa_cons (pv 5) pa_nil)) (pk_cons (pv 4) (pk_cons (pv 8) (pk_cons (pv 7) pk_nil)))) pa_nil)) (pe_callB (call_reprG hG hr.units) (by rfl) T.repr (by decide +kernel) (pa_cons (pv 9) pa_nil)) (nomark _)) (pss_one (ps_ret pe_bl)) pss_nil)))))
      (pss_cons (ps_set (i := 6) sc71.nd rfl (Or.inl rfl) (pe_pm F (hr.mono (by decide)) (pa_cons (pv 3) (pa_cons (pv 5) (pa_cons (pv 4) (pa_cons pe_int (pa_cons (pe_tup pa_nil) pa_nil)))))))
      (pss_cons (ps_set (i := 9) sc71.nd rfl (Or.inl rfl) (pe_ifExp (pt_cmpR op_isN (pv 6) pe_non (nomark _)) (pe_lst (pa_cons pe_non pa_nil)) (pe_pm Cd (hr.mono (by decide)) (pa_cons (pe_ix ix_tup (pv 3) (pv 6) (fun _ _ => rfl)) (pa_cons (pv 5) (pa_cons (pv 4) pa_nil))))))
      (pss_one (ps_ret (pe_cmpR op_eq (pe_callB (call_reprG hG hr.units) (by rfl) T.repr (by decide +kernel) (pa_cons (pe_pm Md (hr.mono (by decide)) (pa_cons (pv 1) (pa_cons (pv 2) (pa_cons (pv 5) (pa_cons (pv 4) pa_nil))))) pa_nil)) (pe_callB (call_reprG hG hr.units) (by rfl) T.repr (by decide +kernel) (pa_cons (pv 9) pa_nil)) (nomark _)))))))))), ?_⟩
    have p32 : CPow 2 32 := ⟨by decide, by decide, by decide⟩
    have p6 : CPow 10 6 := ⟨by decide, by decide, by decide⟩
    refine ⟨_, rfl, _, _, rfl, rfl, p32, _, rfl, _, _, rfl, rfl, p6, m, _, rfl, hd, by decide, by decide, fun r H1 r0 r1 k1 => ⟨(by show 6 ≤ sizeLine; decide +kernel), fun l hl => ?_⟩⟩
    have k1' := (Kp.refl k1.d1).new (o := .lst ((farNs r).map V.int)) hl
    refine ⟨m, l, (farNs r).map V.int, rfl, k1'.d1, .inl upd_same, (by show 0 < 6; decide), (by show 6 ≤ 1000; decide), fun i fv H2 hfv k2 => ?_⟩
    rw [List.getElem?_map] at hfv
    obtain ⟨ad, had, rfl⟩ := Option.map_eq_some_iff.mp hfv
    obtain ⟨ad0, ad1⟩ := far_ok r0 (by rw [pow106] at r1; exact r1) ad (List.mem_of_getElem? had)
    have kp2 := (k1.trans k1').trans k2
    obtain ⟨F0, Fr, hF0⟩ : ∃ F0 Fr, fms = F0 :: Fr := by
      have := SO.one
      cases hf : fms with
      | nil => rw [hf] at this; exact absurd this (by decide)
      | cons a b => exact ⟨a, b, rfl⟩
    have hF0m : F0 ∈ fms := by rw [hF0]; exact List.mem_cons_self ..
    obtain ⟨o1, o2⟩ := SO.fm F0 hF0m
    have h3 := SO.three
    refine ⟨_, rfl, _, rfl, _, rfl, m, F0, Fr, v, ad, rfl, kp2.d1, hF0 ▸ hv.ts kp2.ts, fun G hG => ?_, ?_, fun p ops H3 k3 hp0 hp hol hok => ?_⟩
    · rw [← hF0] at hG
      obtain ⟨q1, q2⟩ := SO.fm G hG
      exact ⟨q1, by rw [q2, o2]⟩
    · rw [hF0, List.length_cons] at h3
      omega
    have kp3 := kp2.trans k3
    have hol' : ops.length = n := by rw [hol, o2]
    refine ⟨_, rfl, p, _, rfl, .inr (SqT.of hp), ((ops.map V.int).length : Nat), rfl, ?_, ?_, fun d hd0 => ?_⟩
    · omega
    · rw [List.length_map]
      omega
    refine lc_range (lo := 0) (n := (((ops.map V.int).length : Nat) : Int).toNat) (fun i H' => Kp m H3 H' ∧ ∃ sh : List Int, H' d = some (.lst (sh.map V.int)) ∧ sh.length ≤ i) ⟨(Kp.refl k3.d1).new hd0, [], upd_same, Nat.le_refl _⟩ ?_ ?_
    · rintro i H4 hi ⟨k4, sh, hs, hsl⟩
      rw [List.length_map] at hi
      refine ⟨rfl, _, rfl, m, 3, rfl, k4.d1, by decide, by decide, fun r2 H5 r20 r21 k5 => ⟨rfl, _, rfl, ite2 (fun c => ?_) fun c => ?_⟩⟩
      · refine ⟨_, rfl, _, k5.lst hs, ?_, (k4.trans k5).new hd0, sh ++ [0 + ((i : Nat) : Int)], ?_, ?_⟩
        · rw [List.length_map]
          exact lt1000 (by omega)
        · rw [upd_same, List.map_append]
          rfl
        · rw [List.length_append, List.length_singleton]
          omega
      · exact ⟨k4.trans k5, sh, k5.lst hs, Nat.le_succ_of_le hsl⟩
    rintro H4 ⟨k4, sh, hs, hsl⟩
    refine ⟨d, _, rfl, .inl ⟨SqL.of hs, fun q hq => ?_⟩⟩
    have k5 := (Kp.refl k4.d1).new (o := .tup (sh.map V.int)) hq
    have k35 := k4.trans k5
    have kp5 := kp3.trans k35
    have hT5 : TabAt C (upd H4 q (.tup (sh.map V.int))) t rows := (hT.kp kp5).at_
    have hv5 : FmsV (upd H4 q (.tup (sh.map V.int))) fms v := hv.ts kp5.ts
    have hu5 : IntsV (upd H4 q (.tup (sh.map V.int))) ops (.ref p) := ⟨p, rfl, k35.ts _ _ hp⟩
    have hq5 : (upd H4 q (.tup (sh.map V.int))) q = some (.tup (sh.map V.int)) := upd_same
    generalize upd H4 q (.tup (sh.map V.int)) = H5 at kp5 hT5 hv5 hu5 hq5
    have CO : CallOk rows nm fms ops ad := ⟨hmem, SO.one, ⟨fun G hG => ⟨(SO.fm G hG).1, by rw [(SO.fm G hG).2]; exact hol'⟩, by omega⟩, by omega, hok, ad0, ad1⟩
    refine ⟨5, rfl, by decide, by decide, for_range (n := 5) (lo := 0) (fun i σ' H' => ∃ t8 t9, σ' = [some (.ref m), some (.ref t), some (.str nm), some v, some (.int ad), some (.ref p), none, some (.ref q), t8, t9] ∧ Same H5 H') ⟨none, none, rfl, Same.refl _⟩ ?_ ?_⟩
    · rintro i σ' H' hi ⟨t8, t9, rfl, s5⟩
      obtain ⟨dx, d1, d2, rv, kvs, e1, e2, e3⟩ := id hT5
      have hlo : (0 + ((i : Nat) : Int)) = ((i : Nat) : Int) := Int.zero_add _
      have bnd : ∀ (mv : List Int) j, firstFit fms ops ad i mv = some j → j ≤ 255 := fun mv j hj => by
        have := first_in hj
        omega
      refine ⟨_, rfl, t, dx, _, rfl, s5 _ _ e1, rfl, _, rfl, _, rfl, _, rfl, _, rfl, rfl, rfl, t, nm, fms, rows, ops, ad, i, [], .ref p, .ref a0, ?_, hT5.sm s5, CO, hu5.ts (TS.of s5), ⟨a0, rfl, ha0 _⟩, by omega, fun H6 s6 => ?_⟩
      · rw [hlo]
        rfl
      have s56 := s5.trans s6
      refine ⟨_, rfl, _, rfl, _, rfl, _, rfl, le0, fun p2 hp2 => ?_⟩
      have s7 := same_upd' (o := .tup []) hp2
      have s57 := s56.trans s7
      refine ⟨fms, ops, ad, i, [], v, .ref p, .ref p2, ?_, hv5.ts (TS.of s57), CO.fit, hu5.ts (TS.of s57), ⟨p2, rfl, SqT.of upd_same⟩, by omega, fun H8 s8 => ?_⟩
      · rw [hlo]; rfl
      have s58 := s57.trans s8
      refine ⟨scal_opt _ _, _, rfl, ifF (by rw [decide_eq_true rfl] <;> rfl) ?_⟩
      refine ⟨_, rfl, _, rfl, _, rfl, _, rfl, _, rfl, fms, ops, ad, i, sh, v, .ref p, .ref q, ?_, hv5.ts (TS.of s58), CO.fit, hu5.ts (TS.of s58), ⟨q, rfl, SqT.of (s58 _ _ hq5)⟩, by omega, fun H9 s9 => ?_⟩
      · rw [hlo]; rfl
      have s59 := s58.trans s9
      refine ⟨_, rfl, t, dx, _, rfl, s59 _ _ e1, rfl, _, rfl, _, rfl, _, rfl, _, rfl, _, rfl, rfl, rfl, t, nm, fms, rows, ops, ad, i, sh, .ref p, .ref q, ?_, hT5.sm s59, CO, hu5.ts (TS.of s59), ⟨q, rfl, SqT.of (s59 _ _ hq5)⟩, by omega, fun Ha sa => ?_⟩
      · rw [hlo]
        rfl
      refine ⟨_, optD _, rfl, optD_dp _, optD_show (bnd sh), _, rfl, _, optD _, rfl, optD_dp _, optD_show (bnd sh), rfl, _, rfl, ifF (by rw [decide_eq_true rfl] <;> rfl) ?_⟩
      exact ⟨_, _, rfl, s59.trans sa⟩
    · rintro σ' H6 ⟨t8, t9, rfl, s6⟩
      refine ⟨_, rfl, _, rfl, _, rfl, le0, fun p2 hp2 => ?_⟩
      have s7 := s6.trans (same_upd' (o := .tup []) hp2)
      refine ⟨fms, ops, ad, 0, [], v, .ref p, .ref p2, rfl, hv5.ts (TS.of s7), CO.fit, hu5.ts (TS.of s7), ⟨p2, rfl, SqT.of upd_same⟩, Nat.zero_le _, fun H8 s8 => ?_⟩
      have s58 := s7.trans s8
      have fin : ∀ H', Same H5 H' → Q (.bl true) H' := fun H' s' => k H' (kp5.trans (Kp.of kp5.d1 s'))
      refine ⟨_, rfl, rfl, _, rfl, ?_⟩
      rw [optV_none]
      cases hff : firstFit fms ops ad 0 [] with
      | none =>
        refine iteT ⟨le1, fun z hz => ?_⟩
        have s9 := s58.trans (same_upd' (o := .lst [V.non]) hz)
        have hz9 : (upd H8 z (.lst [V.non])) z = some (.lst [V.non]) := upd_same
        have hM : ∀ H', H' z = some (.lst [V.non]) → Dp K H' (.ref z) (dMade fms ops ad) := fun H' e => by
          unfold dMade
          rw [hff]
          exact .lst (SqL.of e) (.cons .non .nil)
        exact right_tail (D := { nx := fun _ H' => Q .non H', rt := Q }) (hT5.sm s9) CO (hu5.ts (TS.of s9)) (hM _ hz9) (fun H' s' => fin H' (s9.trans s')) (fun H' s' => hM _ (s' _ _ hz9))
      | some i =>
        have hi := first_in hff
        obtain ⟨av, fvs, rfl, ha, hfs⟩ := hv5
        obtain ⟨Fi, hFi⟩ : ∃ Fi, fms[i]? = some Fi := ⟨fms[i], List.getElem?_eq_getElem hi⟩
        obtain ⟨fv, hfv, hFv⟩ := Paired.ta hfs hFi
        obtain ⟨q1, q2⟩ := CO.fit.fm Fi (List.mem_of_getElem? hFi)
        refine iteF ⟨_, rfl, _, rfl, av, _, _, fv, rfl, rfl, SqT.of (s58 _ _ ha), atI_nat (j := i) hfv, _, rfl, _, rfl, Fi, ops, ad, fv, .ref p, rfl, hFv.ts (TS.of s58), q1, hu5.ts (TS.of s58), q2, fun z H9 hz s9 hz9 => ?_⟩
        have s59 := s58.trans s9
        have hM : ∀ H', H' z = some (.tup ((cellsBy Fi ops ad).map V.int)) → Dp K H' (.ref z) (dMade fms ops ad) := fun H' e => made_dp (.inr ⟨i, Fi, z, hff, hFi, rfl, e⟩)
        exact right_tail (D := { nx := fun _ H' => Q .non H', rt := Q }) (hT5.sm s59) CO (hu5.ts (TS.of s59)) (hM _ hz9) (fun H' s' => fin H' (s59.trans s')) (fun H' s' => hM _ (s' _ _ hz9))
end
end K51
set_option Elab.async false
set_option linter.all false
set_option maxRecDepth 100000
set_option maxHeartbeats 4000000
/-! law -/
namespace K51
open PySem PySem.Spec PyProof.Rows L2
theorem Kp.seq {K : PySem.W.Frag} {m l : Addr} {H H1 : Hp} {xs : List V} (k : Kp m H H1) (h : SqL K H l xs) : SqL K H1 l xs := by
  rcases h with (h | ⟨o, h⟩) | h
  · exact .inl (.inl (k.lst h))
  · refine .inl (.inr ⟨o, k.keep l _ ?_ h⟩)
    obtain ⟨x, y, z, e⟩ := k.d0
    exact ne_of h e (by intro h; cases h)
  · exact .inr h
/-! ### the row told at the end -/
def fmL : List Fm := [⟨[1], [.n 1]⟩, ⟨[2], [.w .u .b1]⟩, ⟨[3], [.w .s .b4]⟩]
def rowsL : List Row := [("add", fmL)]
theorem okf1 : OkFm ⟨[1], [.n 1]⟩ := ⟨by decide, by decide, by decide, by decide, fun f hf => by
  obtain rfl := List.mem_singleton.mp hf
  unfold okF
  decide⟩
theorem okf2 : OkFm ⟨[2], [.w .u .b1]⟩ := ⟨by decide, by decide, by decide, by decide, fun f hf => by
  obtain rfl := List.mem_singleton.mp hf
  trivial⟩
theorem okf3 : OkFm ⟨[3], [.w .s .b4]⟩ := ⟨by decide, by decide, by decide, by decide, fun f hf => by
  obtain rfl := List.mem_singleton.mp hf
  trivial⟩
theorem okL : ∀ F ∈ fmL, OkFm F ∧ F.fs.length = 1 := fun F hF => by
  simp only [fmL, List.mem_cons, List.not_mem_nil, or_false] at hF
  rcases hF with rfl | rfl | rfl
  · exact ⟨okf1, rfl⟩
  · exact ⟨okf2, rfl⟩
  · exact ⟨okf3, rfl⟩
theorem shL : ShOk 1 fmL := ⟨by decide, by decide, okL, fun i F G h1 h2 => by
  match i with
  | 0 =>
    obtain rfl := Option.some.inj h1
    obtain rfl := Option.some.inj h2
    decide
  | 1 =>
    obtain rfl := Option.some.inj h1
    obtain rfl := Option.some.inj h2
    decide
  | i + 2 => cases h2⟩
theorem tabL : TabOk rowsL := ⟨by decide, by decide, by decide +kernel, fun r hr => by
  obtain rfl := List.mem_singleton.mp hr
  exact nameB_ok (by decide +kernel), fun r hr => by
  obtain rfl := List.mem_singleton.mp hr
  exact ⟨1, by decide, shL⟩, by
  unfold PFree
  decide +kernel⟩
theorem callL {v : Int} (h0 : 0 - 2 ^ 64 ≤ v) (h1 : v ≤ 2 ^ 64) : CallOk rowsL "add" fmL [v] 0 := ⟨List.mem_singleton.mpr rfl, by decide, ⟨fun F hF => ⟨(okL F hF).1, ((okL F hF).2).symm⟩, by decide⟩, (by show (1 : Nat) ≤ 4; decide), fun x hx => by
  obtain rfl := List.mem_singleton.mp hx
  exact ⟨h0, h1⟩, by decide, by decide⟩
theorem tl1 : ∃ i F, firstFit fmL [1] 0 0 [] = some i ∧ fmL[i]? = some F ∧ cellsBy F [1] 0 = [1] := ⟨0, _, by decide +kernel, rfl, by decide +kernel⟩
theorem tl2 : ∃ i F, firstFit fmL [2] 0 0 [] = some i ∧ fmL[i]? = some F ∧ cellsBy F [2] 0 = [2, 2] := ⟨1, _, by decide +kernel, rfl, by decide +kernel⟩
theorem tl3 : ∃ i F, firstFit fmL [0 - 1] 0 0 [] = some i ∧ fmL[i]? = some F ∧ cellsBy F [0 - 1] 0 = [3, 255, 255, 255, 255] := ⟨2, _, by decide +kernel, rfl, by decide +kernel⟩
theorem tl4 : firstFit fmL [1] 0 0 [0] = some 1 := by decide +kernel
theorem dueD : PyData.eqv (.list [.tuple ([1].map PyData.int), .tuple ([2, 2].map PyData.int), .tuple ([3, 255, 255, 255, 255].map PyData.int), .int 1]) (.list [.tuple ([1].map PyData.int), .tuple ([2, 2].map PyData.int), .tuple ([3, 255, 255, 255, 255].map PyData.int), .int 1]) = true := by
  simp [PyData.eqv, PyData.eqvAll]
theorem dueS : SeqAt.shaped (.list [.tuple ([1].map PyData.int), .tuple ([2, 2].map PyData.int), .tuple ([3, 255, 255, 255, 255].map PyData.int), .int 1]) = true := by decide +kernel
section
variable {P : Program} {w : World} {K : PySem.W.Frag} {mg : Str → Option Value} {base : Heap} {C Ce fI fc pO gO : Addr}
/-- one telling of the table -/
theorem tellL {v : Int} {cs : List Int} {H : Hp} {t p : Addr} {Q : VK} (hc : ∃ i F, firstFit fmL [v] 0 0 [] = some i ∧ fmL[i]? = some F ∧ cellsBy F [v] 0 = cs) (h0 : 0 - 2 ^ 64 ≤ v) (h1 : v ≤ 2 ^ 64) (hT : TabAt C H t rowsL) (hp : H p = some (.tup [.int v]))
    (k : ∀ q H', Same H H' → H' q = some (.tup (cs.map V.int)) → Q (.ref q) H') : spCall C Ce ([.ref t, .str "add", .ref p] ++ [.int 0]) H Q E0 := by
  obtain ⟨i, F, e1, e2, e3⟩ := hc
  refine ⟨t, "add", fmL, rowsL, [v], 0, .ref p, rfl, hT, callL h0 h1, ⟨p, rfl, hp⟩, fun j G hj hG q H' _ s' hq => ?_, fun hn => ?_⟩
  · rw [e1] at hj
    obtain rfl := Option.some.inj hj
    rw [e2] at hG
    obtain rfl := Option.some.inj hG
    rw [e3] at hq
    exact k q H' s' hq
  · rw [e1] at hn
    cases hn
theorem init_goG {x dx : Addr} {rvs : List V} {rows : List Row} {H : Hp} {G : Hp → Prop} (hx : H x = none) (hdx : H dx = none) (ne : dx ≠ x) (hrs : Paired (RowV H) rows rvs) (TO : TabOk rows) (k : ∀ H', Same H H' → TabF C H H' x rows → G H') :
    spInit C (V.ref x :: rvs) (upd (upd H dx (.own x)) x (.ins C dx [])) (fun v H2 => v = .non ∧ G H2) E0 := init_go (Q := fun _ H' => G H') hx hdx ne hrs TO k
def spLaw (K : PySem.W.Frag) : Sp := fun vs H Q _ => ∃ (a : Addr) (ns : List Int), vs = [.ref a] ∧ SqL K H a (ns.map V.int) ∧ ns.length ≤ 63 ∧ ∀ H', Q (.bl true) H'
theorem sc72 : FnScope ["_law_script", "_law_spot", "_law_m", "_law_plan_here", "_law_some", "_law_title", "_law_shapes_here", "_law_turn", "_law_low", "_law_told"] ["_law_script"] (defScope s72) := ⟨rfl, rfl, rfl, by decide +kernel, rfl, by decide +kernel, by decide +kernel⟩
theorem ok_law {f : Addr} {fd : FuncData} {x : Str} (T : Tb mg) (FD : FunD K x x (defArgs s72) (defBody s72) (defScope s72) [] [] f fd) (Z : TC K mg C) (BG : Pm P w K mg base "_law_begin" 1 ["_law_script", "_law_spot"] (spBegin K)) (PL : Pm P w K mg base "_law_plan" 5 ["_law_m"] spPlan)
    (CR : ClX.CRead K C (.type "type")) (CM : ClX.CMet K C (.type "type") "of" pO gO) (FO : L2.FnR P w K mg base CX0 9 gO (fun vs H Q E => spOf C (vs ++ []) H Q E)) (R : PmG P w K mg base "_law_right" 8 ["_law_m", "_law_some", "_law_title", "_law_shapes_here"] (spRight C))
    (M : Mk K C fI) (FI : L2.FnR P w K mg base CX0 7 fI (spInit C)) (CO : StX.CallO K C fc) (FC : L2.FnR P w K mg base (L2.CX P w) 6 fc (fun vs H Q E => spCall C Ce (vs ++ [.int 0]) H Q E)) (FM : FitM P w K mg base C) :
    FnG P w K mg base 10 f fd ["_law_script"] (spLaw K) := by
  obtain ⟨ff, fdf, a0, hm, FF, ha0, _, _, ⟨g3, KB3⟩⟩ := FM
  refine FnG.of FD sc72 (fun vs H Q E h => ?_) fun cdv A outer s H vs Q E hr hG h => ?_
  · obtain ⟨a, ns, rfl, _⟩ := h
    rfl
  · obtain ⟨a, ns, rfl, hS, h63, k⟩ := h
    refine ⟨_, pss_cons (ps_for PassesOwn.never rfl (pi_range1 rfl T.range (pa_cons (pe_op op_add pe_int (pe_callB (call_min2 rfl) (by rfl) T.min (by decide +kernel) (pa_cons pe_int (pa_cons (pe_callB call_len_seq (by rfl) T.len PySem.boot_len (pa_cons (pv 0) pa_nil)) pa_nil)))) pa_nil)) (pg_name (i := 1) sc72.nd rfl (Or.inl rfl))
        (pss_cons (ps_set (i := 2) sc72.nd rfl (Or.inl rfl) (pe_pm BG (hr.mono (by decide)) (pa_cons (pv 0) (pa_cons (pv 1) pa_nil))))
        (pss_cons (ps_set (i := 3) sc72.nd rfl (Or.inl rfl) (pe_pm PL (hr.mono (by decide)) (pa_cons (pv 2) pa_nil)))
        (pss_cons (ps_set (i := 4) sc72.nd rfl (Or.inl rfl) (ClX.pe_cmeth (pe_glob (v := .ref C) rfl Z.mgC rfl) CR CM FO (hr.mono (by decide)) pass0 (pa_cons (pv 3) pa_nil)))
        (pss_one (ps_for PassesOwn.never rfl (pi_tup (pv 3)) (pg_tup rfl (pgs_cons (pg_name (i := 5) sc72.nd rfl (Or.inl rfl)) (pgs_cons (pg_name (i := 6) sc72.nd rfl (Or.inl rfl)) pgs_nil)))
          (pss_one (ps_for PassesOwn.never rfl (pi_range1 rfl T.range (pa_cons pe_int pa_nil)) (pg_name (i := 7) sc72.nd rfl (Or.inl rfl)) (pss_one (ps_if (pt_not (pt_val (pe_pmG R (hr.mono (by decide)) hG (pa_cons (pv 2) (pa_cons (pv 4) (pa_cons (pv 5) (pa_cons (pv 6) pa_nil))))))) (pss_one (ps_ret pe_bl)) pss_nil))))))))))
      (pss_cons (ps_set (i := 8) sc72.nd rfl (Or.inl rfl) (StX.pe_makeR M FI (hr.mono (by decide)) rfl Z.mgC pass0 (pa_cons (pe_tup (pa_cons pe_str (pa_cons (pe_tup (pa_cons (pe_tup (pa_cons (pe_tup (pa_cons pe_int pa_nil)) (pa_cons (pe_tup (pa_cons (pe_tup (pa_cons pe_str (pa_cons pe_int pa_nil))) pa_nil)) pa_nil))) (pa_cons (pe_tup (pa_cons (pe_tup (pa_cons pe_int pa_nil)) (pa_cons (pe_tup (pa_cons pe_str pa_nil)) pa_nil))) (pa_cons (pe_tup (pa_cons (pe_tup (pa_cons pe_int pa_nil)) (pa_cons (pe_tup (pa_cons pe_str pa_nil)) pa_nil))) pa_nil)))) pa_nil))) pa_nil)))
      (pss_cons (ps_set (i := 9) sc72.nd rfl (Or.inl rfl) (pe_lst (pa_cons (StX.pe_callO (pv 8) CO FC (hr.mono (by decide)) passCX (pa_cons pe_str (pa_cons (pe_tup (pa_cons pe_int pa_nil)) pa_nil))) (pa_cons (StX.pe_callO (pv 8) CO FC (hr.mono (by decide)) passCX (pa_cons pe_str (pa_cons (pe_tup (pa_cons pe_int pa_nil)) pa_nil))) (pa_cons (StX.pe_callO (pv 8) CO FC (hr.mono (by decide)) passCX (pa_cons pe_str (pa_cons (pe_tup (pa_cons (pe_op op_sub pe_int pe_int) pa_nil)) pa_nil))) (pa_cons (pe_methK (pv 8) Z.cl hm FF (hr.mono (by decide)) KB3 (pa_cons pe_str (pa_cons (pe_tup (pa_cons pe_int pa_nil)) pa_nil)) (pk_cons (pe_tup (pa_cons pe_int pa_nil)) pk_nil)) pa_nil))))))
      (pss_one (ps_ret (pe_cmpR (op_eqD hr.units) (pv 9) (pe_lst (pa_cons (pe_tup (pa_cons pe_int pa_nil)) (pa_cons (pe_tup (pa_cons pe_int (pa_cons pe_int pa_nil))) (pa_cons (pe_tup (pa_cons pe_int (pa_cons pe_int (pa_cons pe_int (pa_cons pe_int (pa_cons pe_int pa_nil)))))) (pa_cons pe_int pa_nil))))) (nomark _)))))), ?_⟩
    refine ⟨_, rfl, a, _, rfl, .inl hS, 3, ((ns.map V.int).length : Nat), rfl, _, _, rfl, rfl, _, rfl, ?_, ?_, for_range (lo := 0) (n := (1 + (if (((ns.map V.int).length : Nat) : Int) < 3 then (((ns.map V.int).length : Nat) : Int) else 3)).toNat) (fun i σ' H' => ∃ t1 t2 t3 t4 t5 t6 t7, σ' = [some (.ref a), t1, t2, t3, t4, t5, t6, t7, none, none] ∧ SqL K H' a (ns.map V.int)) ⟨none, none, none, none, none, none, none, rfl, hS⟩ ?_ ?_⟩
    · split <;> omega
    · rw [List.length_map]
      have : (63 : Int) < 1000 := by decide
      split <;> omega
    · rintro i σ' H' hi ⟨t1, t2, t3, t4, t5, t6, t7, rfl, hS'⟩
      have ei : (0 + ((i : Nat) : Int)) = ((i : Nat) : Int) := Int.zero_add _
      refine ⟨_, rfl, _, rfl, a, ns, i, by rw [ei]; rfl, hS', fun m H1 hm0 s1 d1 => ?_⟩
      refine ⟨_, rfl, m, rfl, d1, fun v rows H2 k2 hR TO => ?_⟩
      refine ⟨rfl, _, rfl, rows, v, rfl, hR, TO, fun t H3 ht s3 hT => ?_⟩
      have hTM := hT.tm k2.d1
      have hR3 := hR
      obtain ⟨b, rvs, rfl, hb, hrs⟩ := hR3
      have k3 := k2.trans (Kp.of k2.d1 s3)
      have hS3 : SqL K H3 a (ns.map V.int) := k3.seq (s1.seq hS')
      refine ⟨_, rfl, b, rfl, ⟨rvs, SqT.of (s3 _ _ hb)⟩, for_tup (K := K) (a := b) (xs := rvs) (fun j σ' H' => ∃ t5 t6 t7, σ' = [some (.ref a), some (.int (0 + (i : Nat))), some (.ref m), some (.ref b), some (.ref t), t5, t6, t7, none, none] ∧ Kp m H3 H') ⟨_, _, _, rfl, Kp.refl (Kp.of k2.d1 s3).d1⟩ ?_ ?_ ?_⟩
      · rintro j σ' H' _ ⟨t5, t6, t7, rfl, k4⟩
        exact SqT.of (k4.ts _ _ (s3 _ _ hb))
      · rintro j rv σ' H4 hj ⟨t5, t6, t7, rfl, k4⟩
        obtain ⟨r, hr0, q, y, rfl, hq, hy⟩ := Paired.at hrs hj
        have t24 : TS H2 H4 := (TS.of s3).trans k4.ts
        obtain ⟨n, hn4, SO⟩ := TO.sh r (List.mem_of_getElem? hr0)
        refine ⟨q, _, rfl, SqT.of (t24 _ _ hq), rfl, _, _, rfl, _, _, rfl, rfl, 8, rfl, by decide, by decide, for_range (lo := 0) (n := 8) (fun l σ' H' => ∃ t7, σ' = [some (.ref a), some (.int (0 + (i : Nat))), some (.ref m), some (.ref b), some (.ref t), some (.str r.1), some y, t7, none, none] ∧ Kp m H3 H') ⟨_, rfl, k4⟩ ?_ ?_⟩
        · rintro l σ' H5 hl ⟨t7, rfl, k5⟩
          refine ⟨_, rfl, _, rfl, _, rfl, _, rfl, m, t, r.1, r.2, rows, n, y, rfl, k5.d1, hTM.kp k5, List.mem_of_getElem? hr0, hy.ts ((TS.of s3).trans k5.ts), SO, hn4, fun H6 k6 => ?_⟩
          exact ⟨true, rfl, ifF rfl ⟨_, rfl, k5.trans k6⟩⟩
        · rintro σ' H5 ⟨t7, rfl, k5⟩
          exact ⟨_, _, _, rfl, k5⟩
      · rintro σ' H4 ⟨t5, t6, t7, rfl, k4⟩
        exact ⟨_, _, _, _, _, _, _, rfl, k4.seq hS3⟩
    · rintro σ' H1 ⟨t1, t2, t3, t4, t5, t6, t7, rfl, hS'⟩
      clear hS hS'
      refine ⟨(by show 1 ≤ sizeLine; decide +kernel), fun p1 np1 => ?_⟩
      obtain ⟨z1, y1⟩ : Same H1 (upd H1 p1 (.tup [V.int 1])) ∧ (upd H1 p1 (.tup [V.int 1])) p1 = some (.tup [V.int 1]) := ⟨same_upd' np1, upd_same⟩
      generalize upd H1 p1 (.tup [V.int 1]) = G1 at z1 y1 ⊢
      refine ⟨(by show 2 ≤ sizeLine; decide +kernel), fun p2 np2 => ?_⟩
      obtain ⟨z2, y2⟩ : Same G1 (upd G1 p2 (.tup [V.str "n", V.int 1])) ∧ (upd G1 p2 (.tup [V.str "n", V.int 1])) p2 = some (.tup [V.str "n", V.int 1]) := ⟨same_upd' np2, upd_same⟩
      generalize upd G1 p2 (.tup [V.str "n", V.int 1]) = G2 at z2 y2 ⊢
      replace y1 := z2 _ _ y1
      refine ⟨(by show 1 ≤ sizeLine; decide +kernel), fun p3 np3 => ?_⟩
      obtain ⟨z3, y3⟩ : Same G2 (upd G2 p3 (.tup [V.ref p2])) ∧ (upd G2 p3 (.tup [V.ref p2])) p3 = some (.tup [V.ref p2]) := ⟨same_upd' np3, upd_same⟩
      generalize upd G2 p3 (.tup [V.ref p2]) = G3 at z3 y3 ⊢
      replace y1 := z3 _ _ y1
      replace y2 := z3 _ _ y2
      refine ⟨(by show 2 ≤ sizeLine; decide +kernel), fun p4 np4 => ?_⟩
      obtain ⟨z4, y4⟩ : Same G3 (upd G3 p4 (.tup [V.ref p1, V.ref p3])) ∧ (upd G3 p4 (.tup [V.ref p1, V.ref p3])) p4 = some (.tup [V.ref p1, V.ref p3]) := ⟨same_upd' np4, upd_same⟩
      generalize upd G3 p4 (.tup [V.ref p1, V.ref p3]) = G4 at z4 y4 ⊢
      replace y1 := z4 _ _ y1
      replace y2 := z4 _ _ y2
      replace y3 := z4 _ _ y3
      refine ⟨(by show 1 ≤ sizeLine; decide +kernel), fun p5 np5 => ?_⟩
      obtain ⟨z5, y5⟩ : Same G4 (upd G4 p5 (.tup [V.int 2])) ∧ (upd G4 p5 (.tup [V.int 2])) p5 = some (.tup [V.int 2]) := ⟨same_upd' np5, upd_same⟩
      generalize upd G4 p5 (.tup [V.int 2]) = G5 at z5 y5 ⊢
      replace y1 := z5 _ _ y1
      replace y2 := z5 _ _ y2
      replace y3 := z5 _ _ y3
      replace y4 := z5 _ _ y4
      refine ⟨(by show 1 ≤ sizeLine; decide +kernel), fun p6 np6 => ?_⟩
      obtain ⟨z6, y6⟩ : Same G5 (upd G5 p6 (.tup [V.str "u1"])) ∧ (upd G5 p6 (.tup [V.str "u1"])) p6 = some (.tup [V.str "u1"]) := ⟨same_upd' np6, upd_same⟩
      generalize upd G5 p6 (.tup [V.str "u1"]) = G6 at z6 y6 ⊢
      replace y1 := z6 _ _ y1
      replace y2 := z6 _ _ y2
      replace y3 := z6 _ _ y3
      replace y4 := z6 _ _ y4
      replace y5 := z6 _ _ y5
      refine ⟨(by show 2 ≤ sizeLine; decide +kernel), fun p7 np7 => ?_⟩
      obtain ⟨z7, y7⟩ : Same G6 (upd G6 p7 (.tup [V.ref p5, V.ref p6])) ∧ (upd G6 p7 (.tup [V.ref p5, V.ref p6])) p7 = some (.tup [V.ref p5, V.ref p6]) := ⟨same_upd' np7, upd_same⟩
      generalize upd G6 p7 (.tup [V.ref p5, V.ref p6]) = G7 at z7 y7 ⊢
      replace y1 := z7 _ _ y1
      replace y2 := z7 _ _ y2
      replace y3 := z7 _ _ y3
      replace y4 := z7 _ _ y4
      replace y5 := z7 _ _ y5
      replace y6 := z7 _ _ y6
      refine ⟨(by show 1 ≤ sizeLine; decide +kernel), fun p8 np8 => ?_⟩
      obtain ⟨z8, y8⟩ : Same G7 (upd G7 p8 (.tup [V.int 3])) ∧ (upd G7 p8 (.tup [V.int 3])) p8 = some (.tup [V.int 3]) := ⟨same_upd' np8, upd_same⟩
      generalize upd G7 p8 (.tup [V.int 3]) = G8 at z8 y8 ⊢
      replace y1 := z8 _ _ y1
      replace y2 := z8 _ _ y2
      replace y3 := z8 _ _ y3
      replace y4 := z8 _ _ y4
      replace y5 := z8 _ _ y5
      replace y6 := z8 _ _ y6
      replace y7 := z8 _ _ y7
      refine ⟨(by show 1 ≤ sizeLine; decide +kernel), fun p9 np9 => ?_⟩
      obtain ⟨z9, y9⟩ : Same G8 (upd G8 p9 (.tup [V.str "s4"])) ∧ (upd G8 p9 (.tup [V.str "s4"])) p9 = some (.tup [V.str "s4"]) := ⟨same_upd' np9, upd_same⟩
      generalize upd G8 p9 (.tup [V.str "s4"]) = G9 at z9 y9 ⊢
      replace y1 := z9 _ _ y1
      replace y2 := z9 _ _ y2
      replace y3 := z9 _ _ y3
      replace y4 := z9 _ _ y4
      replace y5 := z9 _ _ y5
      replace y6 := z9 _ _ y6
      replace y7 := z9 _ _ y7
      replace y8 := z9 _ _ y8
      refine ⟨(by show 2 ≤ sizeLine; decide +kernel), fun p10 np10 => ?_⟩
      obtain ⟨z10, y10⟩ : Same G9 (upd G9 p10 (.tup [V.ref p8, V.ref p9])) ∧ (upd G9 p10 (.tup [V.ref p8, V.ref p9])) p10 = some (.tup [V.ref p8, V.ref p9]) := ⟨same_upd' np10, upd_same⟩
      generalize upd G9 p10 (.tup [V.ref p8, V.ref p9]) = G10 at z10 y10 ⊢
      replace y1 := z10 _ _ y1
      replace y2 := z10 _ _ y2
      replace y3 := z10 _ _ y3
      replace y4 := z10 _ _ y4
      replace y5 := z10 _ _ y5
      replace y6 := z10 _ _ y6
      replace y7 := z10 _ _ y7
      replace y8 := z10 _ _ y8
      replace y9 := z10 _ _ y9
      refine ⟨(by show 3 ≤ sizeLine; decide +kernel), fun p11 np11 => ?_⟩
      obtain ⟨z11, y11⟩ : Same G10 (upd G10 p11 (.tup [V.ref p4, V.ref p7, V.ref p10])) ∧ (upd G10 p11 (.tup [V.ref p4, V.ref p7, V.ref p10])) p11 = some (.tup [V.ref p4, V.ref p7, V.ref p10]) := ⟨same_upd' np11, upd_same⟩
      generalize upd G10 p11 (.tup [V.ref p4, V.ref p7, V.ref p10]) = G11 at z11 y11 ⊢
      replace y1 := z11 _ _ y1
      replace y2 := z11 _ _ y2
      replace y3 := z11 _ _ y3
      replace y4 := z11 _ _ y4
      replace y5 := z11 _ _ y5
      replace y6 := z11 _ _ y6
      replace y7 := z11 _ _ y7
      replace y8 := z11 _ _ y8
      replace y9 := z11 _ _ y9
      replace y10 := z11 _ _ y10
      refine ⟨(by show 2 ≤ sizeLine; decide +kernel), fun p12 np12 => ?_⟩
      obtain ⟨z12, y12⟩ : Same G11 (upd G11 p12 (.tup [V.str "add", V.ref p11])) ∧ (upd G11 p12 (.tup [V.str "add", V.ref p11])) p12 = some (.tup [V.str "add", V.ref p11]) := ⟨same_upd' np12, upd_same⟩
      generalize upd G11 p12 (.tup [V.str "add", V.ref p11]) = G12 at z12 y12 ⊢
      replace y1 := z12 _ _ y1
      replace y2 := z12 _ _ y2
      replace y3 := z12 _ _ y3
      replace y4 := z12 _ _ y4
      replace y5 := z12 _ _ y5
      replace y6 := z12 _ _ y6
      replace y7 := z12 _ _ y7
      replace y8 := z12 _ _ y8
      replace y9 := z12 _ _ y9
      replace y10 := z12 _ _ y10
      replace y11 := z12 _ _ y11
      have hrow : Paired (RowV G12) rowsL [V.ref p12] := .cons ⟨p12, _, rfl, y12, p11, _, rfl, y11, .cons ⟨p4, _, _, rfl, y4, ⟨p1, rfl, y1⟩, p3, _, rfl, y3, .cons ⟨p2, rfl, y2⟩ .nil⟩ (.cons ⟨p7, _, _, rfl, y7, ⟨p5, rfl, y5⟩, p6, _, rfl, y6, .cons rfl .nil⟩ (.cons ⟨p10, _, _, rfl, y10, ⟨p8, rfl, y8⟩, p9, _, rfl, y9, .cons rfl .nil⟩ .nil))⟩ .nil
      refine fun t dx ht hdx ne => init_goG ht hdx ne hrow tabL fun H2 s2 hT0 => ?_
      have hT : TabAt C H2 t rowsL := hT0.at_
      clear hT0 hrow
      obtain ⟨dx2, d1, d2, rv, kvs, e1, e2, e3⟩ := id hT
      refine ⟨_, rfl, t, rfl, le1, fun q0 nq0 => ?_⟩
      obtain ⟨a0, b0⟩ : Same H2 (upd H2 q0 (.tup [V.int 1])) ∧ (upd H2 q0 (.tup [V.int 1])) q0 = some (.tup [V.int 1]) := ⟨same_upd' nq0, upd_same⟩
      generalize upd H2 q0 (.tup [V.int 1]) = I0 at a0 b0 ⊢
      replace hT := hT.sm a0
      replace e1 := a0 _ _ e1
      refine ⟨.inr ⟨dx2, _, e1⟩, tellL tl1 (by decide) (by decide) hT b0 fun r0 J0 w0 c0 => ?_⟩
      replace hT := hT.sm w0
      replace e1 := w0 _ _ e1
      refine ⟨_, rfl, t, rfl, le1, fun q1 nq1 => ?_⟩
      obtain ⟨a1, b1⟩ : Same J0 (upd J0 q1 (.tup [V.int 2])) ∧ (upd J0 q1 (.tup [V.int 2])) q1 = some (.tup [V.int 2]) := ⟨same_upd' nq1, upd_same⟩
      generalize upd J0 q1 (.tup [V.int 2]) = I1 at a1 b1 ⊢
      replace hT := hT.sm a1
      replace e1 := a1 _ _ e1
      replace c0 := a1 _ _ c0
      refine ⟨.inr ⟨dx2, _, e1⟩, tellL tl2 (by decide) (by decide) hT b1 fun r1 J1 w1 c1 => ?_⟩
      replace hT := hT.sm w1
      replace e1 := w1 _ _ e1
      replace c0 := w1 _ _ c0
      refine ⟨_, rfl, t, rfl, _, _, rfl, rfl, le1, fun q2 nq2 => ?_⟩
      obtain ⟨a2, b2⟩ : Same J1 (upd J1 q2 (.tup [V.int (0 - 1)])) ∧ (upd J1 q2 (.tup [V.int (0 - 1)])) q2 = some (.tup [V.int (0 - 1)]) := ⟨same_upd' nq2, upd_same⟩
      generalize upd J1 q2 (.tup [V.int (0 - 1)]) = I2 at a2 b2 ⊢
      replace hT := hT.sm a2
      replace e1 := a2 _ _ e1
      replace c0 := a2 _ _ c0
      replace c1 := a2 _ _ c1
      refine ⟨.inr ⟨dx2, _, e1⟩, tellL tl3 (by decide) (by decide) hT b2 fun r2 J2 w2 c2 => ?_⟩
      replace hT := hT.sm w2
      replace e1 := w2 _ _ e1
      replace c0 := w2 _ _ c0
      replace c1 := w2 _ _ c1
      refine ⟨_, rfl, t, dx2, _, rfl, e1, rfl, le1, fun o1 no1 => ?_⟩
      obtain ⟨f1, g1⟩ : Same J2 (upd J2 o1 (.tup [V.int 1])) ∧ (upd J2 o1 (.tup [V.int 1])) o1 = some (.tup [V.int 1]) := ⟨same_upd' no1, upd_same⟩
      generalize upd J2 o1 (.tup [V.int 1]) = L1 at f1 g1 ⊢
      refine ⟨le1, fun o2 no2 => ?_⟩
      obtain ⟨f2, g2⟩ : Same L1 (upd L1 o2 (.tup [V.int 0])) ∧ (upd L1 o2 (.tup [V.int 0])) o2 = some (.tup [V.int 0]) := ⟨same_upd' no2, upd_same⟩
      generalize upd L1 o2 (.tup [V.int 0]) = L2 at f2 g2 ⊢
      have f12 := f1.trans f2
      refine ⟨rfl, rfl, t, "add", fmL, rowsL, [1], 0, 0, [0], .ref o1, .ref o2, rfl, hT.sm f12, callL (by decide) (by decide), ⟨o1, rfl, f2 _ _ g1⟩, ⟨o2, rfl, SqT.of g2⟩, Nat.zero_le _, fun L3 f3 => ?_⟩
      rw [tl4]
      have f13 := f12.trans f3
      replace c0 := f13 _ _ c0
      replace c1 := f13 _ _ c1
      replace c2 := f13 _ _ c2
      refine ⟨(by show 4 ≤ sizeLine; decide +kernel), fun l nl => ?_⟩
      obtain ⟨f4, g4⟩ : Same L3 (upd L3 l (.lst [V.ref r0, V.ref r1, V.ref r2, optV (some 1)])) ∧ (upd L3 l (.lst [V.ref r0, V.ref r1, V.ref r2, optV (some 1)])) l = some (.lst [V.ref r0, V.ref r1, V.ref r2, optV (some 1)]) := ⟨same_upd' nl, upd_same⟩
      generalize upd L3 l (.lst [V.ref r0, V.ref r1, V.ref r2, optV (some 1)]) = L4 at f4 g4 ⊢
      replace c0 := f4 _ _ c0
      replace c1 := f4 _ _ c1
      replace c2 := f4 _ _ c2
      refine ⟨_, rfl, ?_⟩
      refine ⟨(by show 1 ≤ sizeLine; decide +kernel), fun u0 nu0 => ?_⟩
      obtain ⟨k0, m0⟩ : Same L4 (upd L4 u0 (.tup [V.int 1])) ∧ (upd L4 u0 (.tup [V.int 1])) u0 = some (.tup [V.int 1]) := ⟨same_upd' nu0, upd_same⟩
      generalize upd L4 u0 (.tup [V.int 1]) = M0 at k0 m0 ⊢
      replace c0 := k0 _ _ c0
      replace c1 := k0 _ _ c1
      replace c2 := k0 _ _ c2
      replace g4 := k0 _ _ g4
      refine ⟨(by show 2 ≤ sizeLine; decide +kernel), fun u1 nu1 => ?_⟩
      obtain ⟨k1, m1⟩ : Same M0 (upd M0 u1 (.tup [V.int 2, V.int 2])) ∧ (upd M0 u1 (.tup [V.int 2, V.int 2])) u1 = some (.tup [V.int 2, V.int 2]) := ⟨same_upd' nu1, upd_same⟩
      generalize upd M0 u1 (.tup [V.int 2, V.int 2]) = M1 at k1 m1 ⊢
      replace c0 := k1 _ _ c0
      replace c1 := k1 _ _ c1
      replace c2 := k1 _ _ c2
      replace g4 := k1 _ _ g4
      replace m0 := k1 _ _ m0
      refine ⟨(by show 5 ≤ sizeLine; decide +kernel), fun u2 nu2 => ?_⟩
      obtain ⟨k2, m2⟩ : Same M1 (upd M1 u2 (.tup [V.int 3, V.int 255, V.int 255, V.int 255, V.int 255])) ∧ (upd M1 u2 (.tup [V.int 3, V.int 255, V.int 255, V.int 255, V.int 255])) u2 = some (.tup [V.int 3, V.int 255, V.int 255, V.int 255, V.int 255]) := ⟨same_upd' nu2, upd_same⟩
      generalize upd M1 u2 (.tup [V.int 3, V.int 255, V.int 255, V.int 255, V.int 255]) = M2 at k2 m2 ⊢
      replace c0 := k2 _ _ c0
      replace c1 := k2 _ _ c1
      replace c2 := k2 _ _ c2
      replace g4 := k2 _ _ g4
      replace m0 := k2 _ _ m0
      replace m1 := k2 _ _ m1
      refine ⟨(by show 4 ≤ sizeLine; decide +kernel), fun l2 nl2 => ?_⟩
      obtain ⟨k3, g5⟩ : Same M2 (upd M2 l2 (.lst [V.ref u0, V.ref u1, V.ref u2, V.int 1])) ∧ (upd M2 l2 (.lst [V.ref u0, V.ref u1, V.ref u2, V.int 1])) l2 = some (.lst [V.ref u0, V.ref u1, V.ref u2, V.int 1]) := ⟨same_upd' nl2, upd_same⟩
      generalize upd M2 l2 (.lst [V.ref u0, V.ref u1, V.ref u2, V.int 1]) = M3 at k3 g5 ⊢
      replace c0 := k3 _ _ c0
      replace m0 := k3 _ _ m0
      replace c1 := k3 _ _ c1
      replace m1 := k3 _ _ m1
      replace c2 := k3 _ _ c2
      replace m2 := k3 _ _ m2
      replace g4 := k3 _ _ g4
      refine ⟨_, _, .lst (SqL.of g4) (.cons (.tup (SqT.of c0) (dp_ints _)) (.cons (.tup (SqT.of c1) (dp_ints _)) (.cons (.tup (SqT.of c2) (dp_ints _)) (.cons (.int 1) .nil)))), .lst (SqL.of g5) (.cons (.tup (SqT.of m0) (dp_ints [1])) (.cons (.tup (SqT.of m1) (dp_ints [2, 2])) (.cons (.tup (SqT.of m2) (dp_ints [3, 255, 255, 255, 255])) (.cons (.int 1) .nil)))), dueS, dueS, ?_⟩
      rw [dueD]
      exact k _
end
end K51
set_option Elab.async false
set_option linter.all false
set_option maxRecDepth 100000
set_option maxHeartbeats 4000000
/-! the law's call where no guard is held -/
namespace K51
open PySem PySem.Spec PyProof.Rows L2
section
variable {P : Program} {w : World} {K : PySem.W.Frag} {s1 : Shared} {a : Addr} {vs : List Value} {ns : List Int}
/-- an abstract heap that tracks the script alone, if the module does not hold it -/
structure OwnScript (P : Program) (w : World) (K : PySem.W.Frag) (h : Heap) (a : Addr) (ns : List Int) (H : Hp) : Prop where
  only : Only H
  seq : SqL K H a (ns.map V.int)
  ok : HOk P w H h
  one : ∀ b u, H b = some u → b = a
  free : ∀ u, H a = some u → K.lookup a = none
theorem script_heap (KX : K.In s1.heap) (ha : s1.heap.get? a = some { cls := .type "list", data := .seq vs.toArray }) (hi : IntsAre vs ns) (hl : ns.length ≤ sizeLine) : ∃ H, OwnScript P w K s1.heap a ns H := by
  have rv := vals_ints hi
  have n1 := hi.length
  by_cases hk : K.lookup a = none
  · refine ⟨fun b => if b = a then some (.frz { cls := .type "list", data := .seq vs.toArray } (.lst (ns.map V.int))) else none, ⟨fun b => ?_, .inl (.inr ⟨_, if_pos rfl⟩), fun b u z => ?_, fun b u z => ?_, fun _ _ => hk⟩⟩
    · by_cases e : b = a
      · exact .inr ⟨_, _, if_pos e⟩
      · exact .inl (if_neg e)
    · by_cases e : b = a
      · have z2 := (if_pos e).symm.trans z
        cases z2
        rw [e]
        exact ⟨ha, by rw [List.length_map]; exact hl, vs, _, rv, ha⟩
      · exact absurd ((if_neg e).symm.trans z) (by intro y; cases y)
    · by_cases e : b = a
      · exact e
      · exact absurd ((if_neg e).symm.trans z) (by intro y; cases y)
  · obtain ⟨o, ho⟩ := Option.ne_none_iff_exists'.mp hk
    have e := KX a o ho
    rw [ha] at e
    cases e
    exact ⟨fun _ => none, ⟨fun _ => .inl rfl, .inr ⟨_, vs.toArray, _, ho, rfl, rfl, rfl, by rw [List.size_toArray, n1]; exact hl, by simpa using rv⟩, fun _ _ z => (nomatch (show (none : Option HO) = some _ from z)), fun _ _ z => (nomatch (show (none : Option HO) = some _ from z)), fun _ z => (nomatch (show (none : Option HO) = some _ from z))⟩⟩
theorem law_callG {mg mb : Str → Option Value} {k : Nat} {fa : Addr} {fd : FuncData} {x : Str} {sp : Sp} (KX : K.In s1.heap) (hns : s1.heap.Ns mainGlobals mg) (hb : s1.heap.Ns builtinsNs mb) (hbb : ∀ x : Str, x ≠ "__name__" → mb x = bootBuiltins x) (hlim : s1.heap.NoLimit) (hg : s1.gens = #[])
    (ha : s1.heap.get? a = some { cls := .type "list", data := .seq vs.toArray }) (hi : IntsAre vs ns) (hl : ns.length ≤ sizeLine) (hr : Room k callerA) (F : ∀ base : Heap, K.In base → base.Ns mainGlobals mg → FnG P w K mg base k fa fd [x] sp)
    (hbind : ∀ (s : Shared) (u : Value), BindsTo s fd ⟨[u], []⟩ [(x, u)]) (hsp : ∀ H : Hp, SqL K H a (ns.map V.int) → sp [.ref a] H (fun v _ => v = .bl true) fun _ _ _ => False) :
    codeAny (model P w) callerA (.call (.ref fa) ⟨[.ref a], []⟩) (fun r s' => r = .ok (.ret (.bool true)) ∧ OldK s1.heap s'.heap ∧ s'.os = s1.os ∧ AllBare s'.gens) s1 := by
  obtain ⟨H, O⟩ := script_heap (P := P) (w := w) KX ha hi hl
  -- what stands in the heap and is not the script stands in the base
  have stay : ∀ {b : Addr} {o : Obj}, s1.heap.get? b = some o → (b = a → H a = none) → (hidT s1.heap H).get? b = some o := fun {b o} e hn => hidT_get e (by
    cases q : H b with
    | none => rfl
    | some u =>
      have eb := O.one b u q
      rw [eb, hn eb] at q
      cases q)
  have dic : ∀ {b : Addr} {m : Str → Option Value}, s1.heap.Ns b m → (hidT s1.heap H).Ns b m := fun {b m} ⟨o, es, ep, e, d, r⟩ => ⟨o, es, ep, stay e (fun eb => by
    rw [eb, ha] at e
    cases e
    cases d), d, r⟩
  have part : K.In (hidT s1.heap H) := fun b o e => stay (KX b o e) fun eb => by
    cases q : H a with
    | none => rfl
    | some u =>
      rw [eb, O.free u q] at e
      cases e
  have md : Mod K mg (hidT s1.heap H) := ⟨part, dic hns, ⟨mb, dic hb, hbb⟩, let ⟨mc, h1, h2⟩ := hlim; ⟨mc, dic h1, h2⟩⟩
  have e0 : Env0 P w K mg (hidT s1.heap H) callerA [] s1 H := ⟨rfl, md, fun b o e => of_hidT e, Nat.le_of_eq (hidT_size _ _), trivial, fun b hb => absurd (show b ∈ ([] : List Addr) from hb) List.not_mem_nil, O.ok, .of_eq hg⟩
  refine codeAny_mono ((F _ part (dic hns)).run callerA [] s1 H ⟨[.ref a], []⟩ [.ref a] [.ref a] _ _ hr rfl e0 (hbind s1 (.ref a)) (.cons rfl .nil) (hsp H O.seq)) fun r s' h => ?_
  match r, h with
  | .error _, h => exact False.elim h
  | .ok .next, h => exact False.elim h
  | .ok .brk, h => exact False.elim h
  | .ok .cont, h => exact False.elim h
  | .ok (.ret u), h =>
    obtain ⟨v, H', os, bare, un, hok', rv, ev⟩ := h
    have ev' : v = .bl true := ev
    rw [ev'] at rv
    obtain rfl : u = Value.bool true := rv
    refine ⟨rfl, OldK.of_keep fun b o e => ?_, os, bare⟩
    rcases O.only b with z | ⟨ob, xs, z⟩
    · exact un.keep b o e z (fun y => absurd (show b ∈ ([] : List Addr) from y) List.not_mem_nil) List.not_mem_nil
    · have e1 := (O.ok b _ z).1
      rw [e] at e1
      rw [Option.some.inj e1]
      exact (hok' b _ (un.frzs b ob _ z)).1
end
/-- a law's end, by such a promise -/
theorem walk_ofG {l : PySem.W.OpenLaw} {n k : Nat} {q : Program} {loose : List Str} {XP : (Str → Option Value) → Heap → Prop} {YP : World → Heap → Prop} {d : DefRec} {x : Str} (hn : l.most = some n) (hn2 : n ≤ sizeLine) (hdf : d.params.defaults = []) (hr : Room k callerA)
    (F : ∀ (w : World) (mg : Str → Option Value) (fa : Addr) (h : Heap), YP w h → h.Ns mainGlobals mg → mg d.name = some (.ref fa) → ∃ (K : PySem.W.Frag) (fd : FuncData) (sp : Sp), K.In h ∧ (∀ (s : Shared) (u : Value), BindsTo s fd ⟨[u], []⟩ [(x, u)]) ∧
      (∀ (H : Hp) (a : Addr) (ns : List Int), ns.length ≤ n → SqL K H a (ns.map V.int) → sp [.ref a] H (fun v _ => v = .bl true) fun _ _ _ => False) ∧ ∀ base : Heap, K.In base → base.Ns mainGlobals mg → FnG l.prog w K mg base k fa fd [x] sp) :
    PySem.W.WalkO q loose XP YP l.row.toRowW d [] (fun f vs => PySem.call f vs) := by
  refine Att.attach_call hn hdf fun w _ s1 mg mb fa _ _ _ _ a vs ns G Y _ _ _ hmg hobj hints hlen hg => ?_
  obtain ⟨K, fd, sp, KX, hb, hsp, hF⟩ := F w mg fa _ Y G.T.g hmg
  exact law_callG KX G.T.g G.T.b G.T.builtins G.T.nolimit hg hobj hints (Nat.le_trans hlen hn2) hr hF hb fun H hS => hsp H a ns hlen hS
end K51
set_option Elab.async false
set_option linter.all false
set_option maxRecDepth 100000
set_option maxHeartbeats 0
/-! the head: facts by names (written by genS.py) -/
namespace K51
open PySem PySem.Spec PyProof.Rows L2
/-! ### where things stand -/
def cT (K : PySem.W.Frag) : Addr := He.ga K "Table"
def cB (K : PySem.W.Frag) : Addr := He.ga K "BadOperands"
def fB (K : PySem.W.Frag) : Addr := He.ma K (cB K) "__init__"
/-- the default of moving -/
def pM (K : PySem.W.Frag) : Addr := match K.lookup (He.ma K (cT K) "fitting") with
  | some ⟨_, _, .func fd, _⟩ => (match fd.kwdefaults with
    | .ref D => (match PySem.W.nsIn K D "moving" with
      | some (some (.ref a)) => a
      | _ => 0)
    | _ => 0)
  | _ => 0
/-- a tuple of K, of these -/
def tupA (K : PySem.W.Frag) (a : Addr) (vs : List V) : Bool := match K.lookup a with
  | some ⟨.type c, _, .seq its _, _⟩ => decide (c = "tuple") && (decide (its.size ≤ sizeLine) && He.relAll vs its.toList)
  | _ => false
theorem tupA_ok {K : PySem.W.Frag} {a : Addr} {vs : List V} (h : tupA K a vs = true) (H : Hp) : SqT K H a vs := by
  unfold tupA at h
  split at h
  · rename_i c d its n sl e
    simp only [Bool.and_eq_true, decide_eq_true_eq] at h
    obtain ⟨rfl, h2, h3⟩ := h
    exact .inr ⟨_, its, n, e, rfl, rfl, h2, He.relAll_ok h3⟩
  · cases h
/-! ### BadOperands -/
def mroB (C : Addr) : List Value → Bool
  | .ref a :: bm => decide (a = C) && PySem.HandSPX.refsVE bm
  | _ => false
theorem mroB_ok {C : Addr} {l : List Value} (h : mroB C l = true) : ∃ bm, l = .ref C :: bm ∧ PySem.HandSPX.refsVE bm = true := by
  unfold mroB at h
  split at h
  · rename_i a bm
    simp only [Bool.and_eq_true, decide_eq_true_eq] at h
    obtain ⟨rfl, h⟩ := h
    exact ⟨bm, rfl, h⟩
  · cases h
def slB : List (Option Value) → Bool
  | [_, _, _, _, some (.builtin n), _] => decide (n = "ValueError.__new__")
  | _ => false
theorem slB_ok {l : List (Option Value)} (h : slB l = true) : ∃ k0 k1 k2 k3 k5, l = [k0, k1, k2, k3, some (.builtin "ValueError.__new__"), k5] := by
  unfold slB at h
  split at h
  · rename_i k0 k1 k2 k3 n k5
    simp only [decide_eq_true_eq] at h
    subst h
    exact ⟨k0, k1, k2, k3, k5, rfl⟩
  · cases h
def excB (K : PySem.W.Frag) (C : Addr) : Bool := match K.lookup C with
  | some ⟨.type t, _, .cls cd, sl⟩ => decide (t = "type") && (mroB C cd.mro && (cd.hasDict && (!cd.hasDel && slB sl.toList)))
  | _ => false
theorem excB_ok {K : PySem.W.Frag} {C : Addr} (h : excB K C = true) : ∃ nm q N bs bm sn sub ab col dd k0 k1 k2 k3 k5, K.lookup C = some (excClassObj nm q C N bs bm true sn sub ab col dd k0 k1 k2 k3 k5 "ValueError.__new__") ∧ PySem.HandSPX.refsVE bm = true := by
  unfold excB at h
  split at h
  · rename_i t dd cd sl e
    obtain ⟨nm, bs, mro, N, q, hd, sn, sub, ab, col, del⟩ := cd
    obtain ⟨sl⟩ := sl
    simp only [Bool.and_eq_true, decide_eq_true_eq] at h
    obtain ⟨rfl, h1, h2, h3, h4⟩ := h
    obtain ⟨bm, em, hb⟩ := mroB_ok h1
    obtain ⟨k0, k1, k2, k3, k5, es⟩ := slB_ok h4
    have em' : mro = .ref C :: bm := em
    have es' : sl = [k0, k1, k2, k3, some (.builtin "ValueError.__new__"), k5] := es
    have h2' : hd = true := h2
    have h3' : del = false := by simpa using h3
    subst em' es' h2' h3'
    exact ⟨nm, q, N, bs, bm, sn, sub, ab, col, dd, k0, k1, k2, k3, k5, e, hb⟩
  · cases h
/-- its __init__, but for the text -/
def noneB : Value → Bool
  | .none => true
  | _ => false
theorem noneB_ok {v : Value} (h : noneB v = true) : v = .none := by
  cases v with
  | none => rfl
  | _ => cases h
def cellB (K : PySem.W.Frag) (C cc : Addr) : Bool := match K.lookup cc with
  | some ⟨_, _, .cell (some (.ref a)), _⟩ => decide (a = C)
  | _ => false
theorem cellB_ok {K : PySem.W.Frag} {C cc : Addr} (h : cellB K C cc = true) : ∃ oc3 od3 sl3, K.lookup cc = some ⟨oc3, od3, .cell (some (.ref C)), sl3⟩ := by
  unfold cellB at h
  split at h
  · rename_i oc od a sl e
    simp only [decide_eq_true_eq] at h
    subst h
    exact ⟨_, _, _, e⟩
  · cases h
def closB (K : PySem.W.Frag) (C : Addr) : List (Str × Addr) → Bool
  | [(x, cc)] => decide (x = "__class__") && cellB K C cc
  | _ => false
theorem closB_ok {K : PySem.W.Frag} {C : Addr} {l : List (Str × Addr)} (h : closB K C l = true) : ∃ cc, l = [(("__class__" : Str), cc)] ∧ cellB K C cc = true := by
  unfold closB at h
  split at h
  · rename_i x cc
    simp only [Bool.and_eq_true, decide_eq_true_eq] at h
    obtain ⟨rfl, h⟩ := h
    exact ⟨cc, rfl, h⟩
  · cases h
def fileB (file : Str) : Option Value → Bool
  | some (.str f _) => file == f
  | _ => false
theorem fileB_ok {file : Str} {v : Option Value} (h : fileB file v = true) : ∃ f t, v = some (.str f t) ∧ (file == f) = true := by
  unfold fileB at h
  split at h
  · rename_i f t
    exact ⟨f, t, rfl, h⟩
  · cases h
def recB (file : Str) (K : PySem.W.Frag) (cda : Addr) : Bool := match K.lookup cda with
  | some ⟨_, _, .fields vs, _⟩ => fileB file vs[2]?
  | _ => false
theorem recB_ok {file : Str} {K : PySem.W.Frag} {cda : Addr} (h : recB file K cda = true) : ∃ oc2 od2 vs sl2, K.lookup cda = some ⟨oc2, od2, .fields vs, sl2⟩ ∧ fileB file vs[2]? = true := by
  unfold recB at h
  split at h
  · rename_i oc od vs sl e
    exact ⟨_, _, vs, _, e, h⟩
  · cases h
def codB (file : Str) (K : PySem.W.Frag) : Value → Bool
  | .ref cda => PySem.W.codeIn K (.ref cda) "BadOperands.__init__" && recB file K cda
  | _ => false
theorem codB_ok {file : Str} {K : PySem.W.Frag} {v : Value} (h : codB file K v = true) : ∃ cda, v = .ref cda ∧ PySem.W.codeIn K (.ref cda) "BadOperands.__init__" = true ∧ recB file K cda = true := by
  unfold codB at h
  split at h
  · rename_i cda
    simp only [Bool.and_eq_true] at h
    exact ⟨cda, rfl, h⟩
  · cases h
def iniB (file : Str) (K : PySem.W.Frag) : Bool := match K.lookup (fB K) with
  | some ⟨_, _, .func fd, _⟩ => noneB fd.defaults && (closB K (cB K) fd.closure && codB file K fd.code)
  | _ => false
def fnB (K : PySem.W.Frag) : He.FnW := match K.lookup (fB K) with
  | some ⟨_, _, .func fd, _⟩ => some (fd.name, fd.qualname, fd.params, fd.body, fd.scope, fd.globals, [], fd.builtins)
  | _ => none
def valB : He.FnW := some ("__init__", "BadOperands.__init__", defArgs sBO, .stmts (defBody sBO), defScope sBO, mainGlobals, [], builtinsNs)
theorem iniB_ok {file0 : Str} {K : PySem.W.Frag} (e : fnB K = valB) (h : iniB file0 K = true) :
    ∃ (oc : Value) (od : Option Addr) (doc pm : Value) (an : Option Addr) (cda cc : Addr) (ct : Value) (osl : Array (Option Value)) (oc2 : Value) (od2 : Option Addr) (vs : Array Value) (sl2 : Array (Option Value)) (file : Str) (tf : Tok) (oc3 : Value) (od3 : Option Addr) (sl3 : Array (Option Value)) (kV : Value),
    K.lookup (fB K) = some ⟨oc, od, .func (PySem.W.ksFn "__init__" "BadOperands.__init__" (L2.defArgs sBO) (L2.defBody sBO) (L2.defScope sBO) .none kV doc pm an (.ref cda) ct cc), osl⟩ ∧ PySem.W.codeIn K (.ref cda) "BadOperands.__init__" = true ∧
    K.lookup cda = some ⟨oc2, od2, .fields vs, sl2⟩ ∧ vs[2]? = some (.str file tf) ∧ (file0 == file) = true ∧ K.lookup cc = some ⟨oc3, od3, .cell (some (.ref (cB K))), sl3⟩ := by
  unfold iniB at h
  unfold fnB at e
  split at h
  · rename_i oc od fd osl q
    rw [q] at e
    obtain ⟨n1, n2, n3, n4, n5, n6, n7, n8, n9, n10, n11, n12, n13, n14, n15⟩ := fd
    have e2 : (some (n1, n2, n3, n4, n5, n6, [], n15) : He.FnW) = valB := e
    unfold valB at e2
    simp only [Option.some.injEq, Prod.mk.injEq] at e2
    obtain ⟨h1, h2, h3, h4, h5, h6, _, h8⟩ := e2
    subst h1 h2 h3 h4 h5 h6 h8
    simp only [Bool.and_eq_true] at h
    obtain ⟨a1, a2, a3⟩ := h
    have e8 : n8 = .none := noneB_ok a1
    obtain ⟨cc, e7, b2⟩ := closB_ok a2
    obtain ⟨oc3, od3, sl3, q3⟩ := cellB_ok b2
    obtain ⟨cda, e13, b1, b3⟩ := codB_ok a3
    obtain ⟨oc2, od2, vs, sl2, q2, b4⟩ := recB_ok b3
    obtain ⟨file, tf, q4, b5⟩ := fileB_ok b4
    have e7' : n7 = [(("__class__" : Str), cc)] := e7
    have e13' : n13 = .ref cda := e13
    subst e8 e7' e13'
    exact ⟨oc, od, n10, n11, n12, cda, cc, n14, osl, oc2, od2, vs, sl2, file, tf, oc3, od3, sl3, n9, q, b1, q2, q4, b5, q3⟩
  · cases h
/-- further facts -/
abbrev prg : Program := PySem.Challenge.pw_macroasm_k51_whole_first_forms_that_fit
def fx : List (PySem.W.Frag → Bool) := [
  fun K => tupA K (pM K) [],
  fun K => tupA K (He.ga K "FIELD_WORDS") fwords,
  fun K => tupA K (He.ga K "RESERVED") reserved,
  fun K => PySem.W.fnIn K (He.ma K (cT K) "__getitem__"),
  fun K => PySem.W.fnIn K (He.ma K (cT K) "__call__"),
  fun K => PySem.W.readsIn K (cT K) (.type "type"),
  fun K => He.eqO (PySem.W.specialIn K (.ref (cT K)) "__getattribute__") (some (some (.builtin "type.__getattribute__"))),
  fun K => He5.wrapB K (cT K) "classmethod" "classmethod.__get__" "of",
  fun K => PySem.W.fnIn K (He5.wf K (cT K) "classmethod" "of"),
  fun K => excB K (cB K),
  fun K => He.eqO (PySem.W.findIn K (.ref (cB K)) "__setattr__") (some (some (.builtin "object.__setattr__"))),
  fun K => He.eqO (PySem.W.findIn K (.ref (cB K)) "__getattribute__") (some (some (.builtin "BaseException.__getattribute__")))]
def fy : List (PySem.W.Frag → Bool) := [
  fun K => He.eqO (PySem.W.findIn K (.ref (cB K)) "__getattr__") (some none),
  fun K => He.eqO (PySem.W.findIn K (.ref (cB K)) "index") (some none),
  fun K => He.eqO (PySem.W.findIn K (.ref (cB K)) "__init__") (some (some (.ref (fB K)))),
  fun K => decide (PySem.W.typeIn K (.ref (fB K)) = some (.type "function")),
  fun K => PySem.W.keepIn K (.ref (cB K)),
  fun K => decide (PySem.W.subIn K (.ref (cB K)) (.type "BaseException") = some true),
  fun K => decide (PySem.W.typeIn K (.ref (cB K)) = some (.type "type")),
  fun K => PySem.W.hasDictIn K (cB K),
  fun K => decide (PySem.W.exmOne K (.ref (cB K)) (.ref (cB K)) = some true),
  fun K => decide (PySem.W.mroIn K (cB K) (.ref (cB K)) = some true),
  fun K => He.eqO (PySem.W.ks_superIn K (cB K) (cB K) "__init__") (some (some (.builtin "ValueError.__init__"))),
  fun K => decide (PySem.W.subIn K (.ref (cB K)) (.type "ValueError") = some true),
  fun K => He.eqO (PySem.W.nsIn K cStatics "thirdparty.any") (some none),
  fun K => iniB prg.main.file K]
/-! ### the defs -/
def dl15 : He5.DefA := ⟨fun K => He.ga K "is_whole", "is_whole", "is_whole", defArgs (top 15), defBody (top 15), defScope (top 15), [], []⟩
def dl16 : He5.DefA := ⟨fun K => He.ga K "is_address", "is_address", "is_address", defArgs (top 16), defBody (top 16), defScope (top 16), [], []⟩
def dl17 : He5.DefA := ⟨fun K => He.ga K "is_operand", "is_operand", "is_operand", defArgs (top 17), defBody (top 17), defScope (top 17), [], []⟩
def dl18 : He5.DefA := ⟨fun K => He.ga K "is_field", "is_field", "is_field", defArgs (top 18), defBody (top 18), defScope (top 18), [], []⟩
def dl19 : He5.DefA := ⟨fun K => He.ga K "cells_in", "cells_in", "cells_in", defArgs (top 19), defBody (top 19), defScope (top 19), [], []⟩
def dl20 : He5.DefA := ⟨fun K => He.ga K "bounds_at", "bounds_at", "bounds_at", defArgs (top 20), defBody (top 20), defScope (top 20), [], []⟩
def dl21 : He5.DefA := ⟨fun K => He.ga K "field_cells", "field_cells", "field_cells", defArgs (top 21), defBody (top 21), defScope (top 21), [], []⟩
def dl27 : He5.DefA := ⟨fun K => He.ga K "name_end", "name_end", "name_end", defArgs (top 27), defBody (top 27), defScope (top 27), [], []⟩
def dl30 : He5.DefA := ⟨fun K => He.ga K "is_name", "is_name", "is_name", defArgs (top 30), defBody (top 30), defScope (top 30), [], []⟩
def dl31 : He5.DefA := ⟨fun K => He.ga K "is_reserved", "is_reserved", "is_reserved", defArgs (top 31), defBody (top 31), defScope (top 31), [], []⟩
def dl38 : He5.DefA := ⟨fun K => He.ga K "is_cell", "is_cell", "is_cell", defArgs (top 38), defBody (top 38), defScope (top 38), [], []⟩
def dl39 : He5.DefA := ⟨fun K => He.ga K "is_tuple_of", "is_tuple_of", "is_tuple_of", defArgs (top 39), defBody (top 39), defScope (top 39), [], []⟩
def dl40 : He5.DefA := ⟨fun K => He.ga K "is_free_name", "is_free_name", "is_free_name", defArgs (top 40), defBody (top 40), defScope (top 40), [], []⟩
def dl41 : He5.DefA := ⟨fun K => He.ga K "is_form", "is_form", "is_form", defArgs (top 41), defBody (top 41), defScope (top 41), [], []⟩
def dl42 : He5.DefA := ⟨fun K => He.ga K "length_of", "length_of", "length_of", defArgs (top 42), defBody (top 42), defScope (top 42), [], []⟩
def dl43 : He5.DefA := ⟨fun K => He.ga K "can_follow", "can_follow", "can_follow", defArgs (top 43), defBody (top 43), defScope (top 43), [], []⟩
def dl44 : He5.DefA := ⟨fun K => He.ga K "do_clash", "do_clash", "do_clash", defArgs (top 44), defBody (top 44), defScope (top 44), [], []⟩
def dl45 : He5.DefA := ⟨fun K => He.ga K "need_forms", "need_forms", "need_forms", defArgs (top 45), defBody (top 45), defScope (top 45), [], []⟩
def dl46 : He5.DefA := ⟨fun K => He.ga K "need_rows", "need_rows", "need_rows", defArgs (top 46), defBody (top 46), defScope (top 46), [], []⟩
def dl47 : He5.DefA := ⟨fun K => He.ga K "need_operands", "need_operands", "need_operands", defArgs (top 47), defBody (top 47), defScope (top 47), [], []⟩
def dl48 : He5.DefA := ⟨fun K => He.ga K "need_address", "need_address", "need_address", defArgs (top 48), defBody (top 48), defScope (top 48), [], []⟩
def dl49 : He5.DefA := ⟨fun K => He.ga K "misfit_in", "misfit_in", "misfit_in", defArgs (top 49), defBody (top 49), defScope (top 49), [], []⟩
def dl50 : He5.DefA := ⟨fun K => He.ga K "first_fit", "first_fit", "first_fit", defArgs (top 50), defBody (top 50), defScope (top 50), [], []⟩
def dl51 : He5.DefA := ⟨fun K => He.ga K "cells_by", "cells_by", "cells_by", defArgs (top 51), defBody (top 51), defScope (top 51), [], []⟩
def dl54 : He5.DefA := ⟨fun K => He.ga K "_law_begin", "_law_begin", "_law_begin", defArgs (top 54), defBody (top 54), defScope (top 54), [], []⟩
def dl55 : He5.DefA := ⟨fun K => He.ga K "_law_draw", "_law_draw", "_law_draw", defArgs (top 55), defBody (top 55), defScope (top 55), [], []⟩
def dl56 : He5.DefA := ⟨fun K => He.ga K "_law_pick", "_law_pick", "_law_pick", defArgs (top 56), defBody (top 56), defScope (top 56), [], []⟩
def dl57 : He5.DefA := ⟨fun K => He.ga K "_law_mixed", "_law_mixed", "_law_mixed", defArgs (top 57), defBody (top 57), defScope (top 57), [], []⟩
def dl58 : He5.DefA := ⟨fun K => He.ga K "_law_codes", "_law_codes", "_law_codes", defArgs (top 58), defBody (top 58), defScope (top 58), [], []⟩
def dl59 : He5.DefA := ⟨fun K => He.ga K "_law_slot", "_law_slot", "_law_slot", defArgs (top 59), defBody (top 59), defScope (top 59), [], []⟩
def dl60 : He5.DefA := ⟨fun K => He.ga K "_law_width", "_law_width", "_law_width", defArgs (top 60), defBody (top 60), defScope (top 60), [], []⟩
def dl61 : He5.DefA := ⟨fun K => He.ga K "_law_long", "_law_long", "_law_long", defArgs (top 61), defBody (top 61), defScope (top 61), [], []⟩
def dl62 : He5.DefA := ⟨fun K => He.ga K "_law_shapes", "_law_shapes", "_law_shapes", defArgs (top 62), defBody (top 62), defScope (top 62), [], []⟩
def dl63 : He5.DefA := ⟨fun K => He.ga K "_law_plan", "_law_plan", "_law_plan", defArgs (top 63), defBody (top 63), defScope (top 63), [], []⟩
def dl64 : He5.DefA := ⟨fun K => He.ga K "_law_bounds", "_law_bounds", "_law_bounds", defArgs (top 64), defBody (top 64), defScope (top 64), [], []⟩
def dl65 : He5.DefA := ⟨fun K => He.ga K "_law_put", "_law_put", "_law_put", defArgs (top 65), defBody (top 65), defScope (top 65), [], []⟩
def dl66 : He5.DefA := ⟨fun K => He.ga K "_law_coded", "_law_coded", "_law_coded", defArgs (top 66), defBody (top 66), defScope (top 66), [], []⟩
def dl67 : He5.DefA := ⟨fun K => He.ga K "_law_misfit", "_law_misfit", "_law_misfit", defArgs (top 67), defBody (top 67), defScope (top 67), [], []⟩
def dl68 : He5.DefA := ⟨fun K => He.ga K "_law_near", "_law_near", "_law_near", defArgs (top 68), defBody (top 68), defScope (top 68), [], []⟩
def dl69 : He5.DefA := ⟨fun K => He.ga K "_law_first", "_law_first", "_law_first", defArgs (top 69), defBody (top 69), defScope (top 69), [], []⟩
def dl70 : He5.DefA := ⟨fun K => He.ga K "_law_made", "_law_made", "_law_made", defArgs (top 70), defBody (top 70), defScope (top 70), [], []⟩
def dl71 : He5.DefA := ⟨fun K => He.ga K "_law_right", "_law_right", "_law_right", defArgs (top 71), defBody (top 71), defScope (top 71), [], []⟩
def dl72 : He5.DefA := ⟨fun K => He.ga K "law", "law", "law", defArgs (top 72), defBody (top 72), defScope (top 72), [], []⟩
def dTi : He5.DefA := ⟨fun K => He.ma K (cT K) "__init__", "__init__", "Table.__init__", defArgs sTi, defBody sTi, defScope sTi, [], []⟩
def dTg : He5.DefA := ⟨fun K => He.ma K (cT K) "__getitem__", "__getitem__", "Table.__getitem__", defArgs sTg, defBody sTg, defScope sTg, [], []⟩
def dTc : He5.DefA := ⟨fun K => He.ma K (cT K) "__call__", "__call__", "Table.__call__", defArgs sTc, defBody sTc, defScope sTc, [.int 0], []⟩
def dTf : He5.DefA := ⟨fun K => He.ma K (cT K) "fitting", "fitting", "Table.fitting", defArgs sTf, defBody sTf, defScope sTf, [], [("address", .int 0), ("first", .int 0), ("moving", .adr pM)]⟩
def dTo : He5.DefA := ⟨fun K => He5.wf K (cT K) "classmethod" "of", "of", "Table.of", defArgs sTo, defBody sTo, defScope sTo, [], []⟩
def fn0 : List He5.DefA := [dl15, dl16, dl17, dl18, dl19, dl20, dl21, dl27, dl30, dl31, dl38, dl39]
def fn1 : List He5.DefA := [dl40, dl41, dl42, dl43, dl44, dl45, dl46, dl47, dl48, dl49, dl50, dl51]
def fn2 : List He5.DefA := [dl54, dl55, dl56, dl57, dl58, dl59, dl60, dl61, dl62, dl63, dl64, dl65]
def fn3 : List He5.DefA := [dl66, dl67, dl68, dl69, dl70, dl71, dl72, dTi, dTg, dTc, dTf, dTo]
def fn : List He5.DefA := fn0 ++ (fn1 ++ (fn2 ++ fn3))
def fa0 : List He.Fa := [.free "isinstance", .free "int", .free "bool", .free "str", .free "tuple", .free "len", .free "range", .free "enumerate", .free "all", .free "any", .free "sum", .free "list"]
def fa1 : List He.Fa := [.free "zip", .free "max", .free "min", .free "repr", .free "super", .glo "is_whole", .glo "is_address", .glo "is_operand", .glo "is_field", .glo "cells_in", .glo "bounds_at", .glo "field_cells"]
def fa2 : List He.Fa := [.glo "name_end", .glo "is_name", .glo "is_reserved", .glo "is_cell", .glo "is_tuple_of", .glo "is_free_name", .glo "is_form", .glo "length_of", .glo "can_follow", .glo "do_clash", .glo "need_forms", .glo "need_rows"]
def fa3 : List He.Fa := [.glo "need_operands", .glo "need_address", .glo "misfit_in", .glo "first_fit", .glo "cells_by", .glo "_law_begin", .glo "_law_draw", .glo "_law_pick", .glo "_law_mixed", .glo "_law_codes", .glo "_law_slot", .glo "_law_width"]
def fa4 : List He.Fa := [.glo "_law_long", .glo "_law_shapes", .glo "_law_plan", .glo "_law_bounds", .glo "_law_put", .glo "_law_coded", .glo "_law_misfit", .glo "_law_near", .glo "_law_first", .glo "_law_made", .glo "_law_right", .glo "law"]
def fa5 : List He.Fa := [.glo "Table", .glo "BadOperands", .glo "FIELD_WORDS", .glo "RESERVED", .int "MOST_ADDRESS" (2 ^ 40), .int "MOST_OPERAND" (2 ^ 64), .int "BITS" 8, .int "BASE" 256, .int "MAX_NAME" 40, .int "MOST_CELL" 255, .int "MOST_OPCODE" 3, .int "MOST_OPERANDS" 4]
def fa6 : List He.Fa := [.int "MOST_ROWS" 100, .int "MOST_FORMS" 6, .str "TOLD" "n", .str "NAME_SIGNS" signs, .str "LETTERS" letters, .noat "Table" "own_rows", .noat "Table" "own_forms", .noat "Table" "own_places", .cls "Table", .mkr "Table", .meth "Table" "fitting", .meth "Table" "__getitem__"]
def fa7 : List He.Fa := [.meth "Table" "__call__"]
def fa : List He.Fa := fa0 ++ (fa1 ++ (fa2 ++ (fa3 ++ (fa4 ++ (fa5 ++ (fa6 ++ fa7))))))
/-! ### the Hook -/
abbrev AlK : Type := (Bool × Bool × Bool × Bool) × List He.FnW
def obsK (K : PySem.W.Frag) : AlK := ((fa.all fun f => f.ok K, fx.all fun f => f K, fy.all fun f => f K, fn.all fun d => d.ok K), fnB K :: fn.map fun d => He5.fnA K (d.at_ K))
def valK : AlK := ((true, true, true, true), valB :: fn.map He5.DefA.val)
def SaysK (K : PySem.W.Frag) : Prop := obsK K = valK
/-- what objects at these addresses name -/
def nextK (g : Addr → Option Obj) (as : List Addr) : List Addr := as.flatMap fun a => match g a with
  | some o => He.refsD o
  | none => []
/-- the functions of an address list: what they name -/
def fnsK (g : Addr → Option Obj) (as : List Addr) : List Addr := as.flatMap fun a => match g a with
  | some ⟨_, _, .func fd, _⟩ => He.refV fd.code ++ (He.refV fd.defaults ++ (He.refV fd.kwdefaults ++ fd.closure.map (·.2)))
  | _ => []
/-- the classes' dicts -/
def clsK (g : Addr → Option Obj) (as : List Addr) : List Addr := as.flatMap fun a => match g a with
  | some ⟨_, _, .cls cd, _⟩ => [cd.ns]
  | _ => []
def asK (g : Addr → Option Obj) : List Addr :=
  let l1 := nextK g [mainGlobals]
  let l2 := clsK g l1
  let l3 := nextK g l2
  let l4 := nextK g (l3.filter fun a => match g a with
    | some ⟨_, _, .fields _, _⟩ => true
    | _ => false)
  let l5 := fnsK g (l1 ++ (l3 ++ l4))
  mainGlobals :: cStatics :: (l1 ++ (l2 ++ (l3 ++ (l4 ++ (l5 ++ nextK g (l5.filter fun a => match g a with
    | some ⟨_, _, .dict _ _, _⟩ => true
    | _ => false))))))
def obsKG (g : Addr → Option Obj) : AlK := obsK (He.frG g (asK g))
def hookK : PySem.W.Hook where
  α := AlK
  obs := fun s => obsKG s.heap.get?
  val := fun _ => valK
  says := fun _ h => ∃ K : PySem.W.Frag, K.In h ∧ SaysK K
  of := fun _ _ e => ⟨_, He.frG_in, e⟩
  keeps := fun _ _ _ ⟨K, hK, c⟩ k => ⟨K, PySem.W.Frag.In.keeps hK k, c⟩
section
variable {K : PySem.W.Frag}
theorem SaysK.fact (c : SaysK K) (i : Nat) {f : He.Fa} (h : fa[i]? = some f) : f.ok K = true := by
  have e : (fa.all fun f => f.ok K) = true := congrArg (fun z : AlK => z.1.1) c
  exact List.all_eq_true.mp e f (List.mem_of_getElem? h)
theorem SaysK.more (c : SaysK K) (i : Nat) {f : PySem.W.Frag → Bool} (h : fx[i]? = some f) : f K = true := by
  have e : (fx.all fun f => f K) = true := congrArg (fun z : AlK => z.1.2.1) c
  exact List.all_eq_true.mp e f (List.mem_of_getElem? h)
theorem SaysK.most (c : SaysK K) (i : Nat) {f : PySem.W.Frag → Bool} (h : fy[i]? = some f) : f K = true := by
  have e : (fy.all fun f => f K) = true := congrArg (fun z : AlK => z.1.2.2.1) c
  exact List.all_eq_true.mp e f (List.mem_of_getElem? h)
theorem SaysK.bo (c : SaysK K) : fnB K = valB := by
  have e : (fnB K :: fn.map fun d => He5.fnA K (d.at_ K)) = valB :: fn.map He5.DefA.val := congrArg (fun z : AlK => z.2) c
  exact (List.cons.inj e).1
theorem SaysK.def_ (c : SaysK K) (i : Nat) {d : He5.DefA} (h : fn[i]? = some d) : ∃ fd, FunD K d.name d.qual d.params d.body d.scope (d.dvs K) (d.kws K) (d.at_ K) fd := by
  have e1 : (fn.all fun d => d.ok K) = true := congrArg (fun z : AlK => z.1.2.2.2) c
  have e : (fnB K :: fn.map fun d => He5.fnA K (d.at_ K)) = valB :: fn.map He5.DefA.val := congrArg (fun z : AlK => z.2) c
  have e2 : (fn.map fun d => He5.fnA K (d.at_ K))[i]? = (fn.map He5.DefA.val)[i]? := by rw [(List.cons.inj e).2]
  rw [List.getElem?_map, List.getElem?_map, h] at e2
  exact He5.DefA.funD (Option.some.inj e2) (List.all_eq_true.mp e1 d (List.mem_of_getElem? h))
end
/-! ### what they say -/
section
variable {K : PySem.W.Frag} {h : Heap} {mg : Str → Option Value}
theorem df15 (X : K.In h) (G : h.Ns mainGlobals mg) (c : SaysK K) : Df K mg "is_whole" (top 15) := by
  obtain ⟨fd, F⟩ := c.def_ 0 (d := dl15) rfl
  exact ⟨_, fd, He.glo_ok X G (c.fact 17 (f := .glo "is_whole") rfl), F⟩
theorem df16 (X : K.In h) (G : h.Ns mainGlobals mg) (c : SaysK K) : Df K mg "is_address" (top 16) := by
  obtain ⟨fd, F⟩ := c.def_ 1 (d := dl16) rfl
  exact ⟨_, fd, He.glo_ok X G (c.fact 18 (f := .glo "is_address") rfl), F⟩
theorem df17 (X : K.In h) (G : h.Ns mainGlobals mg) (c : SaysK K) : Df K mg "is_operand" (top 17) := by
  obtain ⟨fd, F⟩ := c.def_ 2 (d := dl17) rfl
  exact ⟨_, fd, He.glo_ok X G (c.fact 19 (f := .glo "is_operand") rfl), F⟩
theorem df18 (X : K.In h) (G : h.Ns mainGlobals mg) (c : SaysK K) : Df K mg "is_field" (top 18) := by
  obtain ⟨fd, F⟩ := c.def_ 3 (d := dl18) rfl
  exact ⟨_, fd, He.glo_ok X G (c.fact 20 (f := .glo "is_field") rfl), F⟩
theorem df19 (X : K.In h) (G : h.Ns mainGlobals mg) (c : SaysK K) : Df K mg "cells_in" (top 19) := by
  obtain ⟨fd, F⟩ := c.def_ 4 (d := dl19) rfl
  exact ⟨_, fd, He.glo_ok X G (c.fact 21 (f := .glo "cells_in") rfl), F⟩
theorem df20 (X : K.In h) (G : h.Ns mainGlobals mg) (c : SaysK K) : Df K mg "bounds_at" (top 20) := by
  obtain ⟨fd, F⟩ := c.def_ 5 (d := dl20) rfl
  exact ⟨_, fd, He.glo_ok X G (c.fact 22 (f := .glo "bounds_at") rfl), F⟩
theorem df21 (X : K.In h) (G : h.Ns mainGlobals mg) (c : SaysK K) : Df K mg "field_cells" (top 21) := by
  obtain ⟨fd, F⟩ := c.def_ 6 (d := dl21) rfl
  exact ⟨_, fd, He.glo_ok X G (c.fact 23 (f := .glo "field_cells") rfl), F⟩
theorem df27 (X : K.In h) (G : h.Ns mainGlobals mg) (c : SaysK K) : Df K mg "name_end" (top 27) := by
  obtain ⟨fd, F⟩ := c.def_ 7 (d := dl27) rfl
  exact ⟨_, fd, He.glo_ok X G (c.fact 24 (f := .glo "name_end") rfl), F⟩
theorem df30 (X : K.In h) (G : h.Ns mainGlobals mg) (c : SaysK K) : Df K mg "is_name" (top 30) := by
  obtain ⟨fd, F⟩ := c.def_ 8 (d := dl30) rfl
  exact ⟨_, fd, He.glo_ok X G (c.fact 25 (f := .glo "is_name") rfl), F⟩
theorem df31 (X : K.In h) (G : h.Ns mainGlobals mg) (c : SaysK K) : Df K mg "is_reserved" (top 31) := by
  obtain ⟨fd, F⟩ := c.def_ 9 (d := dl31) rfl
  exact ⟨_, fd, He.glo_ok X G (c.fact 26 (f := .glo "is_reserved") rfl), F⟩
theorem df38 (X : K.In h) (G : h.Ns mainGlobals mg) (c : SaysK K) : Df K mg "is_cell" (top 38) := by
  obtain ⟨fd, F⟩ := c.def_ 10 (d := dl38) rfl
  exact ⟨_, fd, He.glo_ok X G (c.fact 27 (f := .glo "is_cell") rfl), F⟩
theorem df39 (X : K.In h) (G : h.Ns mainGlobals mg) (c : SaysK K) : Df K mg "is_tuple_of" (top 39) := by
  obtain ⟨fd, F⟩ := c.def_ 11 (d := dl39) rfl
  exact ⟨_, fd, He.glo_ok X G (c.fact 28 (f := .glo "is_tuple_of") rfl), F⟩
theorem df40 (X : K.In h) (G : h.Ns mainGlobals mg) (c : SaysK K) : Df K mg "is_free_name" (top 40) := by
  obtain ⟨fd, F⟩ := c.def_ 12 (d := dl40) rfl
  exact ⟨_, fd, He.glo_ok X G (c.fact 29 (f := .glo "is_free_name") rfl), F⟩
theorem df41 (X : K.In h) (G : h.Ns mainGlobals mg) (c : SaysK K) : Df K mg "is_form" (top 41) := by
  obtain ⟨fd, F⟩ := c.def_ 13 (d := dl41) rfl
  exact ⟨_, fd, He.glo_ok X G (c.fact 30 (f := .glo "is_form") rfl), F⟩
theorem df42 (X : K.In h) (G : h.Ns mainGlobals mg) (c : SaysK K) : Df K mg "length_of" (top 42) := by
  obtain ⟨fd, F⟩ := c.def_ 14 (d := dl42) rfl
  exact ⟨_, fd, He.glo_ok X G (c.fact 31 (f := .glo "length_of") rfl), F⟩
theorem df43 (X : K.In h) (G : h.Ns mainGlobals mg) (c : SaysK K) : Df K mg "can_follow" (top 43) := by
  obtain ⟨fd, F⟩ := c.def_ 15 (d := dl43) rfl
  exact ⟨_, fd, He.glo_ok X G (c.fact 32 (f := .glo "can_follow") rfl), F⟩
theorem df44 (X : K.In h) (G : h.Ns mainGlobals mg) (c : SaysK K) : Df K mg "do_clash" (top 44) := by
  obtain ⟨fd, F⟩ := c.def_ 16 (d := dl44) rfl
  exact ⟨_, fd, He.glo_ok X G (c.fact 33 (f := .glo "do_clash") rfl), F⟩
theorem df45 (X : K.In h) (G : h.Ns mainGlobals mg) (c : SaysK K) : Df K mg "need_forms" (top 45) := by
  obtain ⟨fd, F⟩ := c.def_ 17 (d := dl45) rfl
  exact ⟨_, fd, He.glo_ok X G (c.fact 34 (f := .glo "need_forms") rfl), F⟩
theorem df46 (X : K.In h) (G : h.Ns mainGlobals mg) (c : SaysK K) : Df K mg "need_rows" (top 46) := by
  obtain ⟨fd, F⟩ := c.def_ 18 (d := dl46) rfl
  exact ⟨_, fd, He.glo_ok X G (c.fact 35 (f := .glo "need_rows") rfl), F⟩
theorem df47 (X : K.In h) (G : h.Ns mainGlobals mg) (c : SaysK K) : Df K mg "need_operands" (top 47) := by
  obtain ⟨fd, F⟩ := c.def_ 19 (d := dl47) rfl
  exact ⟨_, fd, He.glo_ok X G (c.fact 36 (f := .glo "need_operands") rfl), F⟩
theorem df48 (X : K.In h) (G : h.Ns mainGlobals mg) (c : SaysK K) : Df K mg "need_address" (top 48) := by
  obtain ⟨fd, F⟩ := c.def_ 20 (d := dl48) rfl
  exact ⟨_, fd, He.glo_ok X G (c.fact 37 (f := .glo "need_address") rfl), F⟩
theorem df49 (X : K.In h) (G : h.Ns mainGlobals mg) (c : SaysK K) : Df K mg "misfit_in" (top 49) := by
  obtain ⟨fd, F⟩ := c.def_ 21 (d := dl49) rfl
  exact ⟨_, fd, He.glo_ok X G (c.fact 38 (f := .glo "misfit_in") rfl), F⟩
theorem df50 (X : K.In h) (G : h.Ns mainGlobals mg) (c : SaysK K) : Df K mg "first_fit" (top 50) := by
  obtain ⟨fd, F⟩ := c.def_ 22 (d := dl50) rfl
  exact ⟨_, fd, He.glo_ok X G (c.fact 39 (f := .glo "first_fit") rfl), F⟩
theorem df51 (X : K.In h) (G : h.Ns mainGlobals mg) (c : SaysK K) : Df K mg "cells_by" (top 51) := by
  obtain ⟨fd, F⟩ := c.def_ 23 (d := dl51) rfl
  exact ⟨_, fd, He.glo_ok X G (c.fact 40 (f := .glo "cells_by") rfl), F⟩
theorem df54 (X : K.In h) (G : h.Ns mainGlobals mg) (c : SaysK K) : Df K mg "_law_begin" (top 54) := by
  obtain ⟨fd, F⟩ := c.def_ 24 (d := dl54) rfl
  exact ⟨_, fd, He.glo_ok X G (c.fact 41 (f := .glo "_law_begin") rfl), F⟩
theorem df55 (X : K.In h) (G : h.Ns mainGlobals mg) (c : SaysK K) : Df K mg "_law_draw" (top 55) := by
  obtain ⟨fd, F⟩ := c.def_ 25 (d := dl55) rfl
  exact ⟨_, fd, He.glo_ok X G (c.fact 42 (f := .glo "_law_draw") rfl), F⟩
theorem df56 (X : K.In h) (G : h.Ns mainGlobals mg) (c : SaysK K) : Df K mg "_law_pick" (top 56) := by
  obtain ⟨fd, F⟩ := c.def_ 26 (d := dl56) rfl
  exact ⟨_, fd, He.glo_ok X G (c.fact 43 (f := .glo "_law_pick") rfl), F⟩
theorem df57 (X : K.In h) (G : h.Ns mainGlobals mg) (c : SaysK K) : Df K mg "_law_mixed" (top 57) := by
  obtain ⟨fd, F⟩ := c.def_ 27 (d := dl57) rfl
  exact ⟨_, fd, He.glo_ok X G (c.fact 44 (f := .glo "_law_mixed") rfl), F⟩
theorem df58 (X : K.In h) (G : h.Ns mainGlobals mg) (c : SaysK K) : Df K mg "_law_codes" (top 58) := by
  obtain ⟨fd, F⟩ := c.def_ 28 (d := dl58) rfl
  exact ⟨_, fd, He.glo_ok X G (c.fact 45 (f := .glo "_law_codes") rfl), F⟩
theorem df59 (X : K.In h) (G : h.Ns mainGlobals mg) (c : SaysK K) : Df K mg "_law_slot" (top 59) := by
  obtain ⟨fd, F⟩ := c.def_ 29 (d := dl59) rfl
  exact ⟨_, fd, He.glo_ok X G (c.fact 46 (f := .glo "_law_slot") rfl), F⟩
theorem df60 (X : K.In h) (G : h.Ns mainGlobals mg) (c : SaysK K) : Df K mg "_law_width" (top 60) := by
  obtain ⟨fd, F⟩ := c.def_ 30 (d := dl60) rfl
  exact ⟨_, fd, He.glo_ok X G (c.fact 47 (f := .glo "_law_width") rfl), F⟩
theorem df61 (X : K.In h) (G : h.Ns mainGlobals mg) (c : SaysK K) : Df K mg "_law_long" (top 61) := by
  obtain ⟨fd, F⟩ := c.def_ 31 (d := dl61) rfl
  exact ⟨_, fd, He.glo_ok X G (c.fact 48 (f := .glo "_law_long") rfl), F⟩
theorem df62 (X : K.In h) (G : h.Ns mainGlobals mg) (c : SaysK K) : Df K mg "_law_shapes" (top 62) := by
  obtain ⟨fd, F⟩ := c.def_ 32 (d := dl62) rfl
  exact ⟨_, fd, He.glo_ok X G (c.fact 49 (f := .glo "_law_shapes") rfl), F⟩
theorem df63 (X : K.In h) (G : h.Ns mainGlobals mg) (c : SaysK K) : Df K mg "_law_plan" (top 63) := by
  obtain ⟨fd, F⟩ := c.def_ 33 (d := dl63) rfl
  exact ⟨_, fd, He.glo_ok X G (c.fact 50 (f := .glo "_law_plan") rfl), F⟩
theorem df64 (X : K.In h) (G : h.Ns mainGlobals mg) (c : SaysK K) : Df K mg "_law_bounds" (top 64) := by
  obtain ⟨fd, F⟩ := c.def_ 34 (d := dl64) rfl
  exact ⟨_, fd, He.glo_ok X G (c.fact 51 (f := .glo "_law_bounds") rfl), F⟩
theorem df65 (X : K.In h) (G : h.Ns mainGlobals mg) (c : SaysK K) : Df K mg "_law_put" (top 65) := by
  obtain ⟨fd, F⟩ := c.def_ 35 (d := dl65) rfl
  exact ⟨_, fd, He.glo_ok X G (c.fact 52 (f := .glo "_law_put") rfl), F⟩
theorem df66 (X : K.In h) (G : h.Ns mainGlobals mg) (c : SaysK K) : Df K mg "_law_coded" (top 66) := by
  obtain ⟨fd, F⟩ := c.def_ 36 (d := dl66) rfl
  exact ⟨_, fd, He.glo_ok X G (c.fact 53 (f := .glo "_law_coded") rfl), F⟩
theorem df67 (X : K.In h) (G : h.Ns mainGlobals mg) (c : SaysK K) : Df K mg "_law_misfit" (top 67) := by
  obtain ⟨fd, F⟩ := c.def_ 37 (d := dl67) rfl
  exact ⟨_, fd, He.glo_ok X G (c.fact 54 (f := .glo "_law_misfit") rfl), F⟩
theorem df68 (X : K.In h) (G : h.Ns mainGlobals mg) (c : SaysK K) : Df K mg "_law_near" (top 68) := by
  obtain ⟨fd, F⟩ := c.def_ 38 (d := dl68) rfl
  exact ⟨_, fd, He.glo_ok X G (c.fact 55 (f := .glo "_law_near") rfl), F⟩
theorem df69 (X : K.In h) (G : h.Ns mainGlobals mg) (c : SaysK K) : Df K mg "_law_first" (top 69) := by
  obtain ⟨fd, F⟩ := c.def_ 39 (d := dl69) rfl
  exact ⟨_, fd, He.glo_ok X G (c.fact 56 (f := .glo "_law_first") rfl), F⟩
theorem df70 (X : K.In h) (G : h.Ns mainGlobals mg) (c : SaysK K) : Df K mg "_law_made" (top 70) := by
  obtain ⟨fd, F⟩ := c.def_ 40 (d := dl70) rfl
  exact ⟨_, fd, He.glo_ok X G (c.fact 57 (f := .glo "_law_made") rfl), F⟩
theorem df71 (X : K.In h) (G : h.Ns mainGlobals mg) (c : SaysK K) : Df K mg "_law_right" (top 71) := by
  obtain ⟨fd, F⟩ := c.def_ 41 (d := dl71) rfl
  exact ⟨_, fd, He.glo_ok X G (c.fact 58 (f := .glo "_law_right") rfl), F⟩
theorem df72 (X : K.In h) (G : h.Ns mainGlobals mg) (c : SaysK K) : Df K mg "law" (top 72) := by
  obtain ⟨fd, F⟩ := c.def_ 42 (d := dl72) rfl
  exact ⟨_, fd, He.glo_ok X G (c.fact 59 (f := .glo "law") rfl), F⟩
theorem tbK (X : K.In h) (G : h.Ns mainGlobals mg) (c : SaysK K) : Tb mg := ⟨He.free_ok X G (c.fact 0 (f := .free "isinstance") rfl), He.free_ok X G (c.fact 1 (f := .free "int") rfl), He.free_ok X G (c.fact 2 (f := .free "bool") rfl), He.free_ok X G (c.fact 3 (f := .free "str") rfl), He.free_ok X G (c.fact 4 (f := .free "tuple") rfl), He.free_ok X G (c.fact 5 (f := .free "len") rfl), He.free_ok X G (c.fact 6 (f := .free "range") rfl), He.free_ok X G (c.fact 7 (f := .free "enumerate") rfl), He.free_ok X G (c.fact 8 (f := .free "all") rfl), He.free_ok X G (c.fact 9 (f := .free "any") rfl), He.free_ok X G (c.fact 10 (f := .free "sum") rfl), He.free_ok X G (c.fact 11 (f := .free "list") rfl), He.free_ok X G (c.fact 12 (f := .free "zip") rfl), He.free_ok X G (c.fact 13 (f := .free "max") rfl), He.free_ok X G (c.fact 14 (f := .free "min") rfl), He.free_ok X G (c.fact 15 (f := .free "repr") rfl), He.free_ok X G (c.fact 16 (f := .free "super") rfl)⟩
theorem ci_MOST_ADDRESS (X : K.In h) (G : h.Ns mainGlobals mg) (c : SaysK K) : ∃ t, mg "MOST_ADDRESS" = some (.int (2 ^ 40) t) := He.int_ok X G (c.fact 64 (f := .int "MOST_ADDRESS" (2 ^ 40)) rfl)
theorem ci_MOST_OPERAND (X : K.In h) (G : h.Ns mainGlobals mg) (c : SaysK K) : ∃ t, mg "MOST_OPERAND" = some (.int (2 ^ 64) t) := He.int_ok X G (c.fact 65 (f := .int "MOST_OPERAND" (2 ^ 64)) rfl)
theorem ci_BITS (X : K.In h) (G : h.Ns mainGlobals mg) (c : SaysK K) : ∃ t, mg "BITS" = some (.int 8 t) := He.int_ok X G (c.fact 66 (f := .int "BITS" 8) rfl)
theorem ci_BASE (X : K.In h) (G : h.Ns mainGlobals mg) (c : SaysK K) : ∃ t, mg "BASE" = some (.int 256 t) := He.int_ok X G (c.fact 67 (f := .int "BASE" 256) rfl)
theorem ci_MAX_NAME (X : K.In h) (G : h.Ns mainGlobals mg) (c : SaysK K) : ∃ t, mg "MAX_NAME" = some (.int 40 t) := He.int_ok X G (c.fact 68 (f := .int "MAX_NAME" 40) rfl)
theorem ci_MOST_CELL (X : K.In h) (G : h.Ns mainGlobals mg) (c : SaysK K) : ∃ t, mg "MOST_CELL" = some (.int 255 t) := He.int_ok X G (c.fact 69 (f := .int "MOST_CELL" 255) rfl)
theorem ci_MOST_OPCODE (X : K.In h) (G : h.Ns mainGlobals mg) (c : SaysK K) : ∃ t, mg "MOST_OPCODE" = some (.int 3 t) := He.int_ok X G (c.fact 70 (f := .int "MOST_OPCODE" 3) rfl)
theorem ci_MOST_OPERANDS (X : K.In h) (G : h.Ns mainGlobals mg) (c : SaysK K) : ∃ t, mg "MOST_OPERANDS" = some (.int 4 t) := He.int_ok X G (c.fact 71 (f := .int "MOST_OPERANDS" 4) rfl)
theorem ci_MOST_ROWS (X : K.In h) (G : h.Ns mainGlobals mg) (c : SaysK K) : ∃ t, mg "MOST_ROWS" = some (.int 100 t) := He.int_ok X G (c.fact 72 (f := .int "MOST_ROWS" 100) rfl)
theorem ci_MOST_FORMS (X : K.In h) (G : h.Ns mainGlobals mg) (c : SaysK K) : ∃ t, mg "MOST_FORMS" = some (.int 6 t) := He.int_ok X G (c.fact 73 (f := .int "MOST_FORMS" 6) rfl)
theorem cs_TOLD (X : K.In h) (G : h.Ns mainGlobals mg) (c : SaysK K) : ∃ t, mg "TOLD" = some (.str "n" t) := He.str_ok X G (c.fact 74 (f := .str "TOLD" "n") rfl)
theorem cs_NAME_SIGNS (X : K.In h) (G : h.Ns mainGlobals mg) (c : SaysK K) : ∃ t, mg "NAME_SIGNS" = some (.str signs t) := He.str_ok X G (c.fact 75 (f := .str "NAME_SIGNS" signs) rfl)
theorem cs_LETTERS (X : K.In h) (G : h.Ns mainGlobals mg) (c : SaysK K) : ∃ t, mg "LETTERS" = some (.str letters t) := He.str_ok X G (c.fact 76 (f := .str "LETTERS" letters) rfl)
theorem ct_FIELD (X : K.In h) (G : h.Ns mainGlobals mg) (c : SaysK K) : ∃ a, mg "FIELD_WORDS" = some (.ref a) ∧ ∀ H, SqT K H a fwords := ⟨_, He.glo_ok X G (c.fact 62 (f := .glo "FIELD_WORDS") rfl), tupA_ok (c.more 1 (f := fun K => tupA K (He.ga K "FIELD_WORDS") fwords) rfl)⟩
theorem ct_RESERVED (X : K.In h) (G : h.Ns mainGlobals mg) (c : SaysK K) : ∃ a, mg "RESERVED" = some (.ref a) ∧ ∀ H, SqT K H a reserved := ⟨_, He.glo_ok X G (c.fact 63 (f := .glo "RESERVED") rfl), tupA_ok (c.more 2 (f := fun K => tupA K (He.ga K "RESERVED") reserved) rfl)⟩
theorem tcK (X : K.In h) (G : h.Ns mainGlobals mg) (c : SaysK K) : TC K mg (cT K) := ⟨He.glo_ok X G (c.fact 60 (f := .glo "Table") rfl), He.cls_ok (c.fact 80 (f := .cls "Table") rfl), He.noat_ok (c.fact 77 (f := .noat "Table" "own_rows") rfl), He.noat_ok (c.fact 78 (f := .noat "Table" "own_forms") rfl), He.noat_ok (c.fact 79 (f := .noat "Table" "own_places") rfl)⟩
theorem mkK (c : SaysK K) : Mk K (cT K) (He.ma K (cT K) "__init__") := He.mkr_ok (c.fact 81 (f := .mkr "Table") rfl)
theorem mfK (c : SaysK K) : Meth K (cT K) "fitting" (He.ma K (cT K) "fitting") := He.meth_ok (c.fact 82 (f := .meth "Table" "fitting") rfl)
theorem soK (c : SaysK K) : SubO K (cT K) (He.ma K (cT K) "__getitem__") :=
  have m := He.meth_ok (c.fact 83 (f := .meth "Table" "__getitem__") rfl)
  ⟨m.at_, m.fn, c.more 3 (f := fun K => PySem.W.fnIn K (He.ma K (cT K) "__getitem__")) rfl⟩
theorem coK (c : SaysK K) : StX.CallO K (cT K) (He.ma K (cT K) "__call__") :=
  have m := He.meth_ok (c.fact 84 (f := .meth "Table" "__call__") rfl)
  ⟨m.at_, m.fn, c.more 4 (f := fun K => PySem.W.fnIn K (He.ma K (cT K) "__call__")) rfl⟩
theorem crK (c : SaysK K) : ClX.CRead K (cT K) (.type "type") := ⟨c.more 5 (f := fun K => PySem.W.readsIn K (cT K) (.type "type")) rfl, He.eqO_ok (c.more 6 (f := fun K => He.eqO (PySem.W.specialIn K (.ref (cT K)) "__getattribute__") (some (some (.builtin "type.__getattribute__")))) rfl)⟩
theorem cmK (c : SaysK K) : ClX.CMet K (cT K) (.type "type") "of" (He.ma K (cT K) "of") (He5.wf K (cT K) "classmethod" "of") := He5.cmet_of (c.more 7 (f := fun K => He5.wrapB K (cT K) "classmethod" "classmethod.__get__" "of") rfl) (c.more 8 (f := fun K => PySem.W.fnIn K (He5.wf K (cT K) "classmethod" "of")) rfl)
theorem boK {P : Program} (hP : P.main.file = prg.main.file) (hS : (P.main.scope.names.lookup ("super" : Str)).isSome = false) (X : K.In h) (G : h.Ns mainGlobals mg) (c : SaysK K) : BoTxt P K mg (cB K) (fB K) where
  gC := He.glo_ok X G (c.fact 61 (f := .glo "BadOperands") rfl)
  gS := (tbK X G c).super
  cls := excB_ok (c.more 9 (f := fun K => excB K (cB K)) rfl)
  sa := He.eqO_ok (c.more 10 (f := fun K => He.eqO (PySem.W.findIn K (.ref (cB K)) "__setattr__") (some (some (.builtin "object.__setattr__")))) rfl)
  ga := He.eqO_ok (c.more 11 (f := fun K => He.eqO (PySem.W.findIn K (.ref (cB K)) "__getattribute__") (some (some (.builtin "BaseException.__getattribute__")))) rfl)
  gg := He.eqO_ok (c.most 0 (f := fun K => He.eqO (PySem.W.findIn K (.ref (cB K)) "__getattr__") (some none)) rfl)
  noN := He.eqO_ok (c.most 1 (f := fun K => He.eqO (PySem.W.findIn K (.ref (cB K)) "index") (some none)) rfl)
  iC := He.eqO_ok (c.most 2 (f := fun K => He.eqO (PySem.W.findIn K (.ref (cB K)) "__init__") (some (some (.ref (fB K))))) rfl)
  tC := of_decide_eq_true (c.most 3 (f := fun K => decide (PySem.W.typeIn K (.ref (fB K)) = some (.type "function"))) rfl)
  kC := c.most 4 (f := fun K => PySem.W.keepIn K (.ref (cB K))) rfl
  exC := of_decide_eq_true (c.most 5 (f := fun K => decide (PySem.W.subIn K (.ref (cB K)) (.type "BaseException") = some true)) rfl)
  tyC := of_decide_eq_true (c.most 6 (f := fun K => decide (PySem.W.typeIn K (.ref (cB K)) = some (.type "type"))) rfl)
  hdC := c.most 7 (f := fun K => PySem.W.hasDictIn K (cB K)) rfl
  te := of_decide_eq_true (c.most 8 (f := fun K => decide (PySem.W.exmOne K (.ref (cB K)) (.ref (cB K)) = some true)) rfl)
  self := of_decide_eq_true (c.most 9 (f := fun K => decide (PySem.W.mroIn K (cB K) (.ref (cB K)) = some true)) rfl)
  sup := He.eqO_ok (c.most 10 (f := fun K => He.eqO (PySem.W.ks_superIn K (cB K) (cB K) "__init__") (some (some (.builtin "ValueError.__init__")))) rfl)
  ve := of_decide_eq_true (c.most 11 (f := fun K => decide (PySem.W.subIn K (.ref (cB K)) (.type "ValueError") = some true)) rfl)
  opq := He.eqO_ok (c.most 12 (f := fun K => He.eqO (PySem.W.nsIn K cStatics "thirdparty.any") (some none)) rfl)
  fn := hP ▸ iniB_ok c.bo (c.most 13 (f := fun K => iniB prg.main.file K) rfl)
  top := hS
theorem fdTi (c : SaysK K) : ∃ fd, FunD K "__init__" "Table.__init__" (defArgs sTi) (defBody sTi) (defScope sTi) [] [] (He.ma K (cT K) "__init__") fd := c.def_ 43 (d := dTi) rfl
theorem fdTg (c : SaysK K) : ∃ fd, FunD K "__getitem__" "Table.__getitem__" (defArgs sTg) (defBody sTg) (defScope sTg) [] [] (He.ma K (cT K) "__getitem__") fd := c.def_ 44 (d := dTg) rfl
theorem fdTc (c : SaysK K) : ∃ fd, FunD K "__call__" "Table.__call__" (defArgs sTc) (defBody sTc) (defScope sTc) [.int 0] [] (He.ma K (cT K) "__call__") fd := c.def_ 45 (d := dTc) rfl
theorem fdTf (c : SaysK K) : ∃ fd, FunD K "fitting" "Table.fitting" (defArgs sTf) (defBody sTf) (defScope sTf) [] [("address", .int 0), ("first", .int 0), ("moving", .ref (pM K))] (He.ma K (cT K) "fitting") fd := c.def_ 46 (d := dTf) rfl
theorem fdTo (c : SaysK K) : ∃ fd, FunD K "of" "Table.of" (defArgs sTo) (defBody sTo) (defScope sTo) [] [] (He5.wf K (cT K) "classmethod" "of") fd := c.def_ 47 (d := dTo) rfl
theorem pmK (c : SaysK K) (H : Hp) : SqT K H (pM K) [] := tupA_ok (c.more 0 (f := fun K => tupA K (pM K) []) rfl) H
end
end K51
set_option Elab.async false
set_option linter.all false
set_option maxRecDepth 100000
set_option maxHeartbeats 0
/-! the head's run -/
namespace K51
open PySem PySem.Spec PyProof.Rows L2
def loose1 : List Str := ["_wall", "TextError", "LookupTrouble", "BadOperands", "BadTable", "BadNumber", "NoInstruction", "FIELD_WORDS", "TOLD", "BASE", "BITS", "MOST_ADDRESS"]
def loose2 : List Str := ["MOST_OPERAND", "is_whole", "is_address", "is_operand", "is_field", "cells_in", "bounds_at", "field_cells", "LETTERS", "DIGITS", "NAME_SIGNS", "MAX_NAME"]
def loose3 : List Str := ["name_end", "RESERVED", "is_name", "is_reserved", "MOST_ROWS", "MOST_FORMS", "MOST_OPCODE", "MOST_OPERANDS", "MOST_CELL", "is_cell", "is_tuple_of", "is_free_name"]
def loose4 : List Str := ["is_form", "length_of", "can_follow", "do_clash", "need_forms", "need_rows", "need_operands", "need_address", "misfit_in", "first_fit", "cells_by", "Table"]
def loose5 : List Str := ["_law_begin", "_law_draw", "_law_pick", "_law_mixed", "_law_codes", "_law_slot", "_law_width", "_law_long", "_law_shapes", "_law_plan", "_law_bounds", "_law_put"]
def loose6 : List Str := ["_law_coded", "_law_misfit", "_law_near", "_law_first", "_law_made", "_law_right"]
def looseN : List Str := loose1 ++ (loose2 ++ (loose3 ++ (loose4 ++ (loose5 ++ (loose6)))))
abbrev RR : PySem.W.OpenRow := PySem.W.OpenLaw.row PySem.Challenge.rw_macroasm_k51_whole_first_forms_that_fit
def obK (s : PySem.W.SharedT) : AlK := obsKG (HandSHeadRun.getT s)
theorem obK_eq (s : PySem.W.SharedT) : obK s = hookK.obs s.abs := by
  have e : HandSHeadRun.getT s = s.abs.heap.get? := funext (HandSHeadRun.getT_eq s)
  show obsKG (HandSHeadRun.getT s) = obsKG s.abs.heap.get?
  rw [e]
theorem runK (w : World) : HandSHeadRun.RunEq RR (PySem.W.view RR.prog [72]) hookK obK 12000 looseN w := by
  intro os
  kernel_rfl
end K51
set_option Elab.async false
set_option linter.all false
set_option maxRecDepth 100000
set_option maxHeartbeats 0
/-! all together -/
namespace K51
open PySem PySem.Spec PyProof.Rows L2
section
variable {P : Program} {w : World} {K : PySem.W.Frag} {h : Heap} {mg : Str → Option Value} {base : Heap}
/-- fitting called with keywords -/
theorem fitK (c : SaysK K) {fd : FuncData} (F : FunD K "fitting" "Table.fitting" (defArgs sTf) (defBody sTf) (defScope sTf) [] [("address", .int 0), ("first", .int 0), ("moving", .ref (pM K))] (He.ma K (cT K) "fitting") fd)
    (FF : FnOk P w K mg base CX0 6 (He.ma K (cT K) "fitting") fd ["self", "name", "operands", "address", "first", "moving"] (spFit K (cT K))) : FitM P w K mg base (cT K) := by
  refine ⟨_, fd, pM K, mfK c, FF, pmK c, ?_, ?_, ?_⟩
  · obtain ⟨mv, k⟩ := F.kbinds0 (ps := ["self", "name", "operands", "address", "first", "moving"]) 3 ["address", "first"] [("moving", .ref (pM K))] (fun vs mz zs => vs ++ (zs ++ mz)) (fun z => by cases z) (fun q hq => by
      rw [List.mem_singleton] at hq
      rw [hq]
      exact List.mem_cons_of_mem _ (List.mem_cons_of_mem _ (List.mem_cons_self ..))) (fun r1 r2 r3 => r1.append (r3.append r2)) fun D doc pm an cdv ct us mv ws l1 l2 l3 => match us, l1, mv, l2, ws, l3 with
      | [u1, u2, u3], _, [m1], _, [w1, w2], _ => ⟨_, _, _, _, _, _, rfl, rfl, rfl⟩
    exact ⟨_, k⟩
  · obtain ⟨mv, k⟩ := F.kbinds0 (ps := ["self", "name", "operands", "address", "first", "moving"]) 3 ["address", "first", "moving"] [] (fun vs mz zs => vs ++ (zs ++ mz)) (fun z => by cases z) (fun q hq => by cases hq) (fun r1 r2 r3 => r1.append (r3.append r2)) fun D doc pm an cdv ct us mv ws l1 l2 l3 => match us, l1, mv, l2, ws, l3 with
      | [u1, u2, u3], _, [], _, [w1, w2, w3], _ => rfl
    exact ⟨_, k⟩
  · obtain ⟨mv, k⟩ := F.kbinds0 (ps := ["self", "name", "operands", "address", "first", "moving"]) 3 ["moving"] [("address", .int 0), ("first", .int 0)] (fun vs mz zs => vs ++ (mz ++ zs)) (fun z => by cases z) (fun q hq => by
      rcases List.mem_cons.mp hq with e | hq
      · rw [e]
        exact List.mem_cons_self ..
      · rw [List.mem_singleton] at hq
        rw [hq]
        exact List.mem_cons_of_mem _ (List.mem_cons_self ..)) (fun r1 r2 r3 => r1.append (r2.append r3)) fun D doc pm an cdv ct us mv ws l1 l2 l3 => match us, l1, mv, l2, ws, l3 with
      | [u1, u2, u3], _, [m1, m2], _, [w1], _ => ⟨_, _, _, _, _, _, rfl, rfl, _, _, _, _, _, _, rfl, rfl, rfl⟩
    exact ⟨_, k⟩
/-- all promises, by the head's facts -/
theorem factsK {f : Addr} (hP : P.main.file = prg.main.file) (hS : (P.main.scope.names.lookup ("super" : Str)).isSome = false) (X : K.In h) (G : h.Ns mainGlobals mg) (hfa : mg ("law" : Str) = some (.ref f)) (c : SaysK K) :
    ∃ fd : FuncData, (∀ (s : Shared) (v : Value), BindsTo s fd ⟨[v], []⟩ [("_law_script", v)]) ∧ ∀ base : Heap, K.In base → base.Ns mainGlobals mg → FnG P w K mg base 10 f fd ["_law_script"] (spLaw K) := by
  obtain ⟨fl, fd, gl, FL⟩ := df72 X G c
  have e := hfa.symm.trans gl
  cases e
  have b := FunD.bindsA (ps := ["_law_script"]) FL fun _ _ _ _ _ _ us hl => match us, hl with | [_], _ => rfl
  refine ⟨fd, fun s v => b s [v] rfl, fun base _ _ => ?_⟩
  have T := tbK X G c
  have Z := tcK X G c
  have B : BoTxt P K mg (cB K) (fB K) := boK hP hS X G c
  -- the text's defs
  have hwhole := ok_whole (P := P) (w := w) (base := base) T (df15 X G c)
  have haddr := ok_address (df16 X G c) hwhole (ci_MOST_ADDRESS X G c)
  have hoper := ok_operand (df17 X G c) hwhole (ci_MOST_OPERAND X G c)
  have hfield := ok_field T (df18 X G c) hoper (cs_TOLD X G c) (ct_FIELD X G c)
  have hcells := ok_cells (P := P) (w := w) (base := base) T (df19 X G c)
  have hbounds := ok_bounds T (df20 X G c) hcells (ci_BITS X G c)
  have hput := ok_putc T (df21 X G c) hcells (ci_BASE X G c)
  have hnend := ok_nameEnd (P := P) (w := w) (base := base) T (df27 X G c) (cs_NAME_SIGNS X G c) (cs_LETTERS X G c) (ci_MAX_NAME X G c)
  have hname := ok_name T (df30 X G c) hnend
  have hres := ok_reserved (P := P) (w := w) (base := base) T (df31 X G c) (ct_RESERVED X G c)
  have hcell := ok_cell (df38 X G c) hwhole (ci_MOST_CELL X G c)
  have htup := ok_tupleOf (P := P) (w := w) (base := base) T (df39 X G c)
  have hfree := ok_free (df40 X G c) hname hres
  have hform := ok_form T (df41 X G c) htup hcell hfield (ci_MOST_OPCODE X G c) (ci_MOST_OPERANDS X G c)
  have hlen := ok_len T (df42 X G c) hcells
  have hfol := ok_follow T (df43 X G c) hlen
  have hcla := ok_clash (P := P) (w := w) (base := base) T (df44 X G c)
  have hnf := ok_needForms T (df45 X G c) hform hfol hcla
  have hnr := ok_needRows T (df46 X G c) htup hfree hnf (ci_MOST_ROWS X G c) (ci_MOST_FORMS X G c)
  have hno := ok_operands T (df47 X G c) htup hoper
  have hna := ok_needAddress (df48 X G c) haddr
  have hmis := ok_misfit T (df49 X G c) hlen hbounds
  have hff := ok_first T (df50 X G c) hmis
  have hby := ok_by T (df51 X G c) hlen hput
  -- the class
  obtain ⟨fi, FI⟩ := fdTi c
  obtain ⟨fg, FG⟩ := fdTg c
  obtain ⟨fc, FC⟩ := fdTc c
  obtain ⟨ff, FF⟩ := fdTf c
  obtain ⟨fo, FO⟩ := fdTo c
  have kI := ok_tinit T FI Z hnr
  have M := mkK c
  have S := soK c
  have oO := ok_of T FO M kI
  have rO := oO.raw (FO.bindsN fun _ _ _ _ _ _ us hl => match us, hl with | [_, _], _ => rfl) .nil
  have rG : L2.FnR P w K mg base CX0 1 (He.ma K (cT K) "__getitem__") (spGet (cT K)) := by
    have oG := ok_get (P := P) (w := w) (base := base) T Z FG
    have r := oG.raw (FG.bindsN fun _ _ _ _ _ _ us hl => match us, hl with | [_, _], _ => rfl) .nil
    refine r.imp fun vs H Q E q => ?_
    rw [List.append_nil]
    exact q
  have oC := ok_call Z FC S rG hno hna hff hby B
  have oF := ok_fitting Z FF S rG hno hna hff hwhole (ci_MOST_FORMS X G c)
  have FM := fitK c FF oF
  have rC1 : L2.FnR P w K mg base (L2.CX P w) 6 (He.ma K (cT K) "__call__") (fun vs H Q E => spCall (cT K) (cB K) (vs ++ [.int 0]) H Q E) := by
    obtain ⟨ds, rd, bd⟩ := FC.binds1 (ps := ["self", "name", "operands", "address"]) 3 0 (fun z => by cases z) rfl fun D kV doc pm an cdv ct us its l1 l2 => match us, l1, its, l2 with
      | [u1, u2, u3], _, [i1], _ => ⟨_, rfl, rfl⟩
    exact oC.raw bd rd
  have rC2 : L2.FnR P w K mg base (L2.CX P w) 6 (He.ma K (cT K) "__call__") (spCall (cT K) (cB K)) := by
    obtain ⟨ds, rd, bd⟩ := FC.binds1 (ps := ["self", "name", "operands", "address"]) 4 1 (fun z => by cases z) rfl fun D kV doc pm an cdv ct us its l1 l2 => match us, l1, its, l2 with
      | [u1, u2, u3, u4], _, [i1], _ => ⟨_, rfl, rfl⟩
    have r := oC.raw bd rd
    refine r.imp fun vs H Q E q => ?_
    show spCall (cT K) (cB K) (vs ++ []) H Q E
    rw [List.append_nil]
    exact q
  -- the law's own
  have hbeg := ok_begin (P := P) (w := w) (base := base) T (df54 X G c)
  have hdraw := ok_draw (P := P) (w := w) (base := base) T (df55 X G c)
  have hpick := ok_pick T (df56 X G c) hdraw
  have hmix := ok_mixed T (df57 X G c) hdraw
  have hcod := ok_codes T (df58 X G c) hdraw hmix
  have hslot := ok_slot T (df59 X G c) hdraw hpick
  have hwid := ok_width (P := P) (w := w) (base := base) T (df60 X G c)
  have hlong := ok_long T (df61 X G c) hwid
  have hsh := ok_shapes T (df62 X G c) hdraw hslot hlong
  have hplan := ok_plan T (df63 X G c) hcod hdraw hmix hsh
  have hlb := ok_lbounds (P := P) (w := w) (base := base) T (df64 X G c)
  have hlp := ok_lput T (df65 X G c) hwid
  have hcd := ok_coded T (df66 X G c) hlong hlp
  have hlm := ok_lmisfit T (df67 X G c) hlong hlb
  have hnear := ok_near T (df68 X G c) hdraw hpick hlong hlb
  have hlf := ok_lfirst T (df69 X G c) hlm
  have hmade := ok_made (df70 X G c) B (coK c) rC2
  have hright := ok_right T (df71 X G c) Z hdraw hpick hnear hlf hcd hmade FM
  exact ok_law T FL Z hbeg hplan (crK c) (cmK c) rO hright M kI (coK c) rC1 FM
end
end K51
open PySem PySem.W PySem.Calls PyProof.Rows
theorem PySem.Challenge.cw_macroasm_k51_whole_first_forms_that_fit_holds : PySem.Challenge.rw_macroasm_k51_whole_first_forms_that_fit.Holds := by
  w_on; o_law
  refine HandSHeadRun.head_any (r := K51.RR) (q := view K51.RR.prog [72]) (H := K51.hookK) (ob := K51.obK) (M := 12000) (loose := K51.looseN) (d := HandSHeadRun.topDef K51.RR.prog 72) (kwd := []) K51.obK_eq
    (by kernel_rfl) (fun s => by kernel_rfl) K51.runK (by kernel_rfl) (by kernel_rfl) (by kernel_rfl) (by rfl) (by first | assumption | decide +kernel) (by decide +kernel) ⟨rfl, rfl, rfl, rfl, rfl, by decide +kernel⟩ ?hw ?hc
  case hw => w_witness2
  case hc =>
    refine K51.walk_ofG (l := PySem.Challenge.rw_macroasm_k51_whole_first_forms_that_fit) (n := 63) (k := 10) (x := "_law_script") rfl (by decide) (by kernel_rfl) ⟨rfl, by decide, by decide⟩ ?F
    intro w mg fa h Y G hmg0
    obtain ⟨K, KX, c⟩ := Y
    have hmg : mg ("law" : PySem.Str) = some (.ref fa) := by
      have e : (HandSHeadRun.topDef K51.RR.prog 72).name = ("law" : PySem.Str) := by kernel_rfl
      rw [← e]
      exact hmg0
    obtain ⟨fd, hb, hF⟩ := K51.factsK (P := PySem.Challenge.rw_macroasm_k51_whole_first_forms_that_fit.prog) (w := w) rfl (by kernel_rfl) KX G hmg c
    exact ⟨K, fd, K51.spLaw K, KX, hb, fun H a ns hl hS => ⟨a, ns, rfl, hS, hl, fun _ => rfl⟩, hF⟩
