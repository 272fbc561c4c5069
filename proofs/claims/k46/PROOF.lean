import PyProof.Rows.All
import HandS.Zip
import HandS.Iter
import PyProof.Draws
import PyProof.EnumMake
import PyProof.Rows.CallKwBuiltin
import Wide.All
import OpenK.AllK
import Wide.FinOn
import PyProof.EqAt
import PyProof.EqKinds
import PyProof.TupleCall
import PyProof.LongRange
import HandS.ForMost
import HandS.ForExc
import HandS.Flow
import HandS.Style
import HandS.IsInst
import HandS.Wide
import HandS.CallSlots
import KE.KxIndex
import HandS.TupAny
import HandS.DictComp
import HandS.SortInts
import HandS.SortRule
import HandS.More
import HandS.Conv
import HandS.ExcInit
import HandS.ExcIs
import HandS.ExcField
import KE.KExcInit
import PyProof.ExcBaseAll.LookupError
import PyProof.FactsTree
import KE.KExcIs
import HandS.SetFor
import KE.KTryMore
import HandS.Comp
import KE.KUnpackStar
import HandS.NoneIn
import HandS.Slots
import HandS.Defaults
import KE.KStateDown
import HandS.Head0
import HandS.Head1
import HandS.Head2
import HandS.HeadHook1
import HandS.HeadHook2
import HandS.HeadHook3
import HandS.HeadEnd
import HandS.MakeKwOnly
import PySem.Challenge.RW_quietlanes_k46_rules_left_out_by_hand
set_option Elab.async false
set_option linter.all false
set_option maxRecDepth 100000
set_option maxHeartbeats 4000000
/-! ZS: zip(list, text, strict=True), at the library's level. -/
namespace QL
open PySem PySem.Spec
open PySem.Sem (wp)
/-- a zip that is strict -/
abbrev IsZs (h : Heap) (z ti to : Addr) (f0 : Value) : Prop :=
  h.get? z = some { cls := .type "zip", dict := none, data := .fields #[f0, .bool false, .bool true, .ref ti, .ref to], slots := #[] }
abbrev SaI : String := "str_ascii_iterator"
section
variable {prog : Program} {w : World} {A : Around} {E : Value → Shared → Prop} {s : Shared}
theorem noe_item {it : Addr} {Q : Option Value → Shared → Prop} (g : wpAny (model prog w) A (Builtin.SmallTypes.nextOf (.ref it)) (fun v => Q (some v)) (fun _ _ => False) s) : wpAny (model prog w) A (Builtin.SmallTypes.nextOrEnd (.ref it)) Q E s := by
  unfold Builtin.SmallTypes.nextOrEnd
  refine wpAny_bind (wpAny_attempt (wpAny_mono g (fun v s1 q => ?_) (fun _ _ q => q.elim)))
  exact wpAny_pure q
theorem noe_end {it : Addr} {Q : Option Value → Shared → Prop} (g : wpAny (model prog w) A (Builtin.SmallTypes.nextOf (.ref it)) (fun _ _ => False) (fun e s1 => (∃ a o, e = .ref a ∧ s1.heap.get? a = some o ∧ o.cls = .type "StopIteration") ∧ Q none s1) s) : wpAny (model prog w) A (Builtin.SmallTypes.nextOrEnd (.ref it)) Q E s := by
  unfold Builtin.SmallTypes.nextOrEnd
  refine wpAny_bind (wpAny_attempt (wpAny_mono g (fun _ _ q => q.elim) (fun e s1 q => ?_)))
  obtain ⟨⟨a, o, rfl, ho, hc⟩, q⟩ := q
  show wpAny _ _ (isInstance (.ref a) (.type "StopIteration") >>= _) _ _ s1
  exact wpAny_bind (wpAny_isInstance (b := true) (T := "StopIteration") ⟨o, ho, hc⟩ isSubtype_stop (wpAny_pure q))
theorem zs_item {z ti to j1 j2 l : Addr} {i c : Nat} {xs : Array Value} {x u v : Value} {y : Str} {t : Tok} {Q : Value → Shared → Prop} (D : ZipApart z ti to j1 j2 l l)
    (hz : IsZs s.heap z ti to .none) (g1 : IsPair s.heap ti (.ref j1) (.ref j2)) (g2 : IsPair s.heap to u v) (h1 : s.heap.IsListIter j1 l i) (h2 : s.heap.IsStrIter j2 SaI y t i) (hl : s.heap.IsList l xs)
    (hx : xs[i]? = some x) (hy : y.cps[i]? = some c)
    (q : ∀ h', IsZs h' z ti to (rawInt s.heap.objs.size) → IsPair h' to x (.str ⟨#[c]⟩ s.toks) → h'.IsListIter j1 l (i + 1) → h'.IsStrIter j2 SaI y t (i + 1) → IsPair h' s.heap.objs.size x (.str ⟨#[c]⟩ s.toks) → h'.objs.size = s.heap.objs.size + 1 →
      (∀ b o, b ≠ z → b ≠ to → b ≠ j1 → b ≠ j2 → s.heap.get? b = some o → h'.get? b = some o) → Q (.ref s.heap.objs.size) { s with heap := h', toks := s.toks + 1 }) :
    wpAny (model prog w) A (Builtin.«zip.__next__» ⟨[.ref z], []⟩) (fun r s' => ∃ p, r = .done (.ret p) ∧ Q p s') E s := by
  show wpAny (model prog w) A (field (.ref z) 2 >>= _) _ _ s
  refine wpAny_bind (wpAny_field hz rfl (x := .bool true) rfl ?_)
  show wpAny (model prog w) A (field (.ref z) 3 >>= _) _ _ s
  refine wpAny_bind (wpAny_field (x := .ref ti) hz rfl rfl ?_)
  refine wpAny_bind (wpAny_seqItems g1 rfl ?_)
  show wpAny (model prog w) A (Builtin.SmallTypes.ownedTupleIsFree (.ref z) >>= _) _ _ s
  refine wpAny_bind ?_
  unfold Builtin.SmallTypes.ownedTupleIsFree
  refine wpAny_bind (wpAny_field (x := .none) hz rfl rfl (wpAny_pure ?_))
  simp only [if_true]
  refine wpAny_bind (wpAny_rule ?_)
  refine wpAny_bind (wpAny_field (x := .ref to) hz rfl rfl ?_)
  refine wpAny_bind (wpAny_setField_rec hz (by simp) fun e1 z1 k1 => ?_)
  replace z1 : IsZs e1 z ti to .ellipsis := z1
  refine wpAny_bind ?_
  simp only [List.zipIdx_nil, List.zipIdx_cons, List.forIn_nil, List.forIn_cons]
  refine wpAny_bind (wpAny_bind (wpAny_onRaise ?_))
  show wpAny (model prog w) A (Builtin.SmallTypes.nextOrEnd (.ref j1)) _ _ _
  refine noe_item (wpAny_nextOf_list_item (h1.extBut k1.extBut D.i1z) (hl.extBut k1.extBut D.l1z) hx fun e2 i2 k2 => ?_)
  have p2 : IsPair e2 to u v := k2.extBut _ _ D.TOi1 (k1.extBut _ _ D.TOz g2)
  refine wpAny_bind (wpAny_seqItems p2 rfl ?_)
  refine wpAny_bind (wpAny_updateSeq_pair p2 fun e3 p3 k3 => ?_)
  replace p3 : IsPair e3 to x v := p3
  refine wpAny_bind (wpAny_letGo (wpAny_pure ?_))
  refine wpAny_bind (wpAny_bind (wpAny_onRaise ?_))
  show wpAny (model prog w) A (Builtin.SmallTypes.nextOrEnd (.ref j2)) _ _ _
  refine noe_item (wpAny_nextOf_ascii_item (((h2.extBut k1.extBut D.i2z).extBut k2.extBut D.i12.symm).extBut k3.extBut D.TOi2.symm) hy fun e4 i4 k4 => ?_)
  have p4 : IsPair e4 to x v := k4.extBut _ _ D.TOi2 p3
  refine wpAny_bind (wpAny_seqItems p4 rfl ?_)
  refine wpAny_bind (wpAny_updateSeq_pair p4 fun e5 p5 k5 => ?_)
  replace p5 : IsPair e5 to x (.str ⟨#[c]⟩ s.toks) := p5
  refine wpAny_bind (wpAny_letGo (wpAny_pure (wpAny_pure ?_)))
  refine wpAny_bind (wpAny_seqItems p5 rfl ?_)
  refine wpAny_bind (wpAny_newTuple ?_)
  have sz : e5.objs.size = s.heap.objs.size := by rw [k5.1, k4.1, k3.1, k2.1, k1.1]
  have z5 : IsZs e5 z ti to .ellipsis := k5.extBut _ _ D.TOz.symm (k4.extBut _ _ D.i2z.symm (k3.extBut _ _ D.TOz.symm (k2.extBut _ _ D.i1z.symm z1)))
  have kp : ∀ b o, b ≠ z → b ≠ to → b ≠ j1 → b ≠ j2 → s.heap.get? b = some o → e5.get? b = some o := fun b o n1 n2 n3 n4 e =>
    k5.extBut _ _ n2 (k4.extBut _ _ n4 (k3.extBut _ _ n2 (k2.extBut _ _ n3 (k1.extBut _ _ n1 e))))
  have a5 : e5.IsListIter j1 l (i + 1) := ((i2.extBut k3.extBut D.TOi1.symm).extBut k4.extBut D.i12).extBut k5.extBut D.TOi1.symm
  have b5 : e5.IsStrIter j2 SaI y t (i + 1) := i4.extBut k5.extBut D.TOi2.symm
  have lz : z < e5.objs.size := Heap.lt_size z5
  show wpAny (model prog w) A (Builtin.SmallTypes.ownedTupleHandOut (.ref z) (.ref e5.objs.size) >>= _) _ _ _
  refine wpAny_bind ?_
  unfold Builtin.SmallTypes.ownedTupleHandOut
  have z6 : IsZs (e5.push { cls := .type "tuple", data := .seq #[x, .str ⟨#[c]⟩ s.toks] }) z ti to .ellipsis := Heap.get?_push_of_some _ z5
  refine wpAny_bind (wpAny_setField_rec z6 (by simp) fun e7 z7 k7 => ?_)
  replace z7 : IsZs e7 z ti to (rawInt e5.objs.size) := z7
  refine wpAny_setField_rec z7 (by simp) fun e8 z8 k8 => ?_
  replace z8 : IsZs e8 z ti to (rawInt e5.objs.size) := z8
  have up : ∀ b o, b ≠ z → e5.get? b = some o → e8.get? b = some o := fun b o n e => k8.extBut _ _ n (k7.extBut _ _ n (Heap.get?_push_of_some _ e))
  have t8 : IsPair e8 e5.objs.size x (.str ⟨#[c]⟩ s.toks) := k8.extBut _ _ (Nat.ne_of_gt lz) (k7.extBut _ _ (Nat.ne_of_gt lz) (Heap.get?_push_size _ rfl))
  have s8 : e8.objs.size = e5.objs.size + 1 := by rw [k8.1, k7.1, Heap.size_push]
  rw [sz] at z8 t8 s8
  refine wpAny_pure ⟨_, rfl, ?_⟩
  show Q (.ref e5.objs.size) _
  rw [sz]
  obtain ⟨o1, w1, w2⟩ := a5
  obtain ⟨o2, w3, w4⟩ := b5
  exact q e8 z8 (up _ _ D.TOz p5) ⟨o1, up _ _ D.i1z w1, w2⟩ ⟨o2, up _ _ D.i2z w3, w4⟩ t8 s8 fun b o n1 n2 n3 n4 e => up b o n1 (kp b o n1 n2 n3 n4 e)
theorem zs_end {z ti to j1 j2 l : Addr} {i : Nat} {xs : Array Value} {u v : Value} {y : Str} {t : Tok} {Q : Fin → Shared → Prop} (hh : A.handled = none) (D : ZipApart z ti to j1 j2 l l)
    (hz : IsZs s.heap z ti to .none) (g1 : IsPair s.heap ti (.ref j1) (.ref j2)) (h1 : s.heap.IsListIter j1 l i) (h2 : s.heap.IsStrIter j2 SaI y t i) (hl : s.heap.IsList l xs)
    (hx : xs[i]? = none) (hy : y.cps[i]? = none)
    (q : ∀ h' e, (∀ b o, b ≠ z → b ≠ to → b ≠ j1 → b ≠ j2 → s.heap.get? b = some o → h'.get? b = some o) → (∃ o, h'.get? e = some o ∧ o.cls = .type "StopIteration") → E (.ref e) { s with heap := h' }) :
    wpAny (model prog w) A (Builtin.«zip.__next__» ⟨[.ref z], []⟩) Q E s := by
  show wpAny (model prog w) A (field (.ref z) 2 >>= _) _ _ s
  refine wpAny_bind (wpAny_field hz rfl (x := .bool true) rfl ?_)
  show wpAny (model prog w) A (field (.ref z) 3 >>= _) _ _ s
  refine wpAny_bind (wpAny_field (x := .ref ti) hz rfl rfl ?_)
  refine wpAny_bind (wpAny_seqItems g1 rfl ?_)
  show wpAny (model prog w) A (Builtin.SmallTypes.ownedTupleIsFree (.ref z) >>= _) _ _ s
  refine wpAny_bind ?_
  unfold Builtin.SmallTypes.ownedTupleIsFree
  refine wpAny_bind (wpAny_field (x := .none) hz rfl rfl (wpAny_pure ?_))
  simp only [if_true]
  refine wpAny_bind (wpAny_rule ?_)
  refine wpAny_bind (wpAny_field (x := .ref to) hz rfl rfl ?_)
  refine wpAny_bind (wpAny_setField_rec hz (by simp) fun e1 z1 k1 => ?_)
  replace z1 : IsZs e1 z ti to .ellipsis := z1
  refine wpAny_bind ?_
  simp only [List.zipIdx_nil, List.zipIdx_cons, List.forIn_nil, List.forIn_cons]
  refine wpAny_bind (wpAny_bind (wpAny_onRaise ?_))
  show wpAny (model prog w) A (Builtin.SmallTypes.nextOrEnd (.ref j1)) _ _ _
  refine noe_end (wpAny_nextOf_list_end hh (h1.extBut k1.extBut D.i1z) (hl.extBut k1.extBut D.l1z) hx fun e2 a2 k2 st2 => ⟨?_, ?_⟩)
  · obtain ⟨o, w1, w2⟩ := st2
    exact ⟨a2, o, rfl, w1, w2⟩
  have z2 : IsZs e2 z ti to .ellipsis := k2 _ _ D.i1z.symm z1
  refine wpAny_bind (wpAny_setField_rec z2 (by simp) fun e3 z3 k3 => ?_)
  refine wpAny_bind ?_
  wp_delta
  rw [if_neg (Nat.lt_irrefl 0)]
  refine wpAny_bind ?_
  simp only [List.drop_succ_cons, List.drop_zero, List.zipIdx_nil, List.zipIdx_cons, List.forIn_nil, List.forIn_cons]
  refine wpAny_bind (wpAny_bind ?_)
  have i3 : e3.IsStrIter j2 SaI y t i := ((h2.extBut k1.extBut D.i2z).extBut k2 D.i12.symm).extBut k3.extBut D.i2z
  refine noe_end (wpAny_nextOf_ascii_end hh i3 hy fun e4 a4 k4 st4 => ⟨?_, ?_⟩)
  · obtain ⟨o, w1, w2⟩ := st4
    exact ⟨a4, o, rfl, w1, w2⟩
  refine wpAny_pure (wpAny_pure (wpAny_bind (wpAny_rule ?_)))
  unfold Builtin.SmallTypes.stopIteration
  refine wpAny_bind ?_
  simp only [newExc, newTuple]
  refine wpAny_bind (wpAny_newObj_type ?_ (by size_fits))
  refine wpAny_bind (m := firstArgMember _ _) (wpAny_of_eq (a := Value.none) (by first | rfl | (simp only [firstArgMember]; rfl)) ?_)
  refine wpAny_newObj_type ?_ (by size_fits)
  simp only [raiseNew]
  refine wpAny_bind (wpAny_handled ?_)
  rw [hh]
  refine wpAny_bind (wpAny_pure (wpAny_throw ?_))
  refine q _ _ (fun b o n1 n2 n3 n4 e => ?_) ⟨_, Heap.get?_push_size _ rfl, rfl⟩
  exact Heap.get?_push_of_some _ (Heap.get?_push_of_some _ (k4 _ _ n4 (k3.extBut _ _ n1 (k2 _ _ n3 (k1.extBut _ _ n1 e)))))
theorem pyNext_zs_item {z ti to j1 j2 l : Addr} {i c : Nat} {xs : Array Value} {x u v : Value} {y : Str} {t : Tok} {Q : Option Value → Shared → Prop} (D : ZipApart z ti to j1 j2 l l)
    (hz : IsZs s.heap z ti to .none) (g1 : IsPair s.heap ti (.ref j1) (.ref j2)) (g2 : IsPair s.heap to u v) (h1 : s.heap.IsListIter j1 l i) (h2 : s.heap.IsStrIter j2 SaI y t i) (hl : s.heap.IsList l xs)
    (hx : xs[i]? = some x) (hy : y.cps[i]? = some c)
    (q : ∀ h', IsZs h' z ti to (rawInt s.heap.objs.size) → IsPair h' to x (.str ⟨#[c]⟩ s.toks) → h'.IsListIter j1 l (i + 1) → h'.IsStrIter j2 SaI y t (i + 1) → IsPair h' s.heap.objs.size x (.str ⟨#[c]⟩ s.toks) → h'.objs.size = s.heap.objs.size + 1 →
      (∀ b o, b ≠ z → b ≠ to → b ≠ j1 → b ≠ j2 → s.heap.get? b = some o → h'.get? b = some o) → Q (some (.ref s.heap.objs.size)) { s with heap := h', toks := s.toks + 1 }) :
    wpAny (model prog w) A (pyNext (.ref z)) Q E s := by
  have tz : s.TypeIs (.ref z) "zip" := ⟨_, hz, rfl⟩
  unfold pyNext
  refine wpAny_bind (wpAny_attempt (wpAny_callSpecial?_slot tz (name := Str.ofString "__next__") F.slot_zip_next (wpAny_call_entry F.slot_zip_next tz F.entry_zip_next ?_ (F.args_zip_next_1 _))))
  exact zs_item D hz g1 g2 h1 h2 hl hx hy fun h' a1 a2 a3 a4 a5 a6 a7 => wpAny_pure (q h' a1 a2 a3 a4 a5 a6 a7)
theorem pyNext_zs_end {z ti to j1 j2 l : Addr} {i : Nat} {xs : Array Value} {u v : Value} {y : Str} {t : Tok} {Q : Option Value → Shared → Prop} (hh : A.handled = none) (D : ZipApart z ti to j1 j2 l l)
    (hz : IsZs s.heap z ti to .none) (g1 : IsPair s.heap ti (.ref j1) (.ref j2)) (h1 : s.heap.IsListIter j1 l i) (h2 : s.heap.IsStrIter j2 SaI y t i) (hl : s.heap.IsList l xs)
    (hx : xs[i]? = none) (hy : y.cps[i]? = none)
    (q : ∀ h', (∀ b o, b ≠ z → b ≠ to → b ≠ j1 → b ≠ j2 → s.heap.get? b = some o → h'.get? b = some o) → Q none { s with heap := h' }) :
    wpAny (model prog w) A (pyNext (.ref z)) Q E s := by
  have tz : s.TypeIs (.ref z) "zip" := ⟨_, hz, rfl⟩
  unfold pyNext
  refine wpAny_bind (wpAny_attempt (wpAny_callSpecial?_slot tz (name := Str.ofString "__next__") F.slot_zip_next (wpAny_call_entry F.slot_zip_next tz F.entry_zip_next ?_ (F.args_zip_next_1 _))))
  refine zs_end (u := u) (v := v) hh D hz g1 h1 h2 hl hx hy fun h' e kp st => ?_
  obtain ⟨o, w1, w2⟩ := st
  exact wpAny_bind (wpAny_isInstance (b := true) (T := "StopIteration") ⟨o, w1, w2⟩ isSubtype_stop (wpAny_pure (q h' kp)))
theorem letGo_zs {es : List Expr} {kk : Nat} {pos : Pos} {z ti to T : Addr} {Q : Unit → Shared → Prop} (hz : IsZs s.heap z ti to (rawInt T))
    (q : ∀ h', IsZs h' z ti to .none → Heap.SameBut z s.heap h' → Q () { s with heap := h' }) :
    wpAny (model prog w) A (letOwnedTupleGo (.Tuple es kk pos) (.ref z) (.ref T)) Q E s := by
  unfold letOwnedTupleGo
  refine wpAny_bind (wpAny_load hz ?_)
  show wpAny _ _ (if (["enumerate", "zip", "dict_itemiterator", "dict_reverseitemiterator", "odict_iterator", "itertools.zip_longest", "itertools.pairwise"].contains "zip" && (#[rawInt T, .bool false, .bool true, .ref ti, .ref to] : Array Value)[0]? == some (rawInt T)) = true then _ else _) Q E s
  rw [if_pos (by simp)]
  refine wpAny_bind (wpAny_rule ?_)
  exact wpAny_setField_rec hz (by simp) fun e1 z1 k1 => q e1 z1 k1
theorem pyIter_zs {z ti to : Addr} {f0 : Value} {Q : Value → Shared → Prop} (hz : IsZs s.heap z ti to f0) (q : Q (.ref z) s) : wpAny (model prog w) A (pyIter (.ref z)) Q E s := by
  have tz : s.TypeIs (.ref z) "zip" := ⟨_, hz, rfl⟩
  refine wpAny_pyIter_slot tz F.slot_zip_iter (wpAny_call_entry F.slot_zip_iter tz F.entry_zip_iter ?_ (F.args_zip_iter_1 _))
  show wpAny (model prog w) _ (ret (.ref z)) _ _ s
  exact wpAny_pure ⟨_, rfl, "zip", _, tz, F.slot_zip_next.lookup, q⟩
abbrev kwS : List (Str × Value) := [("strict", .bool true)]
abbrev zs1 (h : Heap) (l : Addr) : Heap := h.push { cls := .type "list_iterator", data := .fields #[.ref l, .int 0 0] }
abbrev zs2 (h : Heap) (l : Addr) (y : Str) (t : Tok) : Heap := (zs1 h l).push { cls := .type "str_ascii_iterator", data := .fields #[.str y t, .int 0 0] }
abbrev zs3 (h : Heap) (l : Addr) (y : Str) (t : Tok) : Heap := (zs2 h l y t).push { cls := .type "tuple", data := .seq #[.ref h.objs.size, .ref (zs1 h l).objs.size] }
abbrev zs4 (h : Heap) (l : Addr) (y : Str) (t : Tok) : Heap := (zs3 h l y t).push { cls := .type "tuple", data := .seq #[.none, .none] }
abbrev zs5 (h : Heap) (l : Addr) (y : Str) (t : Tok) : Heap := (zs4 h l y t).push { cls := .type "zip", data := .fields #[.none, .bool false, .bool true, .ref (zs2 h l y t).objs.size, .ref (zs3 h l y t).objs.size] }
theorem zs_new (l : Addr) (y : Str) (t : Tok) (ha : y.cps.all (· < 128) = true) (xs : Array Value) :
    Meets (Builtin.«zip.__new__» ⟨[.type "zip", .ref l, .str y t], kwS⟩) (fun _ R s => s.heap.IsList l xs ∧ R (.ok (.ret (.ref (zs4 s.heap l y t).objs.size))) { s with heap := zs5 s.heap l y t }) :=
  .of_wp fun prog w A R s q => by
    obtain ⟨hp, g, d, tk, os⟩ := s
    obtain ⟨hl, q⟩ := q
    have hsub := sub_zip
    have hL1 : Heap.IsList (Shared.heap ⟨hp, g, d, tk, os⟩) l xs := hl
    wp_walk using wpAny_pyIter_list hL1, wpAny_pyIter_ascii ha
    exact ⟨_, rfl, q⟩
theorem zs_tc (a b : Value) : checkTypeCall "zip" ⟨[a, b], kwS⟩ = pure () := by kernel_rfl
theorem zs_nc (a b : Value) : checkBuiltinCall "zip.__new__" ⟨[.type "zip", a, b], kwS⟩ = pure () := by kernel_rfl
theorem zs_oi (a b c : Value) : argsOk "object.__init__" ⟨[a, b, c], kwS⟩ := by
  unfold argsOk
  rw [signature?_of (o := ['t', 'c', 'e', 'j', 'b', 'o']) (n := ['_', '_', 't', 'i', 'n', 'i', '_', '_']) (id := "object.__init__") (by kernel_rfl) F.owner_object]
  kernel_rfl
end
end QL
set_option Elab.async false
set_option linter.all false
set_option maxRecDepth 100000
set_option maxHeartbeats 4000000
/-! ZT: the call zip(list, text, strict=True), its turns. -/
namespace QL
open PySem PySem.Spec
open PySem.Sem (wp)
section
variable {prog : Program} {w : World} {A : Around} {E : Value → Shared → Prop} {s : Shared}
theorem oinit_kw {T newId : String} {self : Value} {rest : List Value} {kw : List (Str × Value)} (hl : typeLookup (.type T) "__init__" = pure (some (.builtin "object.__init__")))
    (hm : Bind.madeBy (.type T) = pure (some newId)) (hne : (some newId != some "object.__new__") = true) :
    Meets (Builtin.«object.__init__» ⟨self :: rest, kw⟩) (fun _ R s => s.TypeIs self T ∧ R (.ok (.ret .none)) s) := by
  refine Meets.of_wp fun prog w A R s hs => ?_
  obtain ⟨tT, q⟩ := hs
  cases rest with
  | nil =>
    cases kw with
    | nil => exact wpAny_pure ⟨_, rfl, q⟩
    | cons a kw =>
      repeat (any_goals (first | assumption | wp_step))
      exact ⟨_, rfl, q⟩
  | cons a rest =>
    repeat (any_goals (first | assumption | wp_step))
    exact ⟨_, rfl, q⟩
theorem callT_kw {T newId : String} {Bn : Builtin} {vs : List Value} {kw : List (Str × Value)} {S : Spec} {Q : Value → Shared → Prop} (ft : TypeCalled T newId "object.__init__")
    (hne : (some newId != some "object.__new__") = true) (c1 : checkTypeCall T ⟨vs, kw⟩ = pure ()) (c2 : checkBuiltinCall newId ⟨.type T :: vs, kw⟩ = pure ())
    (c3 : ∀ o, argsOk "object.__init__" ⟨o :: vs, kw⟩) (eN : entryFor table newId = some Bn) (g : Meets (Bn ⟨.type T :: vs, kw⟩) S)
    (q : S A.in1 (wants (fun o s₁ => s₁.TypeIs o T ∧ Q o s₁) E) s) : wpAny (model prog w) A (call (.type T) vs kw) Q E s := by
  obtain ⟨c, tl, hmro⟩ := ft.mro
  have hmade := ft.made
  have hsub := ft.sub
  refine wpAny_call (codeAny_of_tree ?_)
  show wpAny (model prog w) _ (callAny (.type T) _) _ _ _
  refine wpAny_pure ⟨Code.quiet_builtin _ (by decide +kernel), codeAny_builtin F.entry_type_call ?_⟩
  rw [Around.under_plain (weight_type_call_type T vs kw) (units_type_call_type T vs kw)]
  have n1 := ft.notType
  have n2 := ft.canCreate
  repeat (any_goals (first | assumption | wp_step))
  refine codeAny_mono (codeAny_call_builtin ft.plain eN (wpAny_of_eq c2 (g prog w A.in1 _ s q))) fun r s₁ hr => ?_
  cases r with
  | error e => exact hr
  | ok fl =>
    cases fl with
    | ret o =>
      obtain ⟨hT, hq⟩ := hr
      have hli := ft.init.lookup
      have hbi := ft.init.bind o
      repeat (any_goals (first | assumption | wp_step))
      refine codeAny_mono (codeAny_call_builtin ft.init.plain F.entry_object_init (ft.init.check _ _ _ _ _ _ _ _ hT (c3 o) (oinit_kw (kw := kw) ft.init.lookup ft.made hne prog w A.in1 (wants (fun r s₂ => r = .none ∧ Q o s₂) E) s₁ ⟨hT, rfl, hq⟩))) fun r₂ s₂ hr₂ => ?_
      cases r₂ with
      | error e => exact hr₂
      | ok f2 =>
        cases f2 with
        | ret r =>
          obtain ⟨rfl, hq⟩ := hr₂
          repeat (any_goals (first | assumption | wp_step))
        | _ => exact hr₂.elim
    | _ => exact hr.elim
theorem call_zs {l : Addr} {y : Str} {t : Tok} {xs : Array Value} {Q : Value → Shared → Prop} (ha : y.cps.all (· < 128) = true) (hl : s.heap.IsList l xs)
    (q : ∀ h', IsZs h' (s.heap.objs.size + 4) (s.heap.objs.size + 2) (s.heap.objs.size + 3) .none → IsPair h' (s.heap.objs.size + 2) (.ref s.heap.objs.size) (.ref (s.heap.objs.size + 1)) → IsPair h' (s.heap.objs.size + 3) .none .none →
      h'.IsListIter s.heap.objs.size l 0 → h'.IsStrIter (s.heap.objs.size + 1) SaI y t 0 → (∀ b o, s.heap.get? b = some o → h'.get? b = some o) → Q (.ref (s.heap.objs.size + 4)) { s with heap := h' }) :
    wpAny (model prog w) A (call (.type "zip") [.ref l, .str y t] kwS) Q E s := by
  refine callT_kw F.called_zip (by decide) (zs_tc _ _) (zs_nc _ _) (fun o => zs_oi o _ _) F.entry_zip_new (zs_new l y t ha xs) ⟨hl, ?_⟩
  have n1 : (zs1 s.heap l).objs.size = s.heap.objs.size + 1 := Heap.size_push ..
  have n2 : (zs2 s.heap l y t).objs.size = s.heap.objs.size + 2 := by rw [Heap.size_push, n1]
  have n3 : (zs3 s.heap l y t).objs.size = s.heap.objs.size + 3 := by rw [Heap.size_push, n2]
  have n4 : (zs4 s.heap l y t).objs.size = s.heap.objs.size + 4 := by rw [Heap.size_push, n3]
  have m5 : (zs5 s.heap l y t).get? (zs4 s.heap l y t).objs.size = some _ := Heap.get?_push_size _ rfl
  have m4 : (zs5 s.heap l y t).get? (zs3 s.heap l y t).objs.size = some _ := Heap.get?_push_of_some _ (Heap.get?_push_size _ rfl)
  have m3 : (zs5 s.heap l y t).get? (zs2 s.heap l y t).objs.size = some _ := Heap.get?_push_of_some _ (Heap.get?_push_of_some _ (Heap.get?_push_size _ rfl))
  have m2 : (zs5 s.heap l y t).get? (zs1 s.heap l).objs.size = some _ := Heap.get?_push_of_some _ (Heap.get?_push_of_some _ (Heap.get?_push_of_some _ (Heap.get?_push_size _ rfl)))
  have m1 : (zs5 s.heap l y t).get? s.heap.objs.size = some _ := Heap.get?_push_of_some _ (Heap.get?_push_of_some _ (Heap.get?_push_of_some _ (Heap.get?_push_of_some _ (Heap.get?_push_size _ rfl))))
  show _ ∧ _
  rw [n2, n3, n4] at m5
  rw [n1, n2] at m3
  rw [n3] at m4
  rw [n1] at m2
  rw [n4]
  exact ⟨⟨_, m5, rfl⟩, q _ m5 m3 m4 ⟨_, m1, rfl, rfl⟩ ⟨_, m2, rfl, rfl⟩ fun b o e => Heap.get?_push_of_some _ (Heap.get?_push_of_some _ (Heap.get?_push_of_some _ (Heap.get?_push_of_some _ (Heap.get?_push_of_some _ e))))⟩
end
section
open L2 PyProof.Rows
/-- a call of a type with keywords -/
theorem cwT_kw {M : Model} {A : Around} {E : Value → Shared → Prop} {s : Shared} {env : Env} {pos : Pos} {T : String} {e : Expr} {rest : List Expr} {kws : List Keyword} {Q : Value → Shared → Prop}
    (g : wpAny M A (spliced (backTo pos (starEach (e :: rest) env))) (fun vs s₁ => wpAny M A (evalAll ((backToKw pos (keywordEach kws env)).map (·.2)))
      (fun kvs s₂ => wpAny M A (call (.type T) vs (((backToKw pos (keywordEach kws env)).filterMap (·.1)).zip kvs)) Q E s₂) E s₁) E s)
    (he : backTo pos (starEach (e :: rest) env) = (false, eval e env) :: backTo pos (starEach rest env)) (hp : (backTo pos (starEach (e :: rest) env)).any (·.1) = false)
    (ha : (backToKw pos (keywordEach kws env)).all (·.1.isSome) = true) (hk : (backToKw pos (keywordEach kws env)).any (·.1.isNone) = false) :
    wpAny M A (callWith pos (.type T) [] (backTo pos (starEach (e :: rest) env)) (backToKw pos (keywordEach kws env))) Q E s := by
  unfold callWith
  have g2 : wpAny M A (evalArgs (.type T) true (backTo pos (starEach (e :: rest) env)) (backToKw pos (keywordEach kws env))) (fun a s₁ => wpAny M A (call (.type T) ([] ++ a.pos) a.kw) Q E s₁) E s := by
    rw [he] at g ⊢
    exact evalArgs_kwB ha g
  refine wpAny_bind (wpAny_holding (wpAny_mono g2 (fun a s₁ z => wpAny_bind (wpAny_standAt ?_)) fun _ _ x => x))
  simp only [hp, hk, Bool.or_false]
  refine wpAny_bind (wpAny_pure ?_)
  exact wpAny_bind (wpAny_mono z (fun r s₂ hr => wpAny_bind (wpAny_holding (wpAny_point (wpAny_pure hr)))) fun _ _ x => x)
/-- the list at a as it stands at each turn, and a text's signs, in new pairs -/
def Itzs (K : PySem.W.Frag) (a : Addr) (y : Str) : It :=
  ⟨fun i H => ∃ (xs : List V) (x : V) (c : Nat), SqL K H a xs ∧ xs[i]? = some x ∧ y.cps[i]? = some c,
    fun i H v H' => ∃ (T : Addr) (x : V) (c : Nat), v = .ref T ∧ H T = none ∧ H' = upd H T (.tup [x, .str ⟨#[c]⟩]) ∧ (∀ xs, SqL K H a xs → xs[i]? = some x) ∧ y.cps[i]? = some c,
    fun i H => ∃ xs : List V, SqL K H a xs ∧ xs.length ≤ i ∧ y.cps.size ≤ i⟩
theorem turn_zs {P : Program} {w : World} {K : PySem.W.Frag} {elts : List Expr} {kk : Nat} {tpos : Pos} {a z ti to j1 j2 : Addr} {y : Str} {t : Tok} (D : ZipApart z ti to j1 j2 a a) :
    Turn P w K (.Tuple elts kk tpos) (Itzs K a y) [z, ti, to, j1, j2] z (fun i h => IsZs h z ti to .none ∧ IsPair h ti (.ref j1) (.ref j2) ∧ (∃ u v, IsPair h to u v) ∧ h.IsListIter j1 a i ∧ h.IsStrIter j2 SaI y t i) where
  mem := by simp
  obj := fun i h st c hc => by
    obtain ⟨g1, g2, ⟨u, v, g3⟩, ⟨o1, e1, _, d1⟩, ⟨o2, e2, _, d2⟩⟩ := st
    have e' : c = z ∨ c = ti ∨ c = to ∨ c = j1 ∨ c = j2 := by simpa using hc
    rcases e' with q | q | q | q | q
    · rw [q]; exact ⟨_, g1, fun v q => nomatch q⟩
    · rw [q]; exact ⟨_, g2, fun v q => nomatch q⟩
    · rw [q]; exact ⟨_, g3, fun v q => nomatch q⟩
    · rw [q]; exact ⟨o1, e1, fun v q => by rw [d1] at q; cases q⟩
    · rw [q]; exact ⟨o2, e2, fun v q => by rw [d2] at q; cases q⟩
  keep := fun i h h' st k => by
    obtain ⟨g1, g2, ⟨u, v, g3⟩, ⟨o1, e1, r1⟩, ⟨o2, e2, r2⟩⟩ := st
    exact ⟨k z (by simp) _ g1, k ti (by simp) _ g2, ⟨u, v, k to (by simp) _ g3⟩, ⟨o1, k j1 (by simp) _ e1, r1⟩, ⟨o2, k j2 (by simp) _ e2, r2⟩⟩
  item := by
    intro X hP hw hK hc i pins s σ H E I hf st hg
    subst hP hw hK
    obtain ⟨g1, g2, ⟨u0, v0, g3⟩, h1, h2⟩ := st
    obtain ⟨xs, x, c, sq, hx, hy⟩ := hg
    obtain ⟨its, rv, p, _⟩ := I.list sq
    obtain ⟨u, hu, ru⟩ := rv.get hx
    have lz : z < s.heap.objs.size := Heap.lt_size g1
    refine pyNext_zs_item D g1 g2 g3 h1 h2 p.isList (x := u) (by simpa using hu) hy fun h' z' to' h1' h2' hT hsz hk => ?_
    refine ⟨_, rfl, letGo_zs (s := { s with heap := h', toks := s.toks + 1 }) z' fun h'' z'' sb => ?_⟩
    have hT2 : h''.get? s.heap.objs.size = some { cls := .type "tuple", data := .seq #[u, .str ⟨#[c]⟩ s.toks] } := (sb.2 _ (Nat.ne_of_gt lz)).trans hT
    have new : ObjOk X.prog X.w (upd H s.heap.objs.size (.tup [x, .str ⟨#[c]⟩])) h'' s.heap.objs.size (.tup [x, .str ⟨#[c]⟩]) :=
      ⟨by show 2 ≤ sizeLine; decide, [u, .str ⟨#[c]⟩ s.toks], .cons ru (.cons ⟨_, rfl⟩ .nil), ⟨_, hT2, rfl, _, rfl⟩⟩
    have I1 : Inv X pins σ (upd H s.heap.objs.size (.tup [x, .str ⟨#[c]⟩])) { s with heap := h'', toks := s.toks + 1 } :=
      I.turnedNew (t' := s.toks + 1) (ch := [z, ti, to, j1, j2]) (fun b o hb q => (sb.2 b (fun q' => hb (by simp [q']))).trans (hk b o (fun q' => hb (by simp [q'])) (fun q' => hb (by simp [q'])) (fun q' => hb (by simp [q'])) (fun q' => hb (by simp [q'])) q)) hf (Nat.le_refl _) new
    obtain ⟨o1, e1, r1⟩ := h1'
    obtain ⟨o2, e2, r2⟩ := h2'
    refine ⟨.ref s.heap.objs.size, _, I1, rfl, ⟨_, x, c, rfl, I.hok.fresh (Nat.le_refl _), rfl, fun l hl => by rw [I.list_inj hl sq]; exact hx, hy⟩, ⟨z'', ?_, ⟨u, .str ⟨#[c]⟩ s.toks, ?_⟩, ⟨o1, ?_, r1⟩, ⟨o2, ?_, r2⟩⟩, fun b hbm => ?_⟩
    · exact (sb.2 _ D.TIz).trans (hk _ _ D.TIz D.TITO D.TIi1 D.TIi2 g2)
    · exact (sb.2 _ D.TOz).trans to'
    · exact (sb.2 _ D.i1z).trans e1
    · exact (sb.2 _ D.i2z).trans e2
    · have hlt : b < s.heap.objs.size := by
        have e' : b = z ∨ b = ti ∨ b = to ∨ b = j1 ∨ b = j2 := by simpa using hbm
        rcases e' with q | q | q | q | q
        · rw [q]; exact lz
        · rw [q]; exact Heap.lt_size g2
        · rw [q]; exact Heap.lt_size g3
        · rw [q]; obtain ⟨_, e1, _⟩ := h1; exact Heap.lt_size e1
        · rw [q]; obtain ⟨_, e2, _⟩ := h2; exact Heap.lt_size e2
      rw [upd_ne (Nat.ne_of_lt hlt)]
      exact (hf b hbm).1
  done := by
    intro X hP hw hK hc i pins s σ H E I hf st hg
    subst hP hw hK
    obtain ⟨g1, g2, ⟨u0, v0, g3⟩, h1, h2⟩ := st
    obtain ⟨xs, sq, n1, n2⟩ := hg
    obtain ⟨its, rv, p, _⟩ := I.list sq
    have l1 := rv.length
    refine pyNext_zs_end (u := u0) (v := v0) (I.ok.hd hc) D g1 g2 h1 h2 p.isList (by simp; omega) (Array.getElem?_eq_none n2) fun h' hk => ⟨rfl, ?_⟩
    exact I.turnedL (t' := s.toks) (ch := [z, ti, to, j1, j2]) (fun b o hb q => hk b o (fun q' => hb (by simp [q'])) (fun q' => hb (by simp [q'])) (fun q' => hb (by simp [q'])) (fun q' => hb (by simp [q'])) q) hf
  self := fun A i s Q E st h => pyIter_zs st.1 h
def asciiB (y : Str) : Bool := y.cps.all (· < 128)
def iZs (K : PySem.W.Frag) (ta : TA) : TI := fun σ H R => ta σ H fun vs H1 => ∃ a xs y, vs = [.ref a, .str y] ∧ SqL K H1 a xs ∧ asciiB y = true ∧ R (Itzs K a y) H1
theorem pi_zs {X : Cx} {e e2 : Expr} {ta : TA} {p pos tpos cp kp : Pos} {ck kk : Nat} {elts : List Expr} (hg : Gl X "zip") (hm : X.mg "zip" = none) (ha : PA X [e, e2] ta)
    (hs : starEach [e, e2] X.env = (false, eval e X.env) :: starEach [e2] X.env) (hpl : (backTo pos (starEach [e2] X.env)).any (·.1) = false) :
    PI X (.Tuple elts kk tpos) (.Call (.Name "zip" p) [e, e2] [⟨some "strict", .Constant (.bool true) ck cp, kp⟩] pos) (iZs X.K ta) := by
  refine ⟨fun pins s σ H R I h => ?_⟩
  refine wpAny_Call_Name_kw (ld_blt I hg hm PyProof.Rows.boot_zip (cwT_kw (thn (ha.run pos pins s σ H _ I h) fun us s1 ⟨vs, H1, I1, r1, q1⟩ => ?_) ?_ ?_ rfl rfl))
  · obtain ⟨a, xs, y, rfl, sq, asc, q1⟩ := q1
    refine kws_cons (thn ((pe_bl (X := X) (b := true)).run pins s1 σ H1 (fun v H2 => v = .bl true ∧ H2 = H1) I1 ⟨rfl, rfl⟩) fun bv s2 ⟨b2, H2, I2, r2, q2⟩ => ?_)
    obtain ⟨rfl, rfl⟩ := q2
    cases r2
    refine kws_nil ?_
    cases r1 with
    | cons r rr =>
      cases rr with
      | cons r' rr =>
        cases rr
        cases r
        obtain ⟨t, rfl⟩ := r'
        obtain ⟨its, rv, p1, _⟩ := I2.list sq
        have la : a < s2.heap.objs.size := p1.lt
        refine call_zs asc p1.isList fun h' g1 g2 g3 h1 h2 hk => pyIter_zs g1 ?_
        have I3 : Inv X pins σ H2 { s2 with heap := h' } := I2.kept (t' := s2.toks) hk
        refine ⟨s2.heap.objs.size + 4, [s2.heap.objs.size + 4, s2.heap.objs.size + 2, s2.heap.objs.size + 3, s2.heap.objs.size, s2.heap.objs.size + 1], _, _, H2, rfl, I3, turn_zs (PySem.W.ktu_apart s2.heap.objs.size a a la la), ⟨g1, g2, ⟨_, _, g3⟩, h1, h2⟩, fun c hcm => ?_, q1⟩
        have hle : s2.heap.objs.size ≤ c := by
          have e' : c = s2.heap.objs.size + 4 ∨ c = s2.heap.objs.size + 2 ∨ c = s2.heap.objs.size + 3 ∨ c = s2.heap.objs.size ∨ c = s2.heap.objs.size + 1 := by simpa using hcm
          rcases e' with z | z | z | z | z <;> rw [z] <;> first | exact Nat.le_refl _ | exact Nat.le_add_right _ _
        exact I2.fpOk hle (I2.hok.fresh hle)
  · rw [hs]
    rfl
  · rw [hs]
    exact hpl
end
end QL
set_option Elab.async false
set_option linter.all false
set_option maxRecDepth 100000
set_option maxHeartbeats 4000000
/-! Q1: defs that keep a promise where nothing is being shown (guards), their calls. -/
namespace QL
open PySem PySem.Spec L2
open PyProof.Rows hiding St
/-- a def keeps sp, called where no repr runs -/
structure FnG (P : Program) (w : World) (K : PySem.W.Frag) (mg : Str → Option Value) (base : Heap) (k : Nat) (f : Addr) (fd : FuncData) (ps : List Str) (sp : Sp) : Prop where
  len : ∀ vs H Q E, sp vs H Q E → vs.length = ps.length
  run : ∀ (A : Around) (outer : List Env) (s : Shared) (H : Hp) (args : Args) (us : List Value) (vs : List V) (Q : VK) (E : XK), A.guards = some [] → Room k A → Env0 P w K mg base A outer s H →
    BindsTo s fd args (ps.zip us) → Vals vs us → sp vs H Q E → codeAny (model P w) A (.call (.ref f) args) (CR (L2.CX P w) outer P w H s Q E) s
theorem fng_of {P : Program} {w : World} {K : PySem.W.Frag} {mg : Str → Option Value} {base : Heap} {k : Nat} {f : Addr} {name qual : Str} {params : Arguments} {body : List Stmt} {scope : Scope} {dV kV doc pm cdv ct oc : Value} {an od : Option Addr}
    {osl : Array (Option Value)} {N ps : List Str} {sp : Sp} (lk : K.lookup f = some ⟨oc, od, .func (PySem.W.fnOf name qual params body scope dV kV doc pm an cdv ct), osl⟩) (hcd : PySem.W.codeIn K cdv qual = true) (S : FnScope N ps scope)
    (len : ∀ vs H Q E, sp vs H Q E → vs.length = ps.length)
    (hb : ∀ (A : Around) (outer : List Env) (s : Shared) (H : Hp) (vs : List V) (Q : VK) (E : XK), A.guards = some [] → Room k (A.deeper (envOfC qual scope s.heap.objs.size f cdv)) → sp vs H Q E →
      ∃ t, PSs (cxOf (L2.CX P w) P w K mg base N qual scope f cdv A outer s H E) body t ∧ t { nx := fun _ H' => Q .non H', rt := Q } (L2.start N vs) H) :
    FnG P w K mg base (k + 1) f (PySem.W.fnOf name qual params body scope dV kV doc pm an cdv ct) ps sp := by
  refine ⟨len, fun A outer s H args us vs Q E hg hr e0 hbd r hsp => ?_⟩
  have hl := len _ _ _ _ hsp
  have kp : ∀ b o, base.get? b = some o → s.heap.get? b = some o := fun b o e => (e0.bs b o e).1
  have KX : K.In s.heap := e0.mod.kin.keeps kp
  have lim : s.heap.NoLimit := e0.mod.nolimit.keeps kp
  refine codeAny_call_function hr.depth (KX _ _ lk) rfl S.co S.gen rfl (PySem.W.codeRec_of KX hcd) (hbd _ _ _ _ ?_)
  refine wpAny_newFunctionEnv_cells S.kind ?_ ?_
  · rintro ⟨n, v⟩ hy
    rcases S.par n (List.of_mem_zip hy).1 with q | q
    · exact .inl q
    · exact .inr ⟨q, PySem.W.cellsFrom_some _ _ _ (.inl q)⟩
  · rintro env rfl s1 x
    refine ⟨lim.keeps x.toInCall.keep, codeAny_func ?_⟩
    obtain ⟨t, ht, hq⟩ := hb A outer s H vs Q E hg (hr.deeper _) hsp
    have I := inv_start (CX := L2.CX P w) (E := E) S hr.hd e0 hl r x
    refine wpAny_mono (ht.run [] s1 _ H _ I hq) ?_ (fun e s' hs => hs)
    intro fl s' hs
    match fl, hs with
    | .ret u, ⟨v, σ', H', J, rv, q⟩ => exact ⟨v, H', J.os, J.bare, J.base, J.hok, rv, q⟩
    | .next, ⟨σ', H', J, q⟩ => exact ⟨V.non, H', J.os, J.bare, J.base, J.hok, rfl, q⟩
    | .brk, ⟨_, _, _, q⟩ => exact q.elim
    | .cont, ⟨_, _, _, q⟩ => exact q.elim
section
variable {X : Cx} {k : Nat} {f C : Addr} {fd : FuncData} {ps : List Str} {sp : Sp} {W : WX} {x m : Str} {p pos apos : Pos} {e o : Expr} {es : List Expr} {ta : TE} {t : TA}
/-- the callee runs; the wish about exceptions may speak of the caller's slots -/
theorem run_g {pins : List (Addr × Obj)} {σ : St} {H : Hp} {s : Shared} {Q : VK} {us full : List Value} {kw : List (Str × Value)} {vs : List V} (F : FnG X.prog X.w X.K X.mg X.base k f fd ps sp) (hg : X.A.guards = some []) (hr : Room k X.A) (hx : Takes X W)
    (I : Inv X pins σ H s) (hb : BindsTo s fd ⟨us, kw⟩ (ps.zip full)) (r : Vals vs full) (h : sp vs H Q (fun c d H' => W c d σ H')) : wpAny (model X.prog X.w) X.A (call (.ref f) us kw) (EP X pins σ Q) X.xe s := by
  refine wpAny_call (codeAny_mono (F.run X.A X.stack s H ⟨us, kw⟩ full vs Q _ hg hr I.env0 hb r h) fun q s' hq => ?_)
  match q, hq with
  | .error er, hq => exact hx er s' (XE.of_call I (fun _ _ _ z => z) hq)
  | .ok (.ret u), hq => exact I.after hq
  | .ok .next, hq => exact hq.elim
  | .ok .brk, hq => exact hq.elim
  | .ok .cont, hq => exact hq.elim
/-- a new instance, its __init__ runs -/
theorem make_g {pins : List (Addr × Obj)} {σ : St} {H : Hp} {s : Shared} {Q : VK} {us full : List Value} {kw : List (Str × Value)} {vs : List V} (M : Mk X.K C f) (F : FnG X.prog X.w X.K X.mg X.base k f fd ps sp) (hg : X.A.guards = some []) (hr : Room (k + 1) X.A)
    (hx : Takes X W) (I : Inv X pins σ H s) (hb : ∀ (s : Shared) (a : Value), X.K.In s.heap → BindsTo s fd ⟨a :: us, kw⟩ (ps.zip (a :: full))) (r : Vals vs full)
    (h : ∀ x dx, H x = none → H dx = none → dx ≠ x → X.K.lookup x = none → X.K.lookup dx = none → sp (.ref x :: vs) (upd (upd H dx (.own x)) x (.ins C dx [])) (fun v H2 => v = .non ∧ Q (.ref x) H2) (fun c d H' => W c d σ H')) :
    wpAny (model X.prog X.w) X.A (call (.ref C) us kw) (EP X pins σ Q) X.xe s := by
  have lk : ∀ a, s.heap.objs.size ≤ a → X.K.lookup a = none := fun a ha => by
    cases q : X.K.lookup a with
    | none => rfl
    | some o => exact absurd (Heap.lt_size (I.kIn a o q)) (Nat.not_lt.mpr ha)
  have hq := h (s.heap.objs.size + 1) s.heap.objs.size (I.hok.fresh (Nat.le_succ _)) (I.hok.fresh (Nat.le_refl _)) (Nat.ne_of_lt (Nat.lt_succ_self _)) (lk _ (Nat.le_succ _)) (lk _ (Nat.le_refl _))
  have I2 := Inv.made (C := C) I
  have hgu : (X.A.under (.builtin "type.__call__" ⟨.ref C :: us, kw⟩)).guards = some [] := by
    simp [Around.under, Code.guards, Code.isGuard, pushGuards, guardIds, hg]
  refine wpAny_call (make_map (f := f) I.kIn M.makes M.init (beq_iff_eq.mp M.fn) (codeAny_mono (F.run _ X.stack _ _ ⟨Value.ref (s.heap.objs.size + 1) :: us, kw⟩ (Value.ref (s.heap.objs.size + 1) :: full) (V.ref (s.heap.objs.size + 1) :: vs) _ _ hgu (hr.make C us kw)
    (I2.env0.make C us kw) (hb _ _ I2.kIn) (.cons rfl r) hq) fun q s' hq' => ?_))
  match q, hq' with
  | .error er, hq' => exact hx er s' (XE.of_call I2 (fun _ _ _ z => z) hq')
  | .ok (.ret u), hq' =>
    obtain ⟨v, H', I3, rv, ev, q3⟩ := I2.after hq'
    subst ev
    exact ⟨rv, ⟨V.ref (s.heap.objs.size + 1), H', I3, rfl, q3⟩⟩
  | .ok .next, hq' => exact hq'.elim
  | .ok .brk, hq' => exact hq'.elim
  | .ok .cont, hq' => exact hq'.elim
end
end QL
set_option Elab.async false
set_option linter.all false
set_option maxRecDepth 100000
set_option maxHeartbeats 4000000
/-! Q2: what operators do to values, as functions that look at the values. -/
namespace QL
open PySem PySem.Spec L2
open PyProof.Rows hiding St
/-- what stands at a: tracked, locked, or written (so) -/
def rd (so : Addr → Option HO) (H : Hp) (a : Addr) : Option HO := match H a with
  | some (.frz _ u) => some u
  | some o => some o
  | none => so a
/-- the written tuples are so -/
def SoOk (K : PySem.W.Frag) (so : Addr → Option HO) : Prop := ∀ a o, so a = some o → match o with
  | .tup xs => ∃ (o : Obj) (its : Array Value) (n : Nat), K.lookup a = some o ∧ o.cls = .type "tuple" ∧ o.data = .seq its n ∧ its.size ≤ sizeLine ∧ Vals xs its.toList
  | .lst xs => ∃ (its : Array Value) (n : Nat), K.lookup a = some { cls := .type "list", data := .seq its n } ∧ its.size ≤ sizeLine ∧ Vals xs its.toList
  | _ => False
section
variable {K : PySem.W.Frag} {so : Addr → Option HO} {H : Hp} {a : Addr} {xs : List V}
theorem rd_lst (S : SoOk K so) (h : rd so H a = some (.lst xs)) : SqL K H a xs := by
  unfold rd at h
  split at h
  · rename_i o u e
    cases h
    exact .inl (.inr ⟨_, e⟩)
  · rename_i e
    cases h
    exact .inl (.inl e)
  · obtain ⟨its, n, q1, q2, q3⟩ := S a _ h
    exact .inr ⟨_, its, n, q1, rfl, rfl, rfl, q2, q3⟩
theorem rd_tup (S : SoOk K so) (h : rd so H a = some (.tup xs)) : SqT K H a xs := by
  unfold rd at h
  split at h
  · rename_i o u e
    cases h
    exact .inl (.inr ⟨_, e⟩)
  · rename_i e
    cases h
    exact .inl (.inl e)
  · have q := S a _ h
    exact .inr q
theorem rd_of {o : HO} (h : H a = some o) (hn : ∀ x u, o ≠ .frz x u) : rd so H a = some o := by
  unfold rd
  rw [h]
  cases o <;> first | rfl | exact absurd rfl (hn _ _)
end
theorem OpR.imp {X : Cx} {f : Value → Value → Sem Value} {r r' : R2} (h : OpR X f r) (q : ∀ x y H Q, r' x y H Q → r x y H Q) : OpR X f r' :=
  fun pins s σ H x y v u Q I rx ry z => h pins s σ H x y v u Q I rx ry (q x y H Q z)
theorem CallR.imp {X : Cx} {f : Value} {r r' : List V → Hp → VK → Prop} (h : CallR X f r) (q : ∀ x H Q, r' x H Q → r x H Q) : CallR X f r' :=
  fun pins s σ H x v Q I rx z => h pins s σ H x v Q I rx (q x H Q z)
theorem so_none {K : PySem.W.Frag} {so : Addr → Option HO} (S : SoOk K so) {a : Addr} (h : K.lookup a = none) : so a = none := by
  cases e : so a with
  | none => rfl
  | some o =>
    have q := S a o e
    cases o with
    | tup xs => obtain ⟨ob, _, _, z, _⟩ := q; rw [h] at z; cases z
    | lst xs => obtain ⟨_, _, z, _⟩ := q; rw [h] at z; cases z
    | _ => exact q.elim
/-- nothing written is tracked -/
def NoK (so : Addr → Option HO) (H : Hp) : Prop := ∀ b, so b ≠ none → H b = none
theorem nok_of {X : Cx} {so : Addr → Option HO} (S : SoOk X.K so) {pins : List (Addr × Obj)} {σ : St} {H : Hp} {s : Shared} (I : Inv X pins σ H s) : NoK so H := fun b hb => by
  cases e : so b with
  | none => exact absurd e hb
  | some o =>
    have q := S b o e
    obtain ⟨ob, hk⟩ : ∃ ob, X.K.lookup b = some ob := by
      cases o with
      | tup xs => obtain ⟨ob, _, _, h, _⟩ := q; exact ⟨ob, h⟩
      | lst xs => obtain ⟨_, _, h, _⟩ := q; exact ⟨_, h⟩
      | _ => exact q.elim
    exact (I.bs b ob (I.mod.kin b ob hk)).2
theorem nok_upd {so : Addr → Option HO} {H : Hp} {p : Addr} {o : HO} (h : NoK so (upd H p o)) : so p = none := by
  cases e : so p with
  | none => rfl
  | some u =>
    have := h p (by rw [e]; simp)
    rw [upd_same] at this
    cases this
theorem PE.nok {X : Cx} {so : Addr → Option HO} (S : SoOk X.K so) {e : Expr} {t : TE} (h : PE X e t) : PE X e (fun σ H Q => t σ H fun v H' => NoK so H' → Q v H') := ⟨fun pins s σ H Q I z =>
  thn (h.run pins s σ H _ I z) fun u s' ⟨v, H', I', r, q⟩ => ⟨v, H', I', r, q (nok_of S I')⟩⟩
theorem OpR.nok {X : Cx} {so : Addr → Option HO} (S : SoOk X.K so) {f : Value → Value → Sem Value} {r : R2} (h : OpR X f r) : OpR X f (fun x y H Q => r x y H fun v H' => NoK so H' → Q v H') := fun pins s σ H x y v u Q I rx ry z =>
  thn (h pins s σ H x y v u _ I rx ry z) fun u s' ⟨v, H', I', r, q⟩ => ⟨v, H', I', r, q (nok_of S I')⟩
theorem CallR.nok {X : Cx} {so : Addr → Option HO} (S : SoOk X.K so) {f : Value} {r : List V → Hp → VK → Prop} (h : CallR X f r) : CallR X f (fun x H Q => r x H fun v H' => NoK so H' → Q v H') := fun pins s σ H x v Q I rx z =>
  thn (h pins s σ H x v _ I rx z) fun u s' ⟨v, H', I', r, q⟩ => ⟨v, H', I', r, q (nok_of S I')⟩
theorem SlR.nok {X : Cx} {so : Addr → Option HO} (S : SoOk X.K so) {r : V → Option Int → Option Int → Hp → VK → Prop} (h : SlR X r) : SlR X (fun x lo hi H Q => r x lo hi H fun v H' => NoK so H' → Q v H') := fun pins s σ H x v vl vu lo hi sl Q I rx hs pl pu z => by
  obtain ⟨T, id, h1, h2, h3⟩ := h pins s σ H x v vl vu lo hi sl _ I rx hs pl pu z
  exact ⟨T, id, h1, h2, thn h3 fun u s' ⟨v, H', I', r, q⟩ => ⟨v, H', I', r, q (nok_of S I')⟩⟩
/-! ### arithmetic -/
def addV (so : Addr → Option HO) : R2 := fun x y H Q => match x, y with
  | .int i, .int j => Q (.int (i + j)) H
  | .str i, .str j => i.length + j.length ≤ sizeLine ∧ Q (.str (i ++ j)) H
  | .ref p, .ref q => (match rd so H p, rd so H q with
    | some (.lst xs), some (.lst ys) => xs.length + ys.length ≤ sizeLine ∧ ∀ r, H r = none → so r = none → Q (.ref r) (upd H r (.lst (xs ++ ys)))
    | some (.tup xs), some (.tup ys) => xs.length + ys.length ≤ sizeLine ∧ (xs = [] → Q (.ref q) H) ∧ (xs ≠ [] → ys = [] → Q (.ref p) H) ∧ (xs ≠ [] → ys ≠ [] → ∀ r, H r = none → so r = none → Q (.ref r) (upd H r (.tup (xs ++ ys))))
    | _, _ => False)
  | _, _ => False
/-- a list's own object -/
theorem rd_obj {X : Cx} {so : Addr → Option HO} (S : SoOk X.K so) {pins : List (Addr × Obj)} {σ : St} {H : Hp} {s : Shared} (I : Inv X pins σ H s) {a : Addr} {xs : List V} (h : rd so H a = some (.lst xs)) :
    ∃ (its : List Value) (n : Nat), Vals xs its ∧ s.heap.get? a = some { cls := .type "list", data := .seq its.toArray n } := by
  unfold rd at h
  split at h
  · rename_i o u e
    cases h
    obtain ⟨_, _, its, n, r, e2⟩ := I.hok a _ e
    exact ⟨its, n, r, e2⟩
  · rename_i e
    cases h
    obtain ⟨_, its, n, r, e2⟩ := I.hok a _ e
    exact ⟨its, n, r, e2⟩
  · obtain ⟨its, n, q1, q2, q3⟩ := S a _ h
    exact ⟨its.toList, n, q3, by rw [Array.toArray_toList]; exact I.kIn a _ q1⟩
theorem op_catQ {X : Cx} {so : Addr → Option HO} (S : SoOk X.K so) : OpR X (binaryOp .Add) (fun x y H Q => ∃ l b xs zs, x = .ref l ∧ y = .ref b ∧ rd so H l = some (.lst xs) ∧ rd so H b = some (.lst zs) ∧ xs.length + zs.length ≤ sizeLine ∧ ∀ p, H p = none → Q (.ref p) (upd H p (.lst (xs ++ zs)))) := by
  intro pins s σ H x y v u Q I rx ry h
  obtain ⟨l, b, xs, zs, rfl, rfl, hH, hB, hz, q⟩ := h
  cases rx
  cases ry
  obtain ⟨its, n, r, e⟩ := rd_obj S I hH
  obtain ⟨its2, n2, r2, e2⟩ := rd_obj S I hB
  have l1 := r.length
  have l2 := r2.length
  refine PySem.P.add_list e e2 ?_ (by rw [List.size_toArray, List.size_toArray]; omega)
  have ea : its.toArray ++ its2.toArray = (its ++ its2).toArray := by simp
  rw [ea]
  exact ⟨.ref _, _, I.lnew (t' := s.toks) (r.append r2) (by rw [List.length_append]; omega), rfl, q _ I.fresh⟩
def subV : R2 := fun x y H Q => match x, y with
  | .int i, .int j => Q (.int (i - j)) H
  | _, _ => False
def mulV (so : Addr → Option HO) : R2 := fun x y H Q => match x, y with
  | .int i, .int j => CMul i j ∧ Q (.int (i * j)) H
  | .str z, .int k => z.length ≤ 16 ∧ 0 ≤ k ∧ k ≤ 1048576 ∧ Q (.str (Txt.mul z k)) H
  | .ref p, .int k => (match H p with
    | some (.lst xs) => -(2 ^ 63) ≤ k ∧ k < 2 ^ 63 ∧ xs.length * k.toNat ≤ sizeLine ∧ ∀ r, H r = none → so r = none → Q (.ref r) (upd H r (.lst (List.replicate k.toNat xs).flatten))
    | _ => False)
  | _, _ => False
def divV : R2 := fun x y H Q => match x, y with
  | .int i, .int j => CDiv i j ∧ Q (.int (i / j)) H
  | _, _ => False
def modV : R2 := fun x y H Q => match x, y with
  | .int i, .int j => 0 < j ∧ Q (.int (i % j)) H
  | _, _ => False
def powV : R2 := fun x y H Q => match x, y with
  | .int i, .int j => CPow i j ∧ Q (.int (i ^ j.toNat)) H
  | _, _ => False
def shlV : R2 := fun x y H Q => match x, y with
  | .int i, .int j => CPow i j ∧ Q (.int (i * 2 ^ j.toNat)) H
  | _, _ => False
def opV (so : Addr → Option HO) (o : Operator) : R2 := fun x y H Q => match o with
  | .Add => addV so x y H Q
  | .Sub => subV x y H Q
  | .Mult => mulV so x y H Q
  | .FloorDiv => divV x y H Q
  | .Mod => modV x y H Q
  | .Pow => powV x y H Q
  | .LShift => shlV x y H Q
  | _ => False
section
variable {X : Cx} {so : Addr → Option HO} (S : SoOk X.K so)
include S
theorem op_addV : OpR X (binaryOp .Add) (addV so) := OpR.imp (OpR.nok S (op_add.or (op_add_str.or ((op_catQ S).or op_catA)))) fun x y H Q h => by
  unfold addV at h
  split at h
  · exact .inl ⟨_, _, rfl, rfl, fun _ => h⟩
  · exact .inr (.inl ⟨_, _, rfl, rfl, h.1, fun _ => h.2⟩)
  · split at h
    · rename_i e1 e2
      exact .inr (.inr (.inl ⟨_, _, _, _, rfl, rfl, e1, e2, h.1, fun p hp nk => h.2 p hp (nok_upd nk)⟩))
    · rename_i e1 e2
      exact .inr (.inr (.inr ⟨_, _, _, _, rfl, rfl, rd_tup S e1, rd_tup S e2, h.1, fun a _ => h.2.1 a, fun a b _ => h.2.2.1 a b, fun a b p hp nk => h.2.2.2 a b p hp (nok_upd nk)⟩))
    · exact h.elim
  · exact h.elim
omit S in
theorem op_subV : OpR X (binaryOp .Sub) subV := OpR.imp op_sub fun x y H Q h => by
  unfold subV at h
  split at h
  · exact ⟨_, _, rfl, rfl, h⟩
  · exact h.elim
omit S in
theorem op_mul_strI : OpR X (binaryOp .Mult) (fun x y H Q => ∃ (z : Str) (k : Int), x = .str z ∧ y = .int k ∧ z.length ≤ 16 ∧ 0 ≤ k ∧ k ≤ 1048576 ∧ Q (.str (Txt.mul z k)) H) := by
  intro pins s σ H x y v u Q I rx ry h
  obtain ⟨z, k, rfl, rfl, h1, h2, h3, q⟩ := h
  obtain ⟨t, rfl⟩ := rx
  obtain ⟨t', rfl⟩ := ry
  exact PySem.W.KXi.mul rfl h1 (by omega) h3 fun t2 tk _ _ => ⟨.str _, H, I.kept (t' := tk) fun b o e => e, ⟨t2, rfl⟩, q⟩
theorem op_mulV : OpR X (binaryOp .Mult) (mulV so) := OpR.imp (OpR.nok S ((op_mul.or op_rep).or op_mul_strI)) fun x y H Q h => by
  unfold mulV at h
  split at h
  · exact .inl (.inl ⟨_, _, rfl, rfl, h.1, fun _ => h.2⟩)
  · exact .inr ⟨_, _, rfl, rfl, h.1, h.2.1, h.2.2.1, fun _ => h.2.2.2⟩
  · split at h
    · rename_i e1
      refine .inl (.inr ?_)
      exact ⟨_, _, _, rfl, rfl, e1, h.1, h.2.1, h.2.2.1, fun p hp nk => h.2.2.2 p hp (nok_upd nk)⟩
    · exact h.elim
  · exact h.elim
omit S in
theorem op_divV : OpR X (binaryOp .FloorDiv) divV := OpR.imp op_fdiv fun x y H Q h => by
  unfold divV at h
  split at h
  · exact ⟨_, _, rfl, rfl, h.1, h.2⟩
  · exact h.elim
omit S in
theorem op_modV : OpR X (binaryOp .Mod) modV := OpR.imp op_mod fun x y H Q h => by
  unfold modV at h
  split at h
  · exact ⟨_, _, rfl, rfl, h.1, h.2⟩
  · exact h.elim
omit S in
theorem op_powV : OpR X (binaryOp .Pow) powV := OpR.imp op_pow fun x y H Q h => by
  unfold powV at h
  split at h
  · exact ⟨_, _, rfl, rfl, h.1, h.2⟩
  · exact h.elim
omit S in
theorem op_shlV : OpR X (binaryOp .LShift) shlV := OpR.imp op_shl fun x y H Q h => by
  unfold shlV at h
  split at h
  · exact ⟨_, _, rfl, rfl, h.1, h.2⟩
  · exact h.elim
omit S in
theorem op_no {f : Value → Value → Sem Value} : OpR X f (fun _ _ _ _ => False) := fun _ _ _ _ _ _ _ _ _ _ _ _ h => h.elim
theorem op_opV (o : Operator) : OpR X (binaryOp o) (opV so o) := match o with
  | .Add => op_addV S
  | .Sub => op_subV
  | .Mult => op_mulV S
  | .FloorDiv => op_divV
  | .Mod => op_modV
  | .Pow => op_powV
  | .LShift => op_shlV
  | .MatMult => op_no
  | .Div => op_no
  | .RShift => op_no
  | .BitOr => op_no
  | .BitXor => op_no
  | .BitAnd => op_no
end
/-! ### comparisons -/
/-- a flat value as data -/
def scD : V → Option PyData
  | .non => some .none
  | .bl b => some (.bool b)
  | .int i => some (.int i)
  | .str x => some (.str x)
  | _ => none
mutual
/-- the data that a value shows -/
inductive Dd (so : Addr → Option HO) (H : Hp) : V → PyData → Prop
  | sc {x : V} {d : PyData} : scD x = some d → Dd so H x d
  | lst {a : Addr} {xs : List V} {ds : List PyData} : rd so H a = some (.lst xs) → Dds so H xs ds → Dd so H (.ref a) (.list ds)
  | tup {a : Addr} {xs : List V} {ds : List PyData} : rd so H a = some (.tup xs) → Dds so H xs ds → Dd so H (.ref a) (.tuple ds)
inductive Dds (so : Addr → Option HO) (H : Hp) : List V → List PyData → Prop
  | nil : Dds so H [] []
  | cons {v : V} {vs : List V} {d : PyData} {ds : List PyData} : Dd so H v d → Dds so H vs ds → Dds so H (v :: vs) (d :: ds)
end
theorem dp_sc {K : PySem.W.Frag} {H : Hp} {x : V} {d : PyData} (h : scD x = some d) : Dp K H x d := by
  cases x <;> simp only [scD, Option.some.injEq, reduceCtorEq] at h <;> subst h <;> constructor
section
variable {K : PySem.W.Frag} {so : Addr → Option HO} {H : Hp} (S : SoOk K so)
include S
mutual
theorem Dd.dp : ∀ {v : V} {d : PyData}, Dd so H v d → Dp K H v d
  | _, _, .sc h => dp_sc h
  | _, _, .lst h t => .lst (rd_lst S h) t.dp
  | _, _, .tup h t => .tup (rd_tup S h) t.dp
theorem Dds.dp : ∀ {v : List V} {d : List PyData}, Dds so H v d → DpAll K H v d
  | _, _, .nil => .nil
  | _, _, .cons h t => .cons h.dp t.dp
end
end
/-- a number, a truth, None as data -/
def scN : V → Option PyData
  | .non => some .none
  | .bl b => some (.bool b)
  | .int i => some (.int i)
  | _ => none
/-- one of two dicts is empty: whether they are equal -/
def eqE0 (x y : V) (H : Hp) : Option Bool := match x, y with
  | .ref a, .ref b => (match H a, H b with
    | some (.dK ks), some (.dK []) => some ks.isEmpty
    | some (.dK []), some (.dK ks) => some ks.isEmpty
    | _, _ => none)
  | _, _ => none
/-- == (neg: !=) -/
def eqD (so : Addr → Option HO) (neg : Bool) : R2 := fun x y H Q => match x, y with
  | .str i, .str j => Q (.bl (decide (i = j) != neg)) H
  | _, _ => (match scN x, scN y with
    | some d, some e => Q (.bl (PyData.eqv d e != neg)) H
    | _, _ => (match eqE0 x y H with
      | some b => Q (.bl (b != neg)) H
      | none => ∃ d e, Dd so H x d ∧ Dd so H y e ∧ SeqAt.shaped d = true ∧ SeqAt.shaped e = true ∧ Q (.bl (PyData.eqv d e != neg)) H))
theorem sc_shaped {x : V} {d : PyData} (h : scN x = some d) : SeqAt.shaped d = true := by
  cases x <;> simp only [scN, Option.some.injEq, reduceCtorEq] at h <;> subst h <;> rfl
theorem sc_dp {K : PySem.W.Frag} {H : Hp} {x : V} {d : PyData} (h : scN x = some d) : Dp K H x d := by
  cases x <;> simp only [scN, Option.some.injEq, reduceCtorEq] at h <;> subst h <;> constructor
theorem str_dec {i j : Str} : decide (V.str i = V.str j) = decide (i = j) := by
  by_cases h : i = j
  · subst h; simp
  · simp [h]
theorem emp_len {α : Type} (l : List α) : l.isEmpty = (l.length == ([] : List α).length) := by cases l <;> rfl
theorem emp_len2 {α : Type} (l : List α) : l.isEmpty = (([] : List α).length == l.length) := by cases l <;> rfl
theorem eqE0_ex {x y : V} {H : Hp} {b : Bool} (h : eqE0 x y H = some b) : ∃ p q ks ls, x = .ref p ∧ y = .ref q ∧ H p = some (.dK ks) ∧ H q = some (.dK ls) ∧ (ks = [] ∨ ls = []) ∧ b = (ks.length == ls.length) := by
  unfold eqE0 at h
  split at h
  · split at h
    · rename_i e1 e2
      cases h
      exact ⟨_, _, _, _, rfl, rfl, e1, e2, .inr rfl, emp_len _⟩
    · rename_i e1 e2
      cases h
      exact ⟨_, _, _, _, rfl, rfl, e1, e2, .inl rfl, emp_len2 _⟩
    · cases h
  · cases h
theorem op_e0 {X : Cx} (hu : X.A.units < cLine) : OpR X (compareOp .Eq) (fun x y H Q => ∃ b, eqE0 x y H = some b ∧ Q (.bl b) H) := by
  intro pins s σ H x y v u Q I rx ry h
  obtain ⟨k, e0, q⟩ := h
  obtain ⟨a, b, ks, ls, rfl, rfl, ea, eb, em, rfl⟩ := eqE0_ex e0
  obtain rfl : v = Value.ref a := rx
  obtain rfl : u = Value.ref b := ry
  obtain ⟨_, ya, va, ra, da⟩ := (show ObjOk X.prog X.w H s.heap a (.dK ks) from I.hok a _ ea)
  obtain ⟨_, yb, vb, rb, db⟩ := (show ObjOk X.prog X.w H s.heap b (.dK ls) from I.hok b _ eb)
  have hl : va.length = ks.length := ra.length.symm
  have hl2 : vb.length = ls.length := rb.length.symm
  exact PySem.W.keq_eq (knd := mixKind X.prog X.w) (r := true) ya yb da db hu (fun hq => by
    have e2 : ks.length = ls.length := by omega
    have : ks = [] ∧ ls = [] := by
      rcases em with rfl | rfl
      · exact ⟨rfl, List.length_eq_zero_iff.mp e2.symm⟩
      · exact ⟨List.length_eq_zero_iff.mp e2, rfl⟩
    obtain ⟨rfl, rfl⟩ := this
    exact hits_all rb ra (fun p hp => by cases hp)) (fin_bl I q (by rw [hl, hl2]; simp))
theorem op_n0 {X : Cx} (hu : X.A.units < cLine) : OpR X (compareOp .NotEq) (fun x y H Q => ∃ b, eqE0 x y H = some b ∧ Q (.bl (!b)) H) := by
  intro pins s σ H x y v u Q I rx ry h
  obtain ⟨k, e0, q⟩ := h
  obtain ⟨a, b, ks, ls, rfl, rfl, ea, eb, em, rfl⟩ := eqE0_ex e0
  obtain rfl : v = Value.ref a := rx
  obtain rfl : u = Value.ref b := ry
  obtain ⟨_, ya, va, ra, da⟩ := (show ObjOk X.prog X.w H s.heap a (.dK ks) from I.hok a _ ea)
  obtain ⟨_, yb, vb, rb, db⟩ := (show ObjOk X.prog X.w H s.heap b (.dK ls) from I.hok b _ eb)
  have hl : va.length = ks.length := ra.length.symm
  have hl2 : vb.length = ls.length := rb.length.symm
  exact PySem.W.keq_ne (knd := mixKind X.prog X.w) (r := true) ya yb da db hu (fun hq => by
    have e2 : ks.length = ls.length := by omega
    have : ks = [] ∧ ls = [] := by
      rcases em with rfl | rfl
      · exact ⟨rfl, List.length_eq_zero_iff.mp e2.symm⟩
      · exact ⟨List.length_eq_zero_iff.mp e2, rfl⟩
    obtain ⟨rfl, rfl⟩ := this
    exact hits_all rb ra (fun p hp => by cases hp)) (fin_bl I q (by rw [hl, hl2]; simp))
theorem op_eqQ {X : Cx} {so : Addr → Option HO} (S : SoOk X.K so) (hu : X.A.units + 64 < cLine) : OpR X (compareOp .Eq) (eqD so false) := OpR.imp (op_eq.or ((op_eqD hu).or (op_e0 (by omega)))) fun x y H Q h => by
  unfold eqD at h
  split at h
  · exact .inl ⟨rfl, by rw [str_dec]; simpa using h⟩
  · split at h
    · rename_i d e h1 h2
      exact .inr (.inl ⟨d, e, sc_dp h1, sc_dp h2, sc_shaped h1, sc_shaped h2, by simpa using h⟩)
    · split at h
      · rename_i b e0
        exact .inr (.inr ⟨b, e0, by simpa using h⟩)
      · obtain ⟨d, e, h1, h2, h3, h4, q⟩ := h
        exact .inr (.inl ⟨d, e, h1.dp S, h2.dp S, h3, h4, by simpa using q⟩)
theorem op_neQ {X : Cx} {so : Addr → Option HO} (S : SoOk X.K so) (hu : X.A.units + 64 < cLine) : OpR X (compareOp .NotEq) (eqD so true) := OpR.imp (op_ne.or ((op_neD hu).or (op_n0 (by omega)))) fun x y H Q h => by
  unfold eqD at h
  split at h
  · exact .inl ⟨rfl, by rw [str_dec]; simpa using h⟩
  · split at h
    · rename_i d e h1 h2
      exact .inr (.inl ⟨d, e, sc_dp h1, sc_dp h2, sc_shaped h1, sc_shaped h2, by simpa using h⟩)
    · split at h
      · rename_i b e0
        exact .inr (.inr ⟨b, e0, by simpa using h⟩)
      · obtain ⟨d, e, h1, h2, h3, h4, q⟩ := h
        exact .inr (.inl ⟨d, e, h1.dp S, h2.dp S, h3, h4, by simpa using q⟩)
def ordV (p : Int → Int → Bool) : R2 := fun x y H Q => match x, y with
  | .int i, .int j => Q (.bl (p i j)) H
  | _, _ => False
/-- a key's value -/
def keyV : V → Option Key
  | .int i => some (.inl i)
  | .str x => some (.inr x)
  | _ => none
theorem keyV_kV {y : V} {k : Key} (h : keyV y = some k) : y = kV k := by
  cases y <;> simp only [keyV, Option.some.injEq, reduceCtorEq] at h <;> subst h <;> rfl
/-- in (neg: not in) -/
def inD (so : Addr → Option HO) (neg : Bool) : R2 := fun x y H Q => match y with
  | .str j => (match x with
    | .str i => Q (.bl ((!(Builtin.Str.occurrences j i 0 j.length 1).isEmpty) != neg)) H
    | _ => False)
  | .ref p => (match rd so H p with
    | some (.lst xs) => flatV x = true ∧ xs.all flatV = true ∧ Q (.bl (inV x xs != neg)) H
    | some (.tup xs) => flatV x = true ∧ xs.all flatV = true ∧ Q (.bl (inV x xs != neg)) H
    | some (.dK kvs) => (match H p, keyV x with
      | some (.dK _), some k => Q (.bl ((valV kvs k).isSome != neg)) H
      | _, _ => False)
    | _ => False)
  | _ => False
theorem op_dIn {X : Cx} (hu : X.A.units + 1 < cLine) : OpR X (compareOp .In) (fun y x H Q => ∃ a o, x = .ref a ∧ DGet H a y o ∧ Q (.bl o.isSome) H) := by
  intro pins s σ H y x v u Q I ry rx h
  obtain ⟨a, o, rfl, g, q⟩ := h
  obtain rfl : u = Value.ref a := rx
  exact d_in hu I g ry fun s3 I3 => ⟨.bl o.isSome, H, I3, rfl, q⟩
theorem op_dNotIn {X : Cx} (hu : X.A.units + 1 < cLine) : OpR X (compareOp .NotIn) (fun y x H Q => ∃ a o, x = .ref a ∧ DGet H a y o ∧ Q (.bl (!o.isSome)) H) := by
  intro pins s σ H y x v u Q I ry rx h
  obtain ⟨a, o, rfl, g, q⟩ := h
  obtain rfl : u = Value.ref a := rx
  exact d_notIn hu I g ry fun s3 I3 => ⟨.bl (!o.isSome), H, I3, rfl, q⟩
theorem rd_dK {so : Addr → Option HO} {K : PySem.W.Frag} (S : SoOk K so) {H : Hp} {p : Addr} {kvs kvs' : List (Key × V)} (h : rd so H p = some (.dK kvs)) (h' : H p = some (.dK kvs')) : H p = some (.dK kvs) := by
  unfold rd at h
  rw [h'] at h
  cases h
  exact h'
theorem op_inQ {X : Cx} {so : Addr → Option HO} (S : SoOk X.K so) (hu : X.A.units + 1 < cLine) : OpR X (compareOp .In) (inD so false) := OpR.imp (op_in_str.or (op_in_seq.or (op_dIn hu))) fun x y H Q h => by
  unfold inD at h
  split at h
  · split at h
    · exact .inl ⟨_, _, rfl, rfl, by simpa using h⟩
    · exact h.elim
  · split at h
    · rename_i e
      exact .inr (.inl ⟨_, _, rfl, .inl (rd_lst S e), h.1, h.2.1, by simpa using h.2.2⟩)
    · rename_i e
      exact .inr (.inl ⟨_, _, rfl, .inr (rd_tup S e), h.1, h.2.1, by simpa using h.2.2⟩)
    · split at h
      · rename_i e _ _ _ _ e1 e2
        rw [keyV_kV e2]
        exact .inr (.inr ⟨_, _, rfl, .k (rd_dK S e e1), by simpa using h⟩)
      · exact h.elim
    · exact h.elim
  · exact h.elim
theorem op_notInQ {X : Cx} {so : Addr → Option HO} (S : SoOk X.K so) (hu : X.A.units + 1 < cLine) : OpR X (compareOp .NotIn) (inD so true) := OpR.imp (op_notin_str.or (op_notIn_seq.or (op_dNotIn hu))) fun x y H Q h => by
  unfold inD at h
  split at h
  · split at h
    · exact .inl ⟨_, _, rfl, rfl, by simpa using h⟩
    · exact h.elim
  · split at h
    · rename_i e
      exact .inr (.inl ⟨_, _, rfl, .inl (rd_lst S e), h.1, h.2.1, by simpa using h.2.2⟩)
    · rename_i e
      exact .inr (.inl ⟨_, _, rfl, .inr (rd_tup S e), h.1, h.2.1, by simpa using h.2.2⟩)
    · split at h
      · rename_i e _ _ _ _ e1 e2
        rw [keyV_kV e2]
        exact .inr (.inr ⟨_, _, rfl, .k (rd_dK S e e1), by simpa using h⟩)
      · exact h.elim
    · exact h.elim
  · exact h.elim
/-- is (neg: is not) -/
def isV (neg : Bool) : R2 := fun x y H Q => match x, y with
  | _, .non => Q (.bl (decide (x = .non) != neg)) H
  | .bl a, .bl b => Q (.bl (decide (a = b) != neg)) H
  | .ref p, .ref q => (match H p, H q with
    | some op, some oq => isObj op = true ∧ isObj oq = true ∧ Q (.bl (decide (p = q) != neg)) H
    | _, _ => False)
  | _, _ => False
theorem op_isQ {X : Cx} : OpR X (compareOp .Is) (isV false) := OpR.imp (op_isN.or (op_isBl.or op_is_ref)) fun x y H Q h => by
  unfold isV at h
  split at h
  · exact .inl ⟨rfl, by simpa using h⟩
  · exact .inr (.inl ⟨_, _, rfl, rfl, by simpa using h⟩)
  · split at h
    · rename_i e1 e2
      exact .inr (.inr ⟨_, _, _, _, rfl, rfl, e1, h.1, e2, h.2.1, by simpa using h.2.2⟩)
    · exact h.elim
  · exact h.elim
theorem op_isNotQ {X : Cx} : OpR X (compareOp .IsNot) (isV true) := OpR.imp (op_notN.or (op_notBl.or op_isnot_ref)) fun x y H Q h => by
  unfold isV at h
  split at h
  · exact .inl ⟨rfl, by simpa using h⟩
  · exact .inr (.inl ⟨_, _, rfl, rfl, by simpa using h⟩)
  · split at h
    · rename_i e1 e2
      exact .inr (.inr ⟨_, _, _, _, rfl, rfl, e1, h.1, e2, h.2.1, by simpa using h.2.2⟩)
    · exact h.elim
  · exact h.elim
def cmpV (so : Addr → Option HO) (o : CmpOp) : R2 := fun x y H Q => match o with
  | .Eq => eqD so false x y H Q
  | .NotEq => eqD so true x y H Q
  | .Lt => ordV (fun i j => decide (i < j)) x y H Q
  | .LtE => ordV (fun i j => decide (i ≤ j)) x y H Q
  | .Gt => ordV (fun i j => decide (j < i)) x y H Q
  | .GtE => ordV (fun i j => decide (j ≤ i)) x y H Q
  | .In => inD so false x y H Q
  | .NotIn => inD so true x y H Q
  | .Is => isV false x y H Q
  | .IsNot => isV true x y H Q
theorem op_ordV {X : Cx} {f : Value → Value → Sem Value} {p : Int → Int → Bool} (h : OpR X f (rI0 fun i j => .bl (p i j))) : OpR X f (ordV p) := OpR.imp h fun x y H Q h => by
  unfold ordV at h
  split at h
  · exact ⟨_, _, rfl, rfl, h⟩
  · exact h.elim
theorem op_cmpV {X : Cx} {so : Addr → Option HO} (S : SoOk X.K so) (hu : X.A.units + 64 < cLine) (o : CmpOp) : OpR X (compareOp o) (cmpV so o) :=
  have hu1 : X.A.units + 1 < cLine := by omega
  match o with
  | .Eq => op_eqQ S hu
  | .NotEq => op_neQ S hu
  | .Lt => op_ordV op_lt
  | .LtE => op_ordV op_le
  | .Gt => op_ordV op_gt
  | .GtE => op_ordV op_ge
  | .In => op_inQ S hu1
  | .NotIn => op_notInQ S hu1
  | .Is => op_isQ
  | .IsNot => op_isNotQ
/-! ### truth -/
def truV (so : Addr → Option HO) (H : Hp) : V → Option Bool
  | .non => some false
  | .bl b => some b
  | .int i => some (i != 0)
  | .ref p => (match rd so H p with
    | some (.lst xs) => some (!xs.isEmpty)
    | some (.tup xs) => some (!xs.isEmpty)
    | some (.dK kvs) => (match H p with
      | some (.dK _) => some (!kvs.isEmpty)
      | _ => none)
    | _ => none)
  | _ => none
theorem truV_ok {K : PySem.W.Frag} {so : Addr → Option HO} (S : SoOk K so) {H : Hp} {x : V} {k : Bool} (h : truV so H x = some k) : TruV K x H k := by
  cases x with
  | non => exact (Option.some.inj h).symm
  | bl b => exact (Option.some.inj h).symm
  | int i => exact (Option.some.inj h).symm
  | ref p =>
    unfold truV at h
    simp only at h
    split at h
    · rename_i e
      exact .inl ⟨_, rd_lst S e, (Option.some.inj h).symm⟩
    · rename_i e
      exact .inr (.inl ⟨_, rd_tup S e, (Option.some.inj h).symm⟩)
    · split at h
      · rename_i e _ _ e1
        exact .inr (.inr ⟨_, rd_dK S e e1, (Option.some.inj h).symm⟩)
      · cases h
    · cases h
  | _ => cases h
end QL
set_option Elab.async false
set_option linter.all false
set_option maxRecDepth 100000
set_option maxHeartbeats 4000000
/-! Q3: built-in functions, items, slices. -/
namespace QL
open PySem PySem.Spec L2
open PyProof.Rows hiding St
inductive Bi where
  | len | int | bool | str | repr | min | max | abs | sum | list | tuple | any | all | sorted
  deriving DecidableEq
def lenV (so : Addr → Option HO) (H : Hp) : V → Option Nat
  | .str y => if y.length ≤ sizeLine then some y.length else none
  | .ref p => (match rd so H p with
    | some (.lst xs) => some xs.length
    | some (.tup xs) => some xs.length
    | some (.dK kvs) => (match H p with
      | some (.dK _) => some kvs.length
      | _ => none)
    | _ => none)
  | _ => none
/-- ints out of values -/
def intsV : List V → Option (List Int)
  | [] => some []
  | .int i :: r => (intsV r).map (i :: ·)
  | _ :: _ => none
def blsV : List V → Option (List Bool)
  | [] => some []
  | .bl i :: r => (blsV r).map (i :: ·)
  | _ :: _ => none
theorem intsV_map : ∀ {xs : List V} {ns : List Int}, intsV xs = some ns → xs = ns.map V.int
  | [], ns, h => by cases h; rfl
  | .int i :: r, ns, h => by
    unfold intsV at h
    cases e : intsV r with
    | none => rw [e] at h; cases h
    | some m => rw [e] at h; cases h; rw [List.map_cons, ← intsV_map e]
  | .non :: _, _, h | .bl _ :: _, _, h | .str _ :: _, _, h | .byt _ :: _, _, h | .flt _ :: _, _, h | .ref _ :: _, _, h | .ty _ :: _, _, h => by cases h
theorem blsV_map : ∀ {xs : List V} {ns : List Bool}, blsV xs = some ns → xs = ns.map V.bl
  | [], ns, h => by cases h; rfl
  | .bl i :: r, ns, h => by
    unfold blsV at h
    cases e : blsV r with
    | none => rw [e] at h; cases h
    | some m => rw [e] at h; cases h; rw [List.map_cons, ← blsV_map e]
  | .non :: _, _, h | .int _ :: _, _, h | .str _ :: _, _, h | .byt _ :: _, _, h | .flt _ :: _, _, h | .ref _ :: _, _, h | .ty _ :: _, _, h => by cases h
@[simp] theorem intsV_ints (ns : List Int) : intsV (ns.map V.int) = some ns := by
  induction ns with
  | nil => rfl
  | cons a r ih => simp [intsV, ih]
@[simp] theorem blsV_bls (ns : List Bool) : blsV (ns.map V.bl) = some ns := by
  induction ns with
  | nil => rfl
  | cons a r ih => simp [blsV, ih]
/-- a list's items -/
def lstV (so : Addr → Option HO) (H : Hp) : V → Option (List V)
  | .ref p => (match rd so H p with
    | some (.lst xs) => some xs
    | _ => none)
  | _ => none
def tupV (so : Addr → Option HO) (H : Hp) : V → Option (List V)
  | .ref p => (match rd so H p with
    | some (.tup xs) => some xs
    | _ => none)
  | _ => none
theorem lstV_ok {K : PySem.W.Frag} {so : Addr → Option HO} (S : SoOk K so) {H : Hp} {x : V} {xs : List V} (h : lstV so H x = some xs) : ∃ p, x = .ref p ∧ SqL K H p xs := by
  cases x with
  | ref p =>
    unfold lstV at h
    simp only at h
    split at h
    · rename_i e
      cases h
      exact ⟨p, rfl, rd_lst S e⟩
    · cases h
  | _ => cases h
theorem tupV_ok {K : PySem.W.Frag} {so : Addr → Option HO} (S : SoOk K so) {H : Hp} {x : V} {xs : List V} (h : tupV so H x = some xs) : ∃ p, x = .ref p ∧ SqT K H p xs := by
  cases x with
  | ref p =>
    unfold tupV at h
    simp only at h
    split at h
    · rename_i e
      cases h
      exact ⟨p, rfl, rd_tup S e⟩
    · cases h
  | _ => cases h
def bLen (so : Addr → Option HO) : List V → Hp → VK → Prop := fun xs H Q => match xs with
  | [x] => (match lenV so H x with
    | some n => Q (.int n) H
    | none => False)
  | _ => False
def bInt : List V → Hp → VK → Prop := fun xs H Q => match xs with
  | [.int i] => Q (.int i) H
  | [.bl k] => Q (.int (if k then 1 else 0)) H
  | [.str a] => a.length ≤ 640 ∧ ∃ n, PySem.intText? a = some n ∧ Q (.int n) H
  | _ => False
def bBool : List V → Hp → VK → Prop := fun xs H Q => match xs with
  | [.int i] => Q (.bl (i != 0)) H
  | [.bl k] => Q (.bl k) H
  | _ => False
def bStr : List V → Hp → VK → Prop := fun xs H Q => match xs with
  | [.int i] => i.natAbs.log2 < 1920 ∧ Q (.str (toString i)) H
  | _ => False
def bRepr (so : Addr → Option HO) : List V → Hp → VK → Prop := fun xs H Q => match xs with
  | [x] => (∃ d, Dd so H x d ∧ d.showable = true ∧ d.hasDict = false ∧ d.depth ≤ 60 ∧ d.shown.length ≤ sizeLine ∧ Q (.str d.shown) H) ∨ ∃ a, x = .ref a ∧ H a = some (.dK []) ∧ Q (.str "{}") H
  | _ => False
def bMin : List V → Hp → VK → Prop := fun xs H Q => match xs with
  | [.int i, .int j] => Q (.int (if j < i then j else i)) H
  | _ => False
def bMax : List V → Hp → VK → Prop := fun xs H Q => match xs with
  | [.int i, .int j] => Q (.int (if j > i then j else i)) H
  | _ => False
def bAbs : List V → Hp → VK → Prop := fun xs H Q => match xs with
  | [.int i] => Q (.int (if i < 0 then -i else i)) H
  | _ => False
def bSum (so : Addr → Option HO) : List V → Hp → VK → Prop := fun xs H Q => match xs with
  | [x] => (match (lstV so H x).bind intsV with
    | some ns => Q (.int ns.sum) H
    | none => False)
  | _ => False
def bAny (so : Addr → Option HO) : List V → Hp → VK → Prop := fun xs H Q => match xs with
  | [x] => (match (lstV so H x).bind blsV with
    | some bs => Q (.bl (bs.any id)) H
    | none => False)
  | _ => False
def bAll (so : Addr → Option HO) : List V → Hp → VK → Prop := fun xs H Q => match xs with
  | [x] => (match (lstV so H x).bind blsV with
    | some bs => Q (.bl (bs.all id)) H
    | none => False)
  | _ => False
def bList (so : Addr → Option HO) : List V → Hp → VK → Prop := fun xs H Q => match xs with
  | [x] => (match lstV so H x, tupV so H x with
    | some ys, _ => ∀ l, H l = none → so l = none → Q (.ref l) (upd H l (.lst ys))
    | none, some ys => ∀ l, H l = none → so l = none → Q (.ref l) (upd H l (.lst ys))
    | none, none => False)
  | _ => False
def bTuple (so : Addr → Option HO) : List V → Hp → VK → Prop := fun xs H Q => match xs with
  | [x] => (match lstV so H x, tupV so H x with
    | some ys, _ => ∀ l, H l = none → so l = none → Q (.ref l) (upd H l (.tup ys))
    | none, some _ => Q x H
    | none, none => False)
  | _ => False
/-- sorted of a dict, of texts, of pairs -/
def bSortO (so : Addr → Option HO) (x : V) (H : Hp) (Q : VK) : Prop :=
  (∃ (a : Addr) (kvs : List (Key × V)) (ks : List Int), x = .ref a ∧ H a = some (.dK kvs) ∧ kvs.map (·.1) = ks.map Sum.inl ∧ ks.length < 64 ∧
    ∀ (ys : List Int) (p : Addr), ys.Perm ks → ys.Pairwise (· ≤ ·) → H p = none → so p = none → Q (.ref p) (upd H p (.lst (ys.map V.int)))) ∨
  (∃ (a : Addr) (kvs : List (Key × V)) (ks : List Str), x = .ref a ∧ H a = some (.dK kvs) ∧ kvs.map (·.1) = ks.map Sum.inr ∧ ks.length < 64 ∧
    ∀ (ys : List Str) (p : Addr), ys.Perm ks → sortedS ys = true → H p = none → so p = none → Q (.ref p) (upd H p (.lst (ys.map V.str)))) ∨
  (∃ (ks : List Str), lstV so H x = some (ks.map V.str) ∧ ks.length < 64 ∧
    ∀ (ys : List Str) (p : Addr), ys.Perm ks → sortedS ys = true → H p = none → so p = none → Q (.ref p) (upd H p (.lst (ys.map V.str)))) ∨
  (∃ (xs : List V) (k : V → Int × Int), lstV so H x = some xs ∧ (∀ y ∈ xs, ∃ t, y = V.ref t ∧ H t = some (.tup [.int (k y).1, .int (k y).2])) ∧
    ∀ (ys : List V) (p : Addr), SrtO.Srtd (ltP k) ys → SrtO.Stb (ltP k) ys xs → H p = none → so p = none → Q (.ref p) (upd H p (.lst ys)))
def bSorted (so : Addr → Option HO) : List V → Hp → VK → Prop := fun xs H Q => match xs with
  | [x] => (match (lstV so H x).bind intsV with
    | some ns => ∀ (ns' : List Int) (p : Addr), ns'.Perm ns → ns'.Pairwise (· ≤ ·) → H p = none → so p = none → Q (.ref p) (upd H p (.lst (ns'.map V.int)))
    | none => bSortO so x H Q)
  | _ => False
def biV (so : Addr → Option HO) : Bi → List V → Hp → VK → Prop
  | .len => bLen so
  | .int => bInt
  | .bool => bBool
  | .str => bStr
  | .repr => bRepr so
  | .min => bMin
  | .max => bMax
  | .abs => bAbs
  | .sum => bSum so
  | .list => bList so
  | .tuple => bTuple so
  | .any => bAny so
  | .all => bAll so
  | .sorted => bSorted so
/-- what a built-in is called, and what it is -/
def biN : Bi → Str
  | .len => "len" | .int => "int" | .bool => "bool" | .str => "str" | .repr => "repr" | .min => "min" | .max => "max" | .abs => "abs" | .sum => "sum" | .list => "list" | .tuple => "tuple" | .any => "any" | .all => "all" | .sorted => "sorted"
def biF : Bi → Value
  | .len => .builtin "len" | .int => .type "int" | .bool => .type "bool" | .str => .type "str" | .repr => .builtin "repr" | .min => .builtin "min" | .max => .builtin "max" | .abs => .builtin "abs" | .sum => .builtin "sum" | .list => .type "list" | .tuple => .type "tuple"
  | .any => .builtin "any" | .all => .builtin "all" | .sorted => .builtin "sorted"
theorem biB (b : Bi) : bootBuiltins (biN b) = some (biF b) := by cases b <;> decide +kernel
theorem biN_name (b : Bi) : biN b ≠ "__name__" := by cases b <;> decide
theorem biN_debug (b : Bi) : (biN b == ("__debug__" : Str)) = false := by cases b <;> decide
section
variable {X : Cx} {so : Addr → Option HO}
theorem call_reprQ (S : SoOk X.K so) (hg : X.A.guards = some []) (hu : X.A.units + 64 < cLine) : CallR X (.builtin "repr") (fun xs H Q => ∃ x d, xs = [x] ∧ Dd so H x d ∧ d.showable = true ∧ d.hasDict = false ∧ d.depth ≤ 60 ∧ d.shown.length ≤ sizeLine ∧ Q (.str d.shown) H) := by
  intro pins s σ H xs us Q I r h
  obtain ⟨x, d, rfl, hd, hs, hn, hp, hz, q⟩ := h
  obtain ⟨u, rfl, rx⟩ := vals1 r
  have D := hd.dp S
  have fin : ∀ (tk : Nat) (t : Tok), EP X pins σ Q (.str d.shown t) { s with toks := tk } := fun tk t => ⟨.str d.shown, H, I.tok tk, ⟨t, rfl⟩, q⟩
  cases D with
  | non =>
    cases rx
    exact PySem.P.repr_of_none (fin _ _)
  | bl b =>
    cases rx
    refine PySem.P.repr_of_bool ?_
    have e := fin (s.toks + 1) s.toks
    unfold PyData.shown at e
    cases b <;> exact e
  | int i =>
    obtain ⟨t, rfl⟩ := rx
    exact PySem.P.repr_of_int (of_decide_eq_true hs) (fin _ _)
  | str y =>
    obtain ⟨t, rfl⟩ := rx
    exact PySem.P.repr_of_str (fin _ _) hz
  | @lst a ys ds sq da =>
    obtain ⟨as, rr⟩ := Dp.reads I _ _ u (.lst sq da) rx
    cases rx
    exact repr_of_reads' rr hs (PyData.noDict_hsm hn) hg (by omega) (fun _ _ e => e) (fun h' t tk hk => ⟨.str _, H, I.kept (t' := tk) hk, ⟨t, rfl⟩, q⟩) hz
  | @tup a ys ds sq da =>
    obtain ⟨as, rr⟩ := Dp.reads I _ _ u (.tup sq da) rx
    cases rx
    exact repr_of_reads' rr hs (PyData.noDict_hsm hn) hg (by omega) (fun _ _ e => e) (fun h' t tk hk => ⟨.str _, H, I.kept (t' := tk) hk, ⟨t, rfl⟩, q⟩) hz
/-- repr of an empty dict -/
theorem call_repr0 (hg : X.A.guards = some []) (hu : X.A.units + 64 < cLine) : CallR X (.builtin "repr") (fun xs H Q => ∃ a, xs = [.ref a] ∧ H a = some (.dK []) ∧ Q (.str "{}") H) := by
  intro pins s σ H xs us Q I r h
  obtain ⟨a, rfl, ha, q⟩ := h
  obtain ⟨u, rfl, rx⟩ := vals1 r
  cases rx
  obtain ⟨_, hsm, vs, kv, o, es, ep, ho, ex, hd, _, hp, _⟩ := I.hok a _ ha
  cases kv
  have he : es.toList = [] := by
    generalize es.toList = l at hp
    cases hp
    rfl
  have r0 : Reads s.heap (.ref a) (.dict []) (a :: [] ++ []) := by
    refine Reads.dict ho ex.1 hd ?_ ?_
    · rw [he]; exact .nil
    · rw [he]; exact .nil
  refine repr_of_reads' r0 (by decide +kernel) (fun _ hm => ?_) hg (by have hdp : (PyData.dict []).depth ≤ 1 := (by decide +kernel); omega) (fun _ _ e => e) (fun h' t tk hk => ⟨.str "{}", H, I.kept (t' := tk) hk, ⟨t, by rw [show (PyData.dict []).shown = ("{}" : Str) from by kernel_rfl]⟩, q⟩) (by decide +kernel)
  have : sysModules = a := by simpa using hm
  rw [this] at hsm
  simp at hsm
theorem call_lenQ (S : SoOk X.K so) : CallR X (.builtin "len") (bLen so) := CallR.imp (CallR.or call_len call_lenD) fun xs H Q h => by
  unfold bLen at h
  split at h
  · rename_i x
    split at h
    · rename_i n e
      cases x with
      | str y =>
        unfold lenV at e
        simp only at e
        split at e
        · rename_i z
          cases e
          exact .inl ⟨_, _, rfl, ⟨z, rfl⟩, h⟩
        · cases e
      | ref p =>
        unfold lenV at e
        simp only at e
        split at e
        · rename_i e1
          cases e
          exact .inl ⟨_, _, rfl, .inl ⟨_, rd_lst S e1, rfl⟩, h⟩
        · rename_i e1
          cases e
          exact .inl ⟨_, _, rfl, .inr ⟨_, rd_tup S e1, rfl⟩, h⟩
        · split at e
          · rename_i e1 _ _ e2
            cases e
            exact .inr ⟨_, _, rfl, rd_dK S e1 e2, h⟩
          · cases e
        · cases e
      | _ => cases e
    · exact h.elim
  · exact h.elim
theorem bind_some {α β : Type} {x : Option α} {f : α → Option β} {b : β} (h : x.bind f = some b) : ∃ a, x = some a ∧ f a = some b := by
  cases x with
  | none => cases h
  | some a => exact ⟨a, rfl, h⟩
theorem ints_at (S : SoOk X.K so) {H : Hp} {x : V} {ns : List Int} (h : (lstV so H x).bind intsV = some ns) : ∃ p, x = .ref p ∧ SqL X.K H p (ns.map V.int) := by
  obtain ⟨xs, h1, h2⟩ := bind_some h
  obtain ⟨p, rfl, q⟩ := lstV_ok S h1
  rw [intsV_map h2] at q
  exact ⟨p, rfl, q⟩
theorem bls_at (S : SoOk X.K so) {H : Hp} {x : V} {ns : List Bool} (h : (lstV so H x).bind blsV = some ns) : ∃ p, x = .ref p ∧ SqL X.K H p (ns.map V.bl) := by
  obtain ⟨xs, h1, h2⟩ := bind_some h
  obtain ⟨p, rfl, q⟩ := lstV_ok S h1
  rw [blsV_map h2] at q
  exact ⟨p, rfl, q⟩
theorem call_no {f : Value} : CallR X f (fun _ _ _ => False) := fun _ _ _ _ _ _ _ _ _ h => h.elim
theorem call_biV (S : SoOk X.K so) (hc : X.calm = true) (hg : X.A.guards = some []) (hu : X.A.units + 64 < cLine) : ∀ b : Bi, CallR X (biF b) (biV so b)
  | .len => call_lenQ S
  | .int => CallR.imp (CallR.or call_int1 call_int_str) fun xs H Q h => by
    change bInt xs H Q at h
    unfold bInt at h
    split at h
    · exact .inl (.inl ⟨_, rfl, h⟩)
    · exact .inl (.inr ⟨_, rfl, h⟩)
    · obtain ⟨z, n, e, q⟩ := h
      exact .inr ⟨_, _, rfl, e, z, q⟩
    · exact h.elim
  | .bool => CallR.imp call_bool1 fun xs H Q h => by
    change bBool xs H Q at h
    unfold bBool at h
    split at h
    · exact .inl ⟨_, rfl, h⟩
    · exact .inr ⟨_, rfl, h⟩
    · exact h.elim
  | .str => CallR.imp call_str_int fun xs H Q h => by
    change bStr xs H Q at h
    unfold bStr at h
    split at h
    · exact ⟨_, rfl, h.1, h.2⟩
    · exact h.elim
  | .repr => CallR.imp (CallR.or (call_reprQ S hg hu) (call_repr0 hg hu)) fun xs H Q h => by
    change bRepr so xs H Q at h
    unfold bRepr at h
    split at h
    · rcases h with ⟨d, q⟩ | ⟨a, rfl, q⟩
      · exact .inl ⟨_, d, rfl, q⟩
      · exact .inr ⟨a, rfl, q⟩
    · exact h.elim
  | .min => CallR.imp (call_min2 hc) fun xs H Q h => by
    change bMin xs H Q at h
    unfold bMin at h
    split at h
    · exact ⟨_, _, rfl, h⟩
    · exact h.elim
  | .max => CallR.imp (call_max2 hc) fun xs H Q h => by
    change bMax xs H Q at h
    unfold bMax at h
    split at h
    · exact ⟨_, _, rfl, h⟩
    · exact h.elim
  | .abs => CallR.imp call_abs fun xs H Q h => by
    change bAbs xs H Q at h
    unfold bAbs at h
    split at h
    · exact ⟨_, rfl, h⟩
    · exact h.elim
  | .sum => CallR.imp (cr_sum hc) fun xs H Q h => by
    change bSum so xs H Q at h
    unfold bSum at h
    split at h
    · split at h
      · rename_i e
        obtain ⟨p, rfl, sq⟩ := ints_at S e
        exact ⟨p, _, rfl, sq, h⟩
      · exact h.elim
    · exact h.elim
  | .any => CallR.imp (cr_any hc) fun xs H Q h => by
    change bAny so xs H Q at h
    unfold bAny at h
    split at h
    · split at h
      · rename_i e
        obtain ⟨p, rfl, sq⟩ := bls_at S e
        exact ⟨p, _, rfl, sq, h⟩
      · exact h.elim
    · exact h.elim
  | .all => CallR.imp (cr_all hc) fun xs H Q h => by
    change bAll so xs H Q at h
    unfold bAll at h
    split at h
    · split at h
      · rename_i e
        obtain ⟨p, rfl, sq⟩ := bls_at S e
        exact ⟨p, _, rfl, sq, h⟩
      · exact h.elim
    · exact h.elim
  | .list => CallR.imp (CallR.nok S call_list_of) fun xs H Q h => by
    change bList so xs H Q at h
    unfold bList at h
    split at h
    · split at h
      · rename_i e
        obtain ⟨p, rfl, sq⟩ := lstV_ok S e
        exact ⟨p, _, rfl, .inl sq, fun l hl nk => h l hl (nok_upd nk)⟩
      · rename_i e
        obtain ⟨p, rfl, sq⟩ := tupV_ok S e
        exact ⟨p, _, rfl, .inr sq, fun l hl nk => h l hl (nok_upd nk)⟩
      · exact h.elim
    · exact h.elim
  | .tuple => CallR.imp (CallR.nok S call_tuple_of) fun xs H Q h => by
    change bTuple so xs H Q at h
    unfold bTuple at h
    split at h
    · split at h
      · rename_i e
        obtain ⟨p, rfl, sq⟩ := lstV_ok S e
        exact ⟨p, _, rfl, .inl ⟨sq, fun l hl nk => h l hl (nok_upd nk)⟩⟩
      · rename_i e
        obtain ⟨p, rfl, sq⟩ := tupV_ok S e
        exact ⟨p, _, rfl, .inr ⟨sq, fun _ => h⟩⟩
      · exact h.elim
    · exact h.elim
  | .sorted => CallR.imp (CallR.nok S (CallR.or cr_sortedI (CallR.or (call_sortedDI hc) (CallR.or (call_sortedD hc) (CallR.or cr_sortedS cr_sortedPO))))) fun xs H Q h => by
    change bSorted so xs H Q at h
    unfold bSorted at h
    split at h
    · split at h
      · rename_i e
        obtain ⟨p, rfl, sq⟩ := ints_at S e
        exact .inl ⟨p, _, rfl, sq, fun a b h1 h2 h3 nk => h a b h1 h2 h3 (nok_upd nk)⟩
      · rcases h with ⟨a, kvs, ks, rfl, h1, h2, h3, h4⟩ | ⟨a, kvs, ks, rfl, h1, h2, h3, h4⟩ | ⟨ks, h1, h3, h4⟩ | ⟨zs, k, h1, h2, h4⟩
        · exact .inr (.inl ⟨a, kvs, ks, rfl, .inl h1, h2, h3, fun a b h1 h2 h3 nk => h4 a b h1 h2 h3 (nok_upd nk)⟩)
        · exact .inr (.inr (.inl ⟨a, kvs, ks, rfl, .inl h1, h2, h3, fun a b h1 h2 h3 nk => h4 a b h1 h2 h3 (nok_upd nk)⟩))
        · obtain ⟨p, rfl, sq⟩ := lstV_ok S h1
          exact .inr (.inr (.inr (.inl ⟨p, ks, rfl, sq, h3, fun a b h1 h2 h3 nk => h4 a b h1 h2 h3 (nok_upd nk)⟩)))
        · obtain ⟨p, rfl, sq⟩ := lstV_ok S h1
          exact .inr (.inr (.inr (.inr ⟨p, zs, k, rfl, sq, h2, fun a b h1 h2 h3 nk => h4 a b h1 h2 h3 (nok_upd nk)⟩)))
    · exact h.elim
/-- b(e, ..), b a built-in -/
theorem pe_bi {b : Bi} {p pos : Pos} {e : Expr} {es : List Expr} {t : TA} (S : SoOk X.K so) (hc : X.calm = true) (hg : X.A.guards = some []) (hu : X.A.units + 64 < cLine) (hgl : Gl X (biN b)) (hm : X.mg (biN b) = none) (ha : PA X (e :: es) t)
    (he : starEach (e :: es) X.env = (false, eval e X.env) :: starEach es X.env) (hpl : (backTo pos (starEach es X.env)).any (·.1) = false) : PE X (.Call (.Name (biN b) p) (e :: es) [] pos) (fun σ H Q => t σ H fun vs H1 => biV so b vs H1 Q) := by
  have hcb := call_biV S hc hg hu b
  have hv := biB b
  have hn := biN_name b
  have hd := biN_debug b
  cases hk : biF b with
  | builtin i =>
    rw [hk] at hcb hv
    exact pe_callB hcb hgl hm hv ha hn hd he hpl
  | type i =>
    rw [hk] at hcb hv
    exact pe_callTy hcb hgl hm hv ha hn hd he hpl
  | _ => cases b <;> cases hk
end
/-! ### items and slices -/
def idxV (so : Addr → Option HO) : R2 := fun x y H Q => match x, y with
  | .ref p, .int i => (match rd so H p with
    | some (.lst xs) => (match atI xs i with
      | some v => Q v H
      | none => False)
    | some (.tup xs) => (match atI xs i with
      | some v => Q v H
      | none => False)
    | some (.dK kvs) => (match H p with
      | some (.dK _) => (match valV kvs (.inl i : Key) with
        | some v => Q v H
        | none => False)
      | _ => False)
    | _ => False)
  | .ref p, .str z => (match rd so H p with
    | some (.dK kvs) => (match H p with
      | some (.dK _) => (match valV kvs (.inr z : Key) with
        | some v => Q v H
        | none => False)
      | _ => False)
    | _ => False)
  | .str z, .int i => z.length ≤ sizeLine ∧ (match atI z.cps.toList i with
    | some c => Q (.str ⟨#[c]⟩) H
    | none => False)
  | _, _ => False
theorem IxR.imp {X : Cx} {r r' : R2} (h : IxR X r) (q : ∀ x y H Q, r' x y H Q → r x y H Q) : IxR X r' :=
  fun va sl pins s σ H x y v u Q I rx ry z => h va sl pins s σ H x y v u Q I rx ry (q x y H Q z)
/-- an item by a built-in's __getitem__, whatever it is -/
theorem tail_get {P : Program} {w : World} {A : Around} {E : Value → Shared → Prop} {s : Shared} {va sl : Expr} {o i : Value} {T id : String} {Q : Value → Shared → Prop} (hT : s.TypeIs o T) (hl : typeLookup (.type T) "__getitem__" = pure (some (.builtin id)))
    (h : wpAny (model P w) A (getItem o i) Q E s) (hs : subscripted sl false o i = operate [o, i] (getItem o i)) : wpAny (model P w) A (subscriptTail va sl o i) Q E s := by
  unfold subscriptTail
  refine wpAny_bind ?_
  rw [getitemInPython_of_ne hT.not_modules]
  refine wpAny_bind (wpAny_specialOf hT hl ?_)
  refine wpAny_pure (wpAny_bind ?_)
  rw [hs]
  exact wpAny_operating (wpAny_mono h (fun r s3 q => wpAny_bind (wpAny_letTemporaryGo (wpAny_pure q))) fun _ _ x => x)
theorem ix_dict {X : Cx} (hu : X.A.units + 1 < cLine) : IxR X (fun x y H Q => ∃ a v, x = .ref a ∧ DGet H a y (some v) ∧ Q v H) := by
  intro value slice pins s σ H x y v u Q I rx ry h hs
  obtain ⟨a, z, rfl, g, q⟩ := h
  obtain rfl : v = Value.ref a := rx
  exact tail_get (dict_typeIs I g) PySem.F.slot_dict_getitem.lookup (d_getItem hu I g ry fun w' s3 I3 rw' => ⟨z, H, I3, rw', q⟩) hs
theorem ix_idxV {X : Cx} {so : Addr → Option HO} (S : SoOk X.K so) (hu : X.A.units + 1 < cLine) : IxR X (idxV so) := IxR.imp (IxR.or ix_seq (ix_dict hu)) fun x y H Q h => by
  unfold idxV at h
  split at h
  · split at h
    · rename_i e
      split at h
      · rename_i e2
        exact .inl (.inl ⟨_, _, _, _, rfl, rfl, rd_lst S e, e2, h⟩)
      · exact h.elim
    · rename_i e
      split at h
      · rename_i e2
        exact .inl (.inr (.inl ⟨_, _, _, _, rfl, rfl, rd_tup S e, e2, h⟩))
      · exact h.elim
    · rename_i e
      split at h
      · rename_i e1
        split at h
        · rename_i e2
          refine .inr ⟨_, _, rfl, ?_, h⟩
          rw [← e2]
          exact DGet.k (k := Sum.inl _) (rd_dK S e e1)
        · exact h.elim
      · exact h.elim
    · exact h.elim
  · split at h
    · rename_i e
      split at h
      · rename_i e1
        split at h
        · rename_i e2
          refine .inr ⟨_, _, rfl, ?_, h⟩
          rw [← e2]
          exact DGet.k (k := Sum.inr _) (rd_dK S e e1)
        · exact h.elim
      · exact h.elim
    · exact h.elim
  · obtain ⟨z, h⟩ := h
    split at h
    · rename_i e
      exact .inl (.inr (.inr ⟨_, _, _, rfl, rfl, z, e, h⟩))
    · exact h.elim
  · exact h.elim
/-- x[lo:hi] -/
def slcV (so : Addr → Option HO) : V → Option Int → Option Int → Hp → VK → Prop := fun x lo hi H Q => match lstV so H x with
  | some xs => ∀ p, H p = none → so p = none → Q (.ref p) (upd H p (.lst (cutV xs lo hi)))
  | none => (match tupV so H x with
    | some xs => (HT.sIx xs.length 0 lo = 0 ∧ HT.sIx xs.length xs.length hi = xs.length → Q x H) ∧ (¬ (HT.sIx xs.length 0 lo = 0 ∧ HT.sIx xs.length xs.length hi = xs.length) → ∀ p, H p = none → so p = none → Q (.ref p) (upd H p (.tup (cutV xs lo hi))))
    | none => (match x with
      | .str z => z.length ≤ sizeLine ∧ Q (.str (cutS z lo hi)) H
      | _ => False))
theorem SlR.imp {X : Cx} {r r' : V → Option Int → Option Int → Hp → VK → Prop} (h : SlR X r) (q : ∀ x lo hi H Q, r' x lo hi H Q → r x lo hi H Q) : SlR X r' :=
  fun pins s σ H x v vl vu lo hi sl Q I rx hs pl pu z => h pins s σ H x v vl vu lo hi sl Q I rx hs pl pu (q x lo hi H Q z)
theorem SlR.or {X : Cx} {r r' : V → Option Int → Option Int → Hp → VK → Prop} (h : SlR X r) (h' : SlR X r') : SlR X (fun x lo hi H Q => r x lo hi H Q ∨ r' x lo hi H Q) :=
  fun pins s σ H x v vl vu lo hi sl Q I rx hs pl pu z => z.elim (fun z => h pins s σ H x v vl vu lo hi sl Q I rx hs pl pu z) (fun z => h' pins s σ H x v vl vu lo hi sl Q I rx hs pl pu z)
theorem sl_slcV {X : Cx} {so : Addr → Option HO} (S : SoOk X.K so) : SlR X (slcV so) := SlR.imp (SlR.nok S (SlR.or sl_list (SlR.or sl_tupA sl_str))) fun x lo hi H Q h => by
  unfold slcV at h
  split at h
  · rename_i e
    obtain ⟨p, rfl, sq⟩ := lstV_ok S e
    exact .inl ⟨p, _, rfl, sq, fun l hl nk => h l hl (nok_upd nk)⟩
  · split at h
    · rename_i e
      obtain ⟨p, rfl, sq⟩ := tupV_ok S e
      exact .inr (.inl ⟨p, _, rfl, sq, fun a _ => h.1 a, fun a l hl nk => h.2 a l hl (nok_upd nk)⟩)
    · split at h
      · exact .inr (.inr ⟨_, rfl, h.1, fun _ => h.2⟩)
      · exact h.elim
/-! ### stores -/
def setV : TSet := fun o i v H Q => match o, i with
  | .ref p, .int k => (match H p with
    | some (.lst xs) => (match ixN xs.length k with
      | some j => Q (upd H p (.lst (xs.set j v)))
      | none => False)
    | some (.dK kvs) => kvs.length < sizeLine ∧ Q (upd H p (.dK (putK kvs (.inl k : Key) v)))
    | _ => False)
  | .ref p, .str z => (match H p with
    | some (.dK kvs) => kvs.length < sizeLine ∧ Q (upd H p (.dK (putK kvs (.inr z : Key) v)))
    | _ => False)
  | _, _ => False
theorem PSet.or {X : Cx} {t t' : TSet} (h : PSet X t) (h' : PSet X t') : PSet X (fun o i v H Q => t o i v H Q ∨ t' o i v H Q) := fun pins s σ H o i v ov iv u Q I ro ri rv z => z.elim (h pins s σ H o i v ov iv u Q I ro ri rv) (h' pins s σ H o i v ov iv u Q I ro ri rv)
theorem PSet.imp {X : Cx} {t t' : TSet} (h : PSet X t) (q : ∀ o i v H Q, t' o i v H Q → t o i v H Q) : PSet X t' := fun pins s σ H o i v ov iv u Q I ro ri rv z => h pins s σ H o i v ov iv u Q I ro ri rv (q o i v H Q z)
theorem set_dict {X : Cx} (hu : X.A.units + 1 < cLine) : PSet X (fun o i v H Q => ∃ a H4, o = .ref a ∧ DPut H a i v H4 ∧ Q H4) := by
  intro pins s σ H o i v ov iv u Q I ro ri rv h
  obtain ⟨a, H4, rfl, g, q⟩ := h
  obtain rfl : ov = Value.ref a := ro
  exact d_setItem hu I g ri rv fun s4 I4 => ⟨H4, I4, q⟩
theorem set_setV {X : Cx} (hu : X.A.units + 1 < cLine) : PSet X setV := PSet.imp (PSet.or set_list (set_dict hu)) fun o i v H Q h => by
  unfold setV at h
  split at h
  · split at h
    · rename_i e
      split at h
      · rename_i e2
        exact .inl ⟨_, _, _, _, rfl, rfl, e, e2, h⟩
      · exact h.elim
    · rename_i e
      exact .inr ⟨_, _, rfl, DPut.k (k := Sum.inl _) e h.1, h.2⟩
    · exact h.elim
  · split at h
    · rename_i e
      exact .inr ⟨_, _, rfl, DPut.k (k := Sum.inr _) e h.1, h.2⟩
    · exact h.elim
  · exact h.elim
end QL
set_option Elab.async false
set_option linter.all false
set_option maxRecDepth 100000
set_option maxHeartbeats 4000000
/-! X0: bases whose __new__ is another class's (KeyError has LookupError's): an own exception is made, its base's __init__ is called. -/
namespace QL
open PySem PySem.F
/-- what is asked of a base's __init__ -/
structure IFacts (B initId : String) : Prop where
  init : Slot B "__init__" initId
  entry : entryFor table initId = some Builtin.«BaseException.__init__»
  split : splitId initId = some (B, "__init__")
  kind : builtinKind initId = some .slot
  row : Manifest.signature? initId = some ⟨.positional, "*", B, .self, [⟨"args", .varPos, false⟩]⟩
  noStar : (B != "*") = true
theorem IFacts.of {B newId initId : String} (F : ExcCallFacts B newId initId) : IFacts B initId := ⟨F.init, F.initEntry, F.initSplit, F.initKind, F.initRow, F.noStar⟩
theorem initKey : IFacts "KeyError" "KeyError.__init__" where
  init := .of (owner := "KeyError") (n := "__init__") (by rw [typeLookup_type, builtinLookup_eq_fast]; kernel_rfl) (by decide +kernel) (by decide +kernel) (by decide +kernel)
    (by first | exact .inl (by decide +kernel) | exact .inr (by decide +kernel)) (by rw [isSubtype_type]; kernel_rfl)
  entry := entryFor_alias (id' := "BaseException.__init__") (by rw [fastTable_eq_tree]; kernel_rfl) (by first | rfl | decide +kernel) (by decide +kernel) (by rw [fastTable_eq_tree]; kernel_rfl)
  split := by kernel_rfl
  kind := by kernel_rfl
  row := by kernel_rfl
  noStar := by decide +kernel
section
variable {M : Model} {A : Around} {E : Value → Shared → Prop} {h : Heap} {g : Array GenState} {d : Drawn} {t : Nat} {os : OsState}
variable {nm q : Str} {C N : Addr} {bs bm bmB : List Value} {hdct : Bool} {sn : List Str} {sub : List Value} {ab : Bool} {col : Option Bool} {dd : Option Addr} {k0 k1 k2 k3 k5 : Option Value} {B B' newId initId initId' : String}
theorem chk_new (F : ExcBaseFacts B newId initId bmB) (hB : bm.contains (.type B) = true) {rest : List Value} {Q : Unit → Shared → Prop}
    (hC : h.get? C = some (excClassObj nm q C N bs bm hdct sn sub ab col dd k0 k1 k2 k3 k5 newId)) (hq : Q () ⟨h, g, d, t, os⟩) : wpAny M A (checkBuiltinCall newId ⟨.ref C :: rest, []⟩) Q E ⟨h, g, d, t, os⟩ := by
  have hcont : (Value.ref C :: bm).contains (.type B) = true := by rw [List.contains_cons, hB, Bool.or_true]
  have hstar := F.noStar
  simp only [checkBuiltinCall, F.newKind, F.newSplit, F.newRow]
  repeat (first | refine wpAny_loadPart_at hC ?_ | (refine wpAny_isSubtype_exc hC ?_; rw [hcont]) | refine wpAny_staticBase_exc hC ?_ | refine wpAny_madeBy_exc hC ?_ | simp only [bne_self_eq_false, Bool.false_eq_true, if_false] | wp_step)
  exact hq
theorem chk_init (F : IFacts B' initId') (hB : bm.contains (.type B') = true) {e : Addr} {oe : Obj} {rest : List Value} {Q : Unit → Shared → Prop}
    (hC : h.get? C = some (excClassObj nm q C N bs bm hdct sn sub ab col dd k0 k1 k2 k3 k5 newId)) (he : h.get? e = some oe) (hcls : oe.cls = .ref C) (hq : Q () ⟨h, g, d, t, os⟩) :
    wpAny M A (checkBuiltinCall initId' ⟨.ref e :: rest, []⟩) Q E ⟨h, g, d, t, os⟩ := by
  have hcB : (Value.ref C :: bm).contains (.type B') = true := by rw [List.contains_cons, hB, Bool.or_true]
  have hshort := F.noStar
  simp only [checkBuiltinCall, F.kind, F.split, F.row]
  repeat (first | (with_reducible refine wpAny_loadPart_at he ?_; rw [hcls]) | with_reducible refine wpAny_loadPart_at hC ?_ | (with_reducible refine wpAny_isSubtype_exc hC ?_; rw [hcB]) | wp_step)
  refine wpAny_onRaise ?_
  rw [show ∀ (a b : String) (n : Nat), Bind.check ⟨.positional, "*", B', .self, [⟨"args", .varPos, false⟩]⟩ a b n (List.map (fun x => x.fst) ({ pos := Value.ref e :: rest } : Args).kw) = pure () from
    fun a b n => check_star_args _ _ _ _ _ _]
  exact wpAny_pure hq
end
section
variable {prog : Program} {w : World} {A : Around} {E : Value → Shared → Prop} {R : Result → Shared → Prop} {h : Heap} {g : Array GenState} {d : Drawn} {t : Nat} {os : OsState}
variable {nm q : Str} {C N : Addr} {bs bm bmB : List Value} {hdct : Bool} {sn : List Str} {sub : List Value} {ab : Bool} {col : Option Bool} {dd : Option Addr} {k0 k1 k2 k3 k5 : Option Value} {B B' newId initId initId' : String}
/-- the classes that such a class lies under -/
structure Und (B : String) (bm : List Value) : Prop where
  b : bm.contains (.type B) = true
  a : bm.contains (.type "AttributeError") = false
  n : bm.contains (.type "NameError") = false
theorem new_u (F : ExcBaseFacts B newId initId bmB) (U : Und B bm) {rest : List Value}
    (hC : h.get? C = some (excClassObj nm q C N bs bm hdct sn sub ab col dd k0 k1 k2 k3 k5 newId))
    (hq : R (.ok (.ret (.ref (h.objs.size + 1)))) ⟨(h.push { cls := .type "tuple", data := .seq rest.toArray }).push
      { cls := .ref C, data := .fields #[.ref h.objs.size, .none, .none, .none, .bool false, .none] }, g, d, t, os⟩) (hrest : rest.length ≤ sizeLine) :
    codeAny (model prog w) A (.builtin newId ⟨.ref C :: rest, []⟩) R ⟨h, g, d, t, os⟩ := by
  have hends := F.ends
  have hcB : (Value.ref C :: bm).contains (.type B) = true := by rw [List.contains_cons, U.b, Bool.or_true]
  have hcA : (Value.ref C :: bm).contains (.type "AttributeError") = false := by rw [List.contains_cons, U.a]; rfl
  have hcN : (Value.ref C :: bm).contains (.type "NameError") = false := by rw [List.contains_cons, U.n]; rfl
  refine codeAny_builtinAt F.entry ?_
  unfold Builtin.«BaseException.__new__»
  refine wpAt_bind ?_
  show wpAt _ _ _ (stack >>= _) _ _ _
  refine wpAt_bind (wpAt_stack fun p below => wpAt_of_wpAny ?_)
  wp_walk
  refine wpAt_of_wpAny ?_
  rw [F.owner]
  repeat (first | with_reducible refine wpAny_madeHere_exc F.canon hC ?_ | with_reducible refine wpAny_loadPart_at hC ?_ | (with_reducible refine wpAny_isSubtype_exc hC ?_; first | rw [hcB] | rw [hcA] | rw [hcN]) | wp_step)
  show R _ _
  rw [Heap.size_push]
  exact hq
theorem tcall_u (F : ExcBaseFacts B newId initId bmB) (U : Und B bm) {rest : List Value} {fI : Addr} {Q : Fin → Shared → Prop}
    (hC : h.get? C = some (excClassObj nm q C N bs bm hdct sn sub ab col dd k0 k1 k2 k3 k5 newId))
    (hi : W.Looks (model prog w) h (typeLookup (.ref C) "__init__") (some (.ref fI))) (hb : ∀ self, W.Looks (model prog w) h (bindSpecial (.ref fI) self) (.ref fI, [self])) (hrest : rest.length ≤ sizeLine)
    (hq : codeAny (model prog w) A (.call (.ref fI) ⟨.ref (h.objs.size + 1) :: rest, []⟩)
      (fun r s' => match r with | .ok (.ret v) => v = .none ∧ Q (.done (.ret (.ref (h.objs.size + 1)))) s' | .ok _ => False | .error e => E e s')
      ⟨(h.push (W.kdv_tup rest)).push (HandSPX.excO C h.objs.size), g, d, t, os⟩) :
    wpAny (model prog w) A (Builtin.«type.__call__» ⟨.ref C :: rest, []⟩) Q E ⟨h, g, d, t, os⟩ := by
  repeat (first | with_reducible refine wpAny_loadPart_at hC ?_ | with_reducible refine wpAny_madeBy_exc hC ?_ | wp_step)
  refine codeAny_call_builtin_code (Code.quiet_builtin _ F.quiet) (chk_new F U.b hC ?_)
  refine new_u F U hC ?_ hrest
  show wpAny _ _ _ _ _ _
  have k : ∀ b o, h.get? b = some o → ((h.push (W.kdv_tup rest)).push (HandSPX.excO C h.objs.size)).get? b = some o := fun b o e => Heap.get?_push_of_some _ (Heap.get?_push_of_some _ e)
  have hC₁ := k _ _ hC
  have hget : ((h.push (W.kdv_tup rest)).push (HandSPX.excO C h.objs.size)).get? (h.objs.size + 1) = some (HandSPX.excO C h.objs.size) := by heap_get
  have hcC : (Value.ref C :: bm).contains (.ref C) = true := by simp
  have i1 := hi.keeps k
  have b1 := (hb (.ref (h.objs.size + 1))).keeps k
  unfold isInstance
  repeat (first | with_reducible refine wpAny_loadPart_at hget ?_ | (with_reducible refine wpAny_isSubtype_exc hC₁ ?_; rw [hcC]) | wp_step)
  show wpAny _ _ (typeLookup (.ref C) _) _ _ _
  refine i1.at ?_
  refine wpAny_holding (wpAny_bind (b1.at ?_))
  refine wpAny_bind (wpAny_call (codeAny_mono hq fun r s' z => ?_))
  rcases r with e | (v | _ | _ | _) <;> first | exact z | exact z.elim | skip
  obtain ⟨rfl, z⟩ := z
  first
    | exact wpAny_pure (wpAny_pure z)
    | (wp_walk; exact z)
theorem call_u (F : ExcBaseFacts B newId initId bmB) (U : Und B bm) {rest : List Value} {fI : Addr}
    (hC : h.get? C = some (excClassObj nm q C N bs bm hdct sn sub ab col dd k0 k1 k2 k3 k5 newId))
    (hi : W.Looks (model prog w) h (typeLookup (.ref C) "__init__") (some (.ref fI))) (hb : ∀ self, W.Looks (model prog w) h (bindSpecial (.ref fI) self) (.ref fI, [self])) (hrest : rest.length ≤ sizeLine)
    (hq : codeAny (model prog w) (A.under (.builtin "type.__call__" ⟨.ref C :: rest, []⟩)) (.call (.ref fI) ⟨.ref (h.objs.size + 1) :: rest, []⟩) (W.InitBack (h.objs.size + 1) R)
      ⟨(h.push (W.kdv_tup rest)).push (HandSPX.excO C h.objs.size), g, d, t, os⟩) :
    codeAny (model prog w) A (.call (.ref C) ⟨rest, []⟩) R ⟨h, g, d, t, os⟩ := by
  have f1 := tc_lookup
  have f2 := tc_bind (.ref C)
  have hTy : (⟨h, g, d, t, os⟩ : Shared).TypeIs (.ref C) "type" := ⟨_, hC, rfl⟩
  refine codeAny_of_tree ?_
  show wpAny _ _ (callAny (.ref C) _) _ _ _
  repeat (any_goals (first | assumption | with_reducible refine wpAny_loadPart_at hC ?_ | wp_step))
  refine ⟨rfl, ?_⟩
  refine codeAny_call_builtin_at (Code.quiet_builtin _ (by decide +kernel)) entry_typeCall (wpAny_check_type_call_sub hC (tcall_u F U hC hi hb hrest ?_))
  refine codeAny_mono hq fun r s' z => ?_
  rcases r with e | (v | _ | _ | _) <;> exact z
theorem init_u (F : IFacts B' initId') (hB : bm.contains (.type B') = true) {e t0 : Addr} {rest : List Value}
    (hC : h.get? C = some (excClassObj nm q C N bs bm hdct sn sub ab col dd k0 k1 k2 k3 k5 newId)) (he : h.get? e = some (HandSPX.excO C t0)) (hrest : rest.length ≤ sizeLine)
    (hq : ∀ h' t1, (∀ b o, b ≠ e → h.get? b = some o → h'.get? b = some o) → h'.get? e = some (HandSPX.excO C t1) → R (.ok (.ret .none)) ⟨h', g, d, t, os⟩) :
    codeAny (model prog w) A (.call (.builtin initId') ⟨.ref e :: rest, []⟩) R ⟨h, g, d, t, os⟩ := by
  refine codeAny_call_builtin F.init.plain F.entry (chk_init F hB hC he rfl ?_)
  wp_walk
  refine hq _ h.objs.size (fun b o hb ho => ?_) ?_
  · rw [Heap.get?_update_other _ _ (Ne.symm hb)]
    exact Heap.get?_push_of_some _ ho
  · rw [Heap.get?_update_self _ (Heap.get?_push_of_some _ he) rfl]
    rfl
end
end QL
set_option Elab.async false
set_option linter.all false
set_option maxRecDepth 100000
set_option maxHeartbeats 4000000
/-! X1: own exception classes over four of Python's own, whose __init__ calls the base's and stores one field, or none: made. -/
namespace QL
open PySem PySem.Spec L2
open PyProof.Rows hiding St
/-- the bases -/
inductive Xb where
  | ve | ie | oe | re | ke
  deriving DecidableEq
def Xb.nm : Xb → String
  | .ve => "ValueError" | .ie => "IndexError" | .oe => "OverflowError" | .re => "RuntimeError" | .ke => "KeyError"
def Xb.st : Xb → Str
  | .ve => "ValueError" | .ie => "IndexError" | .oe => "OverflowError" | .re => "RuntimeError" | .ke => "KeyError"
def Xb.nw : Xb → String
  | .ve => "ValueError.__new__" | .ie => "IndexError.__new__" | .oe => "OverflowError.__new__" | .re => "RuntimeError.__new__" | .ke => "LookupError.__new__"
def Xb.it : Xb → String
  | .ve => "ValueError.__init__" | .ie => "IndexError.__init__" | .oe => "OverflowError.__init__" | .re => "RuntimeError.__init__" | .ke => "KeyError.__init__"
def Xb.bm : Xb → List Value
  | .ve => [.type "ValueError", .type "Exception", .type "BaseException", .type "object"]
  | .ie => [.type "IndexError", .type "LookupError", .type "Exception", .type "BaseException", .type "object"]
  | .oe => [.type "OverflowError", .type "ArithmeticError", .type "Exception", .type "BaseException", .type "object"]
  | .re => [.type "RuntimeError", .type "Exception", .type "BaseException", .type "object"]
  | .ke => [.type "KeyError", .type "LookupError", .type "Exception", .type "BaseException", .type "object"]
theorem Xb.fnew : ∀ b : Xb, ∃ (B initId : String) (bm : List Value), ExcBaseFacts B b.nw initId bm ∧ Und B b.bm
  | .ve => ⟨_, _, _, PySem.F.excBase_ValueError, by decide +kernel, by decide +kernel, by decide +kernel⟩
  | .ie => ⟨_, _, _, PySem.F.excBase_IndexError, by decide +kernel, by decide +kernel, by decide +kernel⟩
  | .oe => ⟨_, _, _, PySem.F.excBase_OverflowError, by decide +kernel, by decide +kernel, by decide +kernel⟩
  | .re => ⟨_, _, _, PySem.F.excBase_RuntimeError, by decide +kernel, by decide +kernel, by decide +kernel⟩
  | .ke => ⟨_, _, _, PySem.F.excBase_LookupError, by decide +kernel, by decide +kernel, by decide +kernel⟩
theorem Xb.fini : ∀ b : Xb, IFacts b.nm b.it
  | .ve => .of PySem.F.excBase_ValueError.toExcCallFacts
  | .ie => .of PySem.F.excBase_IndexError.toExcCallFacts
  | .oe => .of PySem.F.excBase_OverflowError.toExcCallFacts
  | .re => .of PySem.F.excBase_RuntimeError.toExcCallFacts
  | .ke => initKey
theorem Xb.has (b : Xb) : b.bm.contains (.type b.nm) = true := by cases b <;> decide +kernel
theorem Und.of {B : String} {bm bm' : List Value} (U : Und B bm') (h : ∀ X : String, bm.contains (.type X) = bm'.contains (.type X)) : Und B bm := ⟨by rw [h]; exact U.b, by rw [h]; exact U.a, by rw [h]; exact U.n⟩
theorem Xb.passes (b : Xb) (self : Value) : refuseLoop self "__setattr__" b.bm = pure () := by
  cases b <;> kernel_rfl
theorem Xb.obj (b : Xb) : b.bm.contains (.type "object") = true := by cases b <;> decide +kernel
theorem Xb.typ (b : Xb) : typeOf (.type b.nm) = pure (.type "type") := by cases b <;> kernel_rfl
theorem Xb.boot (b : Xb) : bootBuiltins b.st = some (.type b.nm) := by cases b <;> decide +kernel
theorem Xb.stub (b : Xb) : Manifest.isStub b.nm = false := by cases b <;> decide +kernel
theorem Xb.hand (b : Xb) : PySem.W.handedIn (.builtin b.it) = true := by cases b <;> decide +kernel
section
open Builtin Builtin.ObjectAttr
variable {prog : Program} {w : World} {A : Around} {E : Value → Shared → Prop} {R : Result → Shared → Prop} {hp : Heap} {g : Array GenState} {d : Drawn} {t : Nat} {os : OsState}
/-- self.f = v, the first store into an exception of an own class over b -/
theorem osa_x (b : Xb) {K : PySem.W.Frag} {name : Str} {tk : Tok} {v : Value} {x C : Addr} {fv : Array Value} {cd : ClassData} {bm : List Value}
    (X : K.In hp) (hx : hp.get? x = some { cls := .ref C, data := .fields fv }) (hcd : PySem.W.clsIn K C = some cd) (hmr0 : cd.mro = .ref C :: bm) (hm : PySem.W.excTail b.bm bm = true) (hh : cd.hasDict = true) (ha : PySem.W.findIn K (.ref C) name = some none)
    (hq : ∀ h' tk' dx, (∀ b o, b ≠ x → hp.get? b = some o → h'.get? b = some o) → hp.objs.size ≤ dx → dx ≠ x → h'.get? x = some { cls := .ref C, dict := some dx, data := .fields fv } →
      h'.Ns1 dx (fun y => if y = name then some v else none) → R (.ok (.ret .none)) ⟨h', g, d, tk', os⟩) :
    codeAny (model prog w) A (.call (.builtin "object.__setattr__") ⟨[.ref x, .str name tk, v], []⟩) R ⟨hp, g, d, t, os⟩ := by
  have I : PySem.W.InstAt hp x { cls := .ref C, data := .fields fv } C none := ⟨hx, rfl, rfl, trivial⟩
  have SF := F.store_object
  have hm1 : PySem.W.excTail b.bm cd.mro = true := by rw [hmr0]; exact hm
  have ne : cd.mro.isEmpty = false := by rw [hmr0]; rfl
  have hob : cd.mro.contains (.type "object") = true := (PySem.W.excTail_contains "object" _ hm1).trans b.obj
  have hxs : x ≠ hp.objs.size := Nat.ne_of_lt (Heap.lt_size hx)
  have sub : PySem.W.Looks (model prog w) hp (isInstance (.ref x) (.type "object")) true := I.type.andThen (PySem.W.looks_mroIn X (by unfold PySem.W.mroIn; rw [hcd, Option.bind_some, if_neg (by rw [ne]; decide), hob]))
  refine codeAny_call_builtin SF.slot.plain SF.entry (@PySem.W.check_slot (model prog w) _ _ ⟨hp, g, d, t, os⟩ "object.__setattr__" "object" "__setattr__" (.ref x) [.str name tk, v] [] _ SF.kind SF.split sub (SF.args (.ref x) (.str name tk) v) ?_)
  have hmr : PySem.W.Looks (model prog w) hp (mroOf (.ref C)) cd.mro := (PySem.W.looks_clsIn X hcd).andThen .now
  have L3 : PySem.W.Looks (model prog w) hp (storeTaker? none) none := .now
  have hcls : PySem.W.Looks (model prog w) hp (classData C) cd := PySem.W.looks_clsIn X hcd
  rw [PySem.W.osa_eq, refuse_eq]
  refine wpAny_bind (wpAny_bind (I.type.at (wpAny_bind (hmr.at ?_))))
  rw [PySem.W.excTail_pass (.ref x) (b.passes (.ref x)) _ hm1]
  refine wpAny_pure (wpAny_bind (I.type.at (wpAny_bind ((PySem.W.looks_findIn X ha).at (wpAny_bind (L3.at ?_))))))
  show wpAny _ _ (storeInOwnDict (.ref x) (.ref C) (.str name tk) name v false) _ _ _
  clear hmr0 hm1 hob ne sub hmr
  obtain ⟨nm, bs, mro, ns, qn, hd, sn, sb, ab, col, del⟩ := cd
  dsimp only at hh
  subst hh
  unfold storeInOwnDict ownDictForStores
  repeat (first | with_reducible refine HandSPX.store_in_new ?_ ?_ | with_reducible refine wpAny_loadPart_at hx ?_ | with_reducible refine hcls.at ?_ | wp_step)
  · exact ⟨_, #[], _, (Heap.get?_update_ne _ _ _ _ hxs.symm).trans (Heap.get?_push_at rfl rfl), rfl, fun e he => absurd he (by simp), fun _ => rfl⟩
  · intro h' tk' hn' hs
    have hx₁ : (hp.push { cls := .type "dict", data := .dict #[] }).get? x = some { cls := .ref C, data := .fields fv } := Heap.get?_push_of_some _ hx
    refine hq h' tk' hp.objs.size (fun b o hb ho => ?_) (Nat.le_refl _) hxs.symm ?_ hn'
    · exact (hs.2 b (Nat.ne_of_lt (Heap.lt_size ho))).trans ((Heap.get?_update_ne _ _ _ _ hb).trans (Heap.get?_push_of_some _ ho))
    · exact (hs.2 x hxs).trans (Heap.get?_update_self _ hx₁ rfl)
end
/-- what the written part says of an own exception class over b -/
structure XcC (K : PySem.W.Frag) (C : Addr) (b : Xb) : Prop where
  cls : ∃ nm q N bs bm sn sub ab col dd k0 k1 k2 k3 k5, K.lookup C = some (excClassObj nm q C N bs bm true sn sub ab col dd k0 k1 k2 k3 k5 b.nw) ∧ PySem.W.excTail b.bm bm = true
  sa : PySem.W.findIn K (.ref C) "__setattr__" = some (some (.builtin "object.__setattr__"))
  exC : PySem.W.subIn K (.ref C) (.type "BaseException") = some true
  tyC : PySem.W.typeIn K (.ref C) = some (.type "type")
  kC : PySem.W.keepIn K (.ref C) = true
/-- a class object as the head writes it -/
def xcB (K : PySem.W.Frag) (C : Addr) (b : Xb) : Bool := (match K.lookup C with
  | some ⟨.type "type", _, .cls cd, sl⟩ => (match cd.mro, sl.toList with
    | .ref C' :: bm, [_, _, _, _, some (.builtin n), _] => C' == C && n == b.nw && !cd.hasDel && cd.hasDict && PySem.W.excTail b.bm bm
    | _, _ => false)
  | _ => false) && decide (PySem.W.findIn K (.ref C) "__setattr__" = some (some (.builtin "object.__setattr__"))) && decide (PySem.W.subIn K (.ref C) (.type "BaseException") = some true) && decide (PySem.W.typeIn K (.ref C) = some (.type "type")) && PySem.W.keepIn K (.ref C)
theorem xcB_ok {K : PySem.W.Frag} {C : Addr} {b : Xb} (h : xcB K C b = true) : XcC K C b := by
  unfold xcB at h
  simp only [Bool.and_eq_true, decide_eq_true_eq] at h
  obtain ⟨⟨⟨⟨h1, h2⟩, h3⟩, h4⟩, h5⟩ := h
  refine ⟨?_, h2, h3, h4, h5⟩
  split at h1
  · rename_i dd cd sl ho
    split at h1
    · rename_i C' bm k0 k1 k2 k3 n k5 hm hs
      simp only [Bool.and_eq_true, beq_iff_eq, Bool.not_eq_true'] at h1
      obtain ⟨⟨⟨⟨rfl, rfl⟩, hdel⟩, hdi⟩, ht⟩ := h1
      obtain ⟨nm, bs, mro, ns, qn, hd, sn, sub, ab, col, del⟩ := cd
      dsimp only at hm hdel hdi
      subst hm hdel hdi
      have hsl : sl = #[k0, k1, k2, k3, some (.builtin b.nw), k5] := by
        obtain ⟨l⟩ := sl
        simp only at hs
        rw [hs]
      subst hsl
      exact ⟨nm, qn, ns, bs, bm, sn, sub, ab, col, dd, k0, k1, k2, k3, k5, ho, ht⟩
    · cases h1
  · cases h1
section
variable {X : Cx} {pins : List (Addr × Obj)} {σ : St} {H : Hp} {s : Shared} {a C dx : Addr} {f : Str} {y : V} {u : Value} {b : Xb} {E : Value → Shared → Prop} {A : Around}
theorem ost_x {Q : Unit → Shared → Prop} (T : XcC X.K C b) (I : Inv X pins σ H s) (e : H a = some (exo a C none)) (hno : PySem.W.findIn X.K (.ref C) f = some none) (ry : RelV y u)
    (h : ∀ dx s', H dx = none → dx ≠ a → Inv X pins σ (upd (upd H dx (exd dx [(f, y)])) a (exo a C (some dx))) s' → Q () s') : wpAny (model X.prog X.w) A (setAttr (.ref a) f u) Q E s := by
  obtain ⟨nm, q, N, bs, bm, sn, sub, ab, col, dd, k0, k1, k2, k3, k5, hC, hbm⟩ := T.cls
  have hcl : PySem.W.clsIn X.K C = some { name := nm, bases := bs, mro := .ref C :: bm, ns := N, qualname := q, hasDict := true, slotNames := sn, subclasses := sub, abstract := ab, collection := col, hasDel := false } := by unfold PySem.W.clsIn; rw [hC] <;> rfl
  obtain ⟨t1, ho⟩ := exo_at I.hok e
  obtain ⟨hp, g, d, t, os⟩ := s
  refine PySem.W.set_plain I.kIn (ox := { cls := .ref C, dict := none, data := .fields #[.ref t1, .none, .none, .none, .bool false, .none] }) (od := none) ⟨ho, rfl, rfl, trivial⟩ T.sa ?_
  refine osa_x b I.kIn ho hcl rfl hbm rfl hno (fun h' tk' dx k dn dne hx hn => ?_)
  have hnd : H dx = none := I.hok.fresh dn
  have nd : ∀ {b : Addr} {o : Obj}, hp.get? b = some o → b ≠ dx := fun {b o} q => Nat.ne_of_lt (Nat.lt_of_lt_of_le (Heap.lt_size q) dn)
  have na : ∀ {b : Addr}, H b = none → b ≠ a := fun {b} n z => by
    rw [z, e] at n
    cases n
  have Un1 : Un X.fs [] H (upd (upd H dx (exd dx [(f, y)])) a (exo a C (some dx))) hp h' := {
    keep := fun b o q n _ _ => k b o (na n) q
    slot := fun b o q n _ _ => ⟨o.slots, k b o (na n) q⟩
    free := fun b o q n _ => by rw [upd_ne (na n), upd_ne (nd q)]; exact n
    there := fun b o q _ => by
      by_cases hb : b = a
      · exact ⟨_, by rw [hb]; exact hx⟩
      · exact ⟨o, k b o hb q⟩
    tups := fun b xs q => by rw [upd_ne (at_ne e q exo_tup), upd_ne (ne_of_none q hnd)]; exact q
    frzs := fun b o v q => by rw [upd_ne (at_ne e q exo_frz), upd_ne (ne_of_none q hnd)]; exact q
    tbls := fun b ps q => ⟨#[], by rw [upd_ne (at_ne e q exo_tbl), upd_ne (ne_of_none q hnd), q]; simp⟩ }
  refine h dx _ hnd dne (I.un (t' := tk') Un1 fun b o q => ?_)
  by_cases hb : b = a
  · subst hb
    rw [upd_same] at q
    cases q
    exact exo_ok hx
  · rw [upd_ne hb] at q
    by_cases hd : b = dx
    · subst hd
      rw [upd_same] at q
      cases q
      exact exd_ok hn (relO_put (fs := []) ry fun g => True.intro)
    · rw [upd_ne hd] at q
      exact (I.hok b o q).stay (fun c v hc z => k c v (by
          rcases hc with hc | hc
          · rw [hc]
            exact hb
          · exact at_ne e hc exo_own) z)
        (fun c hc => by rw [upd_ne (at_ne e hc exo_own), upd_ne (ne_of_none hc hnd)]; exact hc) (fun c xs hc => by rw [upd_ne (at_ne e hc exo_tup), upd_ne (ne_of_none hc hnd)]; exact hc)
theorem oinit_x {us : List Value} {Q : Value → Shared → Prop} (T : XcC X.K C b) (I : Inv X pins σ H s) (e : H a = some (exo a C none)) (hl : us.length ≤ sizeLine) (h : ∀ s', Inv X pins σ H s' → Q .none s') :
    wpAny (model X.prog X.w) A (call (.builtin b.it) (.ref a :: us)) Q E s := by
  obtain ⟨nm, q, N, bs, bm, sn, sub, ab, col, dd, k0, k1, k2, k3, k5, hC, hbm⟩ := T.cls
  obtain ⟨t1, ho⟩ := exo_at I.hok e
  obtain ⟨hp, g, d, t, os⟩ := s
  refine wpAny_call (init_u b.fini (by rw [PySem.W.excTail_contains _ bm hbm]; exact b.has) (I.kIn _ _ hC) ho hl fun h' t2 k hx => ?_)
  have J := I.write (t' := t) (x := a) (e := a) (o := exo a C none) (by rw [e]; exact True.intro) (.inl rfl) k ⟨_, hx⟩ (exo_ok hx)
  have eu : upd H a (exo a C none) = H := by
    funext b
    by_cases hb : b = a
    · rw [hb, upd_same, e]
    · rw [upd_ne hb]
  rw [eu] at J
  exact h _ J
end
section
variable {X : Cx} {o e : Expr} {es : List Expr} {to te : TE} {ta : TA} {f : Str} {p p' p1 p2 pos : Pos} {b : Xb}
def tXi (K : PySem.W.Frag) (b : Xb) (ta : TA) : TE := fun σ H Q => ta σ H fun vs H1 => ∃ (a C : Addr) (ws : List V), vs = .ref a :: ws ∧ ws.length ≤ 1000 ∧ XcC K C b ∧ H1 a = some (exo a C none) ∧ Q .non H1
theorem pe_xi {pl : Sem Bool} (hg : Gl X b.st) (hm : X.mg b.st = none) (vV : PySem.W.findCls X.K (.type b.nm) (.type "type") "__init__" = some (.val (.builtin b.it))) (ha : PA X (e :: es) ta)
    (hc : eval (.Call (.Attribute (.Name b.st p1) "__init__" p2) (e :: es) [] pos) X.env = (do
      let ov ← eval (.Name b.st p1) X.env
      standAt p2.atName
      let (f, first) ← holding [ov] (getMethod ov "__init__" pl)
      callWith pos f first (backTo pos (starEach (e :: es) X.env)) (backToKw pos (keywordEach [] X.env))))
    (he : starEach (e :: es) X.env = (false, eval e X.env) :: starEach es X.env) (hpl : (backTo pos (starEach es X.env)).any (·.1) = false) :
    PE X (.Call (.Attribute (.Name b.st p1) "__init__" p2) (e :: es) [] pos) (tXi X.K b ta) := by
  refine ⟨fun pins s σ H Q I h => ?_⟩
  refine PySem.W.methodCall_KW (ld_blt I hg hm b.boot ?_ (by cases b <;> decide) (by cases b <;> decide)) hc
  obtain ⟨m, fr⟩ := I.fr
  refine PySem.W.method_type fr I.ok.mod.kin b.typ b.stub vV b.hand ?_
  show wpAny _ _ (callWith pos (Value.builtin b.it) [] (backTo pos (starEach (e :: es) X.env)) []) _ _ _
  refine PyProof.Rows.callWith_method1 (thn (ha.run pos pins _ σ H _ (I.tok _) h) fun us s1 ⟨vs, H1, I1, r1, a, C, ws, ev, hl, T, ea, q⟩ => ?_) he hpl
  subst ev
  cases r1 with
  | @cons _ u0 _ ur ra rw' =>
    obtain rfl : u0 = Value.ref a := ra
    have hlen : ur.length ≤ sizeLine := by
      rw [← Paired.length rw', sizeLine_eq]
      omega
    exact oinit_x T I1 ea hlen fun s' J => ⟨.non, H1, J, rfl, q⟩
def tXs (K : PySem.W.Frag) (b : Xb) (f : Str) (to te : TE) : TS := fun D σ H => te σ H fun y H1 => to σ H1 fun x H2 => ∃ a C : Addr, x = .ref a ∧ XcC K C b ∧ PySem.W.findIn K (.ref C) f = some none ∧
  H2 a = some (exo a C none) ∧ ∀ dx, H2 dx = none → dx ≠ a → D.nx σ (upd (upd H2 dx (exd dx [(f, y)])) a (exo a C (some dx)))
theorem ps_xs (ho : PE X o to) (he : PE X e te) (hs : swapsWith e (some (.Attribute o f p')) pos.line X.env = pure false) : PS X (.Assign [.Attribute o f p'] e pos) (tXs X.K b f to te) := by
  refine ⟨fun pins s σ H D I h => ?_⟩
  refine plainObj_wpAny_Assign_Attribute (thn (he.run pins s σ H _ I h) fun v s1 ⟨y, H1, I1, r1, q1⟩ => thn (ho.run pins s1 σ H1 _ I1 q1) fun u s2 ⟨x, H2, I2, r2, a, C, ex, T, hno, ea, q⟩ => ?_) hs
  subst ex
  obtain rfl : u = Value.ref a := r2
  exact ost_x T I2 ea hno r1 fun dx s' n ne J => ⟨σ, _, J, q dx n ne⟩
end
end QL
set_option Elab.async false
set_option linter.all false
set_option maxRecDepth 100000
set_option maxHeartbeats 4000000
/-! X2: an own exception made: as a value, and raised. -/
namespace QL
open PySem PySem.Spec L2
open PyProof.Rows hiding St
/-- an exception of the class at C, its dict at d, as a value -/
def exV (a C : Addr) (d : Option Addr) : HO := .ext fun h => ∃ (oe : Obj) (vs : Array Value), h.get? a = some oe ∧ Zc (.ref C) d oe ∧ oe.data = .fields vs
theorem exV_ok {P : Program} {w : World} {H : Hp} {h : Heap} {a C : Addr} {d : Option Addr} {oe : Obj} {vs : Array Value} (e : h.get? a = some oe) (z : Zc (.ref C) d oe) (dt : oe.data = .fields vs) : ObjOk P w H h a (exV a C d) :=
  ⟨⟨oe, vs, e, z, dt⟩, ⟨oe, e⟩, fun _ _ ⟨o, v, q, r⟩ k => ⟨o, v, k o q, r⟩⟩
theorem exV_at {P : Program} {w : World} {H : Hp} {h : Heap} {a C : Addr} {d : Option Addr} (hok : HOk P w H h) (e : H a = some (exV a C d)) : ∃ (oe : Obj) (vs : Array Value), h.get? a = some oe ∧ Zc (.ref C) d oe ∧ oe.data = .fields vs := by
  have x : ObjOk P w H h a (.ext fun h => ∃ (oe : Obj) (vs : Array Value), h.get? a = some oe ∧ Zc (.ref C) d oe ∧ oe.data = .fields vs) := hok a _ e
  exact x.1
theorem upd_upd {H : Hp} {a : Addr} {o u : HO} : upd (upd H a o) a u = upd H a u := by
  funext b
  by_cases h : b = a
  · rw [h, upd_same, upd_same]
  · rw [upd_ne h, upd_ne h, upd_ne h]
theorem upd_comm {H : Hp} {a b : Addr} {o u : HO} (h : a ≠ b) : upd (upd H a o) b u = upd (upd H b u) a o := by
  funext c
  by_cases h1 : c = b
  · subst h1
    rw [upd_same, upd_ne (Ne.symm h), upd_same]
  · rw [upd_ne h1]
    by_cases h2 : c = a
    · rw [h2, upd_same, upd_same]
    · rw [upd_ne h2, upd_ne h2, upd_ne h1]
/-- the call of the base's __init__ is a method's call -/
def xiE (e : Expr) (p1 p2 pos : Pos) (b : Xb) (as : List Expr) : Prop := e = .Call (.Attribute (.Name b.st p1) "__init__" p2) as [] pos ∧ ∃ pl : Env → Sem Bool, ∀ env : Env, eval (.Call (.Attribute (.Name b.st p1) "__init__" p2) as [] pos) env = (do
      let ov ← eval (.Name b.st p1) env
      standAt p2.atName
      let (f, first) ← holding [ov] (getMethod ov "__init__" (pl env))
      callWith pos f first (backTo pos (starEach as env)) (backToKw pos (keywordEach [] env)))
/-- the body of such an __init__ -/
def xiB (b : Xb) : Option Str → List Stmt → Prop
  | some f, l => ∃ p1 p2 p3 p4 k pos pe p5 p6 p7 pa txt e, xiE e p1 p2 pos b [.Name "self" p3, .Constant (.str txt) k p4] ∧ l = [.Expr e pe, .Assign [.Attribute (.Name "self" p5) f p6] (.Name f p7) pa]
  | none, l => ∃ p1 p2 p3 p4 k pos pe txt e, xiE e p1 p2 pos b [.Name "self" p3, .Constant (.str txt) k p4] ∧ l = [.Expr e pe]
def xiN : Option Str → List Str
  | some f => ["self", f]
  | none => ["self"]
/-- its names -/
def xiS (b : Xb) : Option Str → Scope → Bool
  | some f, sc => (sc.names.lookup ("self" : Str) == some .local) && (sc.names.lookup f == some .local) && (sc.names.lookup b.st == some .globalImplicit) && okf f
  | none, sc => (sc.names.lookup ("self" : Str) == some .local) && (sc.names.lookup b.st == some .globalImplicit)
where okf (f : Str) : Bool := !(f == ("__debug__" : Str)) && !(f == ("__classdict__" : Str)) && !(f == ("self" : Str))
/-- what such an __init__ does -/
def spX (K : PySem.W.Frag) (b : Xb) : Option Str → Sp
  | some f => fun vs H Q _ => ∃ (a C : Addr) (v : V), vs = [.ref a, v] ∧ XcC K C b ∧ PySem.W.findIn K (.ref C) f = some none ∧ H a = some (exo a C none) ∧ ∀ dx, H dx = none → dx ≠ a → Q .non (upd (upd H dx (exd dx [(f, v)])) a (exo a C (some dx)))
  | none => fun vs H Q _ => ∃ a C : Addr, vs = [.ref a] ∧ XcC K C b ∧ H a = some (exo a C none) ∧ Q .non H
theorem xi_fng {P : Program} {w : World} {K : PySem.W.Frag} {mg : Str → Option Value} {base : Heap} {b : Xb} {f : Option Str} {fI : Addr} {name qual : Str} {params : Arguments} {body : List Stmt} {scope : Scope} {dV kV doc pm cdv ct oc : Value} {an od : Option Addr}
    {osl : Array (Option Value)} (lk : K.lookup fI = some ⟨oc, od, .func (PySem.W.fnOf name qual params body scope dV kV doc pm an cdv ct), osl⟩) (hcd : PySem.W.codeIn K cdv qual = true) (S : FnScope (xiN f) (xiN f) scope) (hb : xiB b f body) (hs : xiS b f scope = true)
    (hm : mg b.st = none) (vV : PySem.W.findCls K (.type b.nm) (.type "type") "__init__" = some (.val (.builtin b.it))) :
    FnG P w K mg base 1 fI (PySem.W.fnOf name qual params body scope dV kV doc pm an cdv ct) (xiN f) (spX K b f) := by
  refine fng_of lk hcd S (fun vs H Q E h => ?_) fun A outer s H vs Q E hg hr h => ?_
  · cases f with
    | some f => obtain ⟨a, C, v, rfl, _⟩ := h; rfl
    | none => obtain ⟨a, C, rfl, _⟩ := h; rfl
  · cases f with
    | some f =>
      obtain ⟨p1, p2, p3, p4, k, pos, pe, p5, p6, p7, pa, txt, e0, ⟨rfl, pl, hev⟩, rfl⟩ := hb
      unfold xiS xiS.okf at hs
      simp only [Bool.and_eq_true, beq_iff_eq, Bool.not_eq_true'] at hs
      obtain ⟨⟨⟨h1, h2⟩, h3⟩, ⟨h4, h5⟩, h6⟩ := hs
      generalize hX : cxOf (L2.CX P w) P w K mg base (xiN (some f)) qual scope fI cdv A outer s H E = X
      have hN : X.N = xiN (some f) := by subst hX; rfl
      have hsc : X.env.scope = scope := by subst hX; rfl
      have hK : X.K = K := by subst hX; rfl
      have hmg : X.mg = mg := by subst hX; rfl
      have self : ∀ {p : Pos}, PE X (.Name "self" p) (tVar 0) := fun {p} => pe_var (by rw [hN]; rfl) (.inl (by rw [hsc]; exact h1)) (by decide) (by decide)
      have fld : ∀ {p : Pos}, PE X (.Name f p) (tVar 1) := fun {p} => pe_var (by rw [hN]; rfl) (.inl (by rw [hsc]; exact h2)) h4 h5
      have e1 : PE X (.Call (.Attribute (.Name b.st p1) "__init__" p2) [.Name "self" p3, .Constant (.str txt) k p4] [] pos) (tXi X.K b (tCons (tVar 0) (tCons (fun _ H Q => Q (.str txt) H) tNil))) := by
        refine pe_xi ?_ ?_ ?_ (pa_cons self (pa_cons pe_str pa_nil rfl) rfl) (hev X.env) (by rfl) (by rfl)
        · show X.env.scope.names.lookup b.st = _
          rw [hsc]; exact h3
        · rw [hmg]; exact hm
        · rw [hK]; exact vV
      refine ⟨_, pss_cons (ps_expr e1 rfl) (pss_cons (ps_xs (b := b) (f := f) (p' := p6) (pos := pa) self fld rfl) pss_nil), ?_⟩
      obtain ⟨a, C, v, rfl, T, hno, ea, q⟩ := h
      rw [← hK] at T hno
      refine ⟨_, rfl, a, C, [V.str txt], rfl, by simp, T, ea, ?_⟩
      exact ⟨_, rfl, _, rfl, a, C, rfl, T, hno, ea, fun dx n ne => q dx n ne⟩
    | none =>
      obtain ⟨p1, p2, p3, p4, k, pos, pe, txt, e0, ⟨rfl, pl, hev⟩, rfl⟩ := hb
      unfold xiS at hs
      simp only [Bool.and_eq_true, beq_iff_eq] at hs
      obtain ⟨h1, h3⟩ := hs
      generalize hX : cxOf (L2.CX P w) P w K mg base (xiN none) qual scope fI cdv A outer s H E = X
      have hN : X.N = xiN none := by subst hX; rfl
      have hsc : X.env.scope = scope := by subst hX; rfl
      have hK : X.K = K := by subst hX; rfl
      have hmg : X.mg = mg := by subst hX; rfl
      have self : ∀ {p : Pos}, PE X (.Name "self" p) (tVar 0) := fun {p} => pe_var (by rw [hN]; rfl) (.inl (by rw [hsc]; exact h1)) (by decide) (by decide)
      have e1 : PE X (.Call (.Attribute (.Name b.st p1) "__init__" p2) [.Name "self" p3, .Constant (.str txt) k p4] [] pos) (tXi X.K b (tCons (tVar 0) (tCons (fun _ H Q => Q (.str txt) H) tNil))) := by
        refine pe_xi ?_ ?_ ?_ (pa_cons self (pa_cons pe_str pa_nil rfl) rfl) (hev X.env) (by rfl) (by rfl)
        · show X.env.scope.names.lookup b.st = _
          rw [hsc]; exact h3
        · rw [hmg]; exact hm
        · rw [hK]; exact vV
      refine ⟨_, pss_cons (ps_expr e1 rfl) pss_nil, ?_⟩
      obtain ⟨a, C, rfl, T, ea, q⟩ := h
      rw [← hK] at T
      exact ⟨_, rfl, a, C, [V.str txt], rfl, by simp, T, ea, q⟩
end QL
set_option Elab.async false
set_option linter.all false
set_option maxRecDepth 100000
set_option maxHeartbeats 4000000
/-! X3: own exceptions: made as values, raised, asked by isinstance, their fields read. -/
namespace QL
open PySem PySem.Spec L2
open PyProof.Rows hiding St
/-- what isinstance and fields ask of an own exception class -/
structure XvC (K : PySem.W.Frag) (C : Addr) : Prop where
  cl : (PySem.W.clsIn K C).isSome = true
  ga : PySem.W.findIn K (.ref C) "__getattribute__" = some (some (.builtin "BaseException.__getattribute__"))
  gg : PySem.W.findIn K (.ref C) "__getattr__" = some none
  exC : PySem.W.subIn K (.ref C) (.type "BaseException") = some true
  ca : PySem.W.findIn K (.ref C) "__class__" = some (some (.builtin "object.__class__"))
  cg : PySem.W.specialIn K (.builtin "object.__class__") "__get__" = some (some (.builtin "getset_descriptor.__get__"))
  ct : PySem.W.takesIn K (.builtin "object.__class__") = some true
  mo : PySem.W.mroIn K C (.type "object") = some true
  hd : PySem.W.hasDictIn K C = true
def xvB (K : PySem.W.Frag) (C : Addr) : Bool :=
  (PySem.W.clsIn K C).isSome && decide (PySem.W.findIn K (.ref C) "__getattribute__" = some (some (.builtin "BaseException.__getattribute__"))) && decide (PySem.W.findIn K (.ref C) "__getattr__" = some none) &&
  decide (PySem.W.subIn K (.ref C) (.type "BaseException") = some true) && decide (PySem.W.findIn K (.ref C) "__class__" = some (some (.builtin "object.__class__"))) &&
  decide (PySem.W.specialIn K (.builtin "object.__class__") "__get__" = some (some (.builtin "getset_descriptor.__get__"))) && decide (PySem.W.takesIn K (.builtin "object.__class__") = some true) &&
  decide (PySem.W.mroIn K C (.type "object") = some true) && PySem.W.hasDictIn K C
theorem xvB_ok {K : PySem.W.Frag} {C : Addr} (h : xvB K C = true) : XvC K C := by
  unfold xvB at h
  simp only [Bool.and_eq_true, decide_eq_true_eq] at h
  obtain ⟨⟨⟨⟨⟨⟨⟨⟨h1, h2⟩, h3⟩, h4⟩, h5⟩, h6⟩, h7⟩, h8⟩, h9⟩ := h
  exact ⟨h1, h2, h3, h4, h5, h6, h7, h8, h9⟩
/-- the fields of an exception with this dict -/
def Xd (H : Hp) (d : Option Addr) (fs : List (Str × V)) : Prop := match d with
  | some dd => H dd = some (.xd fs)
  | none => fs = []
/-- at a: an exception of the class at C with the fields fs -/
def Xat (H : Hp) (a C : Addr) (fs : List (Str × V)) : Prop := ∃ d : Option Addr, H a = some (exV a C d) ∧ Xd H d fs
section
variable {X : Cx} {pins : List (Addr × Obj)} {σ : St} {H : Hp} {s : Shared} {a C : Addr} {fs : List (Str × V)}
theorem Xat.inst (I : Inv X pins σ H s) (h : Xat H a C fs) : ∃ (ox : Obj) (od : Option Obj), PySem.W.InstAt s.heap a ox C od ∧ ∀ f v, fs.lookup f = some v → ∃ o u, od = some o ∧ PySem.W.lookIn f o = some (some u) ∧ RelV v u := by
  obtain ⟨d, ha, hd⟩ := h
  obtain ⟨oe, vs, e, z, dt⟩ := exV_at I.hok ha
  have hn : PySem.W.notCls oe = true := by unfold PySem.W.notCls; rw [dt] <;> rfl
  cases d with
  | none =>
    refine ⟨oe, none, ⟨e, z.1, hn, by rw [z.2]; trivial⟩, fun f v q => ?_⟩
    rw [show fs = [] from hd] at q
    cases q
  | some dd =>
    have hx : ObjOk X.prog X.w H s.heap dd (.xd fs) := I.hok dd _ hd
    obtain ⟨mA, hns, hr⟩ := hx
    have hns' := hns
    obtain ⟨od, _, _, ho, _⟩ := hns'
    refine ⟨oe, some od, ⟨e, z.1, hn, by rw [z.2]; exact ho⟩, fun f v q => ?_⟩
    obtain ⟨od', ho', hl⟩ := lookIn_ns hns
    rw [ho] at ho'
    cases ho'
    obtain ⟨u, hu, ru⟩ := RelO.some_of (v := v) (o := mA f) (by rw [← q]; exact hr f)
    exact ⟨od, u, rfl, by rw [hl, hu], ru⟩
end
section
variable {X : Cx}
theorem call_isx : CallR X (.builtin "isinstance") (fun xs H Q => ∃ (a C : Addr) (fs : List (Str × V)) (c : V) (cv : Value) (b : Bool), xs = [.ref a, c] ∧ Xat H a C fs ∧ XvC X.K C ∧ (∀ u, RelV c u → u = cv) ∧ PySem.W.kitOne X.K (.ref C) cv = some b ∧ Q (.bl b) H) := by
  intro pins s σ H xs us Q I r h
  obtain ⟨a, C, fs, c, cv, b, rfl, ha, T, hcv, e, q⟩ := h
  obtain ⟨u0, u1, rfl, rx, rt⟩ := vals2 r
  cases rx
  have ec := hcv _ rt
  subst ec
  obtain ⟨ox, od, J, _⟩ := ha.inst I
  exact PySem.W.kia_one (PySem.W.kitx_exc T.cl T.ga T.gg T.exC T.ca T.cg T.ct T.mo) I.kIn J e (fun z => nomatch z) fun tk => ⟨.bl b, H, I.kept (t' := tk) fun _ _ z => z, rfl, q⟩
/-- x.f by the value x -/
theorem xf_get {pins : List (Addr × Obj)} {σ : St} {H : Hp} {s : Shared} {a C : Addr} {fs : List (Str × V)} {n : Str} {v : V} {Q : VK} {b : Bool} (I : Inv X pins σ H s) (ha : Xat H a C fs) (T : XvC X.K C) (hno : PySem.W.findIn X.K (.ref C) n = some none) (l : fs.lookup n = some v) (q : Q v H) :
    wpAny (model X.prog X.w) X.A (getAttr (.ref a) n b) (EP X pins σ Q) X.xe s := by
  obtain ⟨ox, od, J, hf⟩ := ha.inst I
  obtain ⟨o, u, rfl, hl, ru⟩ := hf n v l
  exact HandSPX.exc_get I.kIn J T.ga T.gg T.exC (PySem.W.findObj_own T.hd hno rfl hl) (handed_of ru) ⟨v, H, I.tok _, ru, q⟩
end
/-! ### made -/
theorem exd_frz {e : Addr} {fs : List (Str × V)} {o : Obj} {u : HO} : exd e fs ≠ .frz o u := fun z => by
  have z' : HO.ext _ = HO.frz o u := z
  cases z'
theorem exd_tbl {e : Addr} {fs : List (Str × V)} {ps : Array Value} : exd e fs ≠ .tbl ps := fun z => by
  have z' : HO.ext _ = HO.tbl ps := z
  cases z'
/-- an exception being made becomes a value -/
theorem retrack {X : Cx} {pins : List (Addr × Obj)} {σ : St} {H : Hp} {s : Shared} {a d C : Addr} {fs : List (Str × V)} (I : Inv X pins σ H s) (ea : H a = some (exo a C (some d))) (ed : H d = some (exd d fs)) (hda : d ≠ a) :
    Inv X pins σ (upd (upd H d (.xd fs)) a (exV a C (some d))) s := by
  obtain ⟨t1, hoe⟩ := exo_at I.hok ea
  obtain ⟨mA, hns, rel⟩ := exd_at I.hok ed
  have na : ∀ {b : Addr}, H b = none → b ≠ a := fun {b} n z => by rw [z, ea] at n; cases n
  have nd : ∀ {b : Addr}, H b = none → b ≠ d := fun {b} n z => by rw [z, ed] at n; cases n
  have U : Un X.fs [] H (upd (upd H d (.xd fs)) a (exV a C (some d))) s.heap s.heap := {
    keep := fun b o q n _ _ => q
    slot := fun b o q n _ _ => ⟨o.slots, q⟩
    free := fun b o q n _ => by rw [upd_ne (na n), upd_ne (nd n)]; exact n
    there := fun b o q _ => ⟨o, q⟩
    tups := fun b xs q => by rw [upd_ne (at_ne ea q exo_tup), upd_ne (at_ne ed q exd_tup)]; exact q
    frzs := fun b o v q => by rw [upd_ne (at_ne ea q exo_frz), upd_ne (at_ne ed q exd_frz)]; exact q
    tbls := fun b ps q => ⟨#[], by rw [upd_ne (at_ne ea q exo_tbl), upd_ne (at_ne ed q exd_tbl), q]; simp⟩ }
  have J := I.un (t' := s.toks) U fun b o q => ?_
  · exact J
  by_cases hb : b = a
  · subst hb
    rw [upd_same] at q
    cases q
    exact exV_ok hoe ⟨rfl, rfl⟩ rfl
  · rw [upd_ne hb] at q
    by_cases hd : b = d
    · subst hd
      rw [upd_same] at q
      cases q
      exact ⟨mA, hns, rel⟩
    · rw [upd_ne hd] at q
      exact (I.hok b o q).stay (fun c v hc z => z) (fun c hc => by rw [upd_ne (at_ne ea hc exo_own), upd_ne (at_ne ed hc exd_own)]; exact hc) (fun c xs hc => by rw [upd_ne (at_ne ea hc exo_tup), upd_ne (at_ne ed hc exd_tup)]; exact hc)
theorem retrack0 {X : Cx} {pins : List (Addr × Obj)} {σ : St} {H : Hp} {s : Shared} {a C : Addr} (I : Inv X pins σ H s) (ea : H a = some (exo a C none)) : Inv X pins σ (upd H a (exV a C none)) s := by
  obtain ⟨t1, hoe⟩ := exo_at I.hok ea
  have na : ∀ {b : Addr}, H b = none → b ≠ a := fun {b} n z => by rw [z, ea] at n; cases n
  have U : Un X.fs [] H (upd H a (exV a C none)) s.heap s.heap := {
    keep := fun b o q n _ _ => q
    slot := fun b o q n _ _ => ⟨o.slots, q⟩
    free := fun b o q n _ => by rw [upd_ne (na n)]; exact n
    there := fun b o q _ => ⟨o, q⟩
    tups := fun b xs q => by rw [upd_ne (at_ne ea q exo_tup)]; exact q
    frzs := fun b o v q => by rw [upd_ne (at_ne ea q exo_frz)]; exact q
    tbls := fun b ps q => ⟨#[], by rw [upd_ne (at_ne ea q exo_tbl), q]; simp⟩ }
  have J := I.un (t' := s.toks) U fun b o q => ?_
  · exact J
  by_cases hb : b = a
  · subst hb
    rw [upd_same] at q
    cases q
    exact exV_ok hoe ⟨rfl, rfl⟩ rfl
  · rw [upd_ne hb] at q
    exact (I.hok b o q).stay (fun c v hc z => z) (fun c hc => by rw [upd_ne (at_ne ea hc exo_own)]; exact hc) (fun c xs hc => by rw [upd_ne (at_ne ea hc exo_tup)]; exact hc)
/-- an own exception class: all that is asked of it -/
structure Xk (P : Program) (w : World) (K : PySem.W.Frag) (mg : Str → Option Value) (base : Heap) (x : Str) (C : Addr) (f : Option Str) : Prop where
  at_ : mg x = some (.ref C)
  nm : (x == ("__debug__" : Str)) = false
  xv : XvC K C
  no : ∀ g, f = some g → PySem.W.findIn K (.ref C) g = some none
  it : ∃ (b : Xb) (fI : Addr) (fd : FuncData), XcC K C b ∧ PySem.W.findIn K (.ref C) "__init__" = some (some (.ref fI)) ∧ PySem.W.typeIn K (.ref fI) = some (.type "function") ∧ FnG P w K mg base 1 fI fd (xiN f) (spX K b f) ∧ Binds K fd (xiN f) []
section
variable {X : Cx} {x : Str} {C : Addr} {f : Option Str} {pins : List (Addr × Obj)} {σ : St} {H : Hp} {s : Shared} {us : List Value} {vs : List V}
/-- what the new exception leaves -/
def mkxH (H : Hp) (C : Addr) (f : Option Str) (vs : List V) (B : V → Hp → Prop) : Prop := match f, vs with
  | some g, [v] => ∀ a d, H a = none → H d = none → d ≠ a → B (.ref a) (upd (upd H d (.xd [(g, v)])) a (exV a C (some d)))
  | none, [] => ∀ a, H a = none → B (.ref a) (upd H a (exV a C none))
  | _, _ => False
theorem mkx_call {Q : VK} (T : Xk X.prog X.w X.K X.mg X.base x C f) (hr : Room 2 X.A) (hg : X.A.guards = some []) (I : Inv X pins σ H s) (r : Vals vs us) (h : mkxH H C f vs Q) :
    wpAny (model X.prog X.w) X.A (call (.ref C) us) (EP X pins σ Q) X.xe s := by
  obtain ⟨b, fI, fd, xc, iC, tI, F1, hb⟩ := T.it
  obtain ⟨nm, q, N, bs, bm, sn, sub, ab, col, dd, k0, k1, k2, k3, k5, hC, hbm⟩ := xc.cls
  obtain ⟨hp, g, dr, tk, os⟩ := s
  have hsz : hp.objs.size ≤ hp.objs.size + 1 := Nat.le_succ _
  have hn : H (hp.objs.size + 1) = none := I.hok.fresh hsz
  have kk : ∀ b o, hp.get? b = some o → ((hp.push (PySem.W.kdv_tup us)).push (PySem.HandSPX.excO C hp.objs.size)).get? b = some o := fun b o e => Heap.get?_push_of_some _ (Heap.get?_push_of_some _ e)
  have hget : ((hp.push (PySem.W.kdv_tup us)).push (PySem.HandSPX.excO C hp.objs.size)).get? (hp.objs.size + 1) = some (PySem.HandSPX.excO C hp.objs.size) := by heap_get
  have I2 : Inv X pins σ (upd H (hp.objs.size + 1) (exo (hp.objs.size + 1) C none)) ⟨(hp.push (PySem.W.kdv_tup us)).push (PySem.HandSPX.excO C hp.objs.size), g, dr, tk, os⟩ :=
    I.laid (t' := tk) (a := hp.objs.size + 1) (o := exo (hp.objs.size + 1) C none) (h' := (hp.push (PySem.W.kdv_tup us)).push (PySem.HandSPX.excO C hp.objs.size)) kk hsz (exo_ok hget)
  have r2 : Vals (V.ref (hp.objs.size + 1) :: vs) (Value.ref (hp.objs.size + 1) :: us) := .cons rfl r
  have hgu : (X.A.under (.builtin "type.__call__" ⟨.ref C :: us, []⟩)).guards = some [] := by
    simp [Around.under, Code.guards, Code.isGuard, pushGuards, guardIds, hg]
  have run : ∀ (Qi : VK), spX X.K b f (V.ref (hp.objs.size + 1) :: vs) (upd H (hp.objs.size + 1) (exo (hp.objs.size + 1) C none)) Qi (fun _ _ _ => False) → us.length ≤ sizeLine →
      (∀ H' s', Inv X pins σ H' s' → Qi .non H' → EP X pins σ Q (.ref (hp.objs.size + 1)) s') → (∀ v H', Qi v H' → v = .non) → wpAny (model X.prog X.w) X.A (call (.ref C) us) (EP X pins σ Q) X.xe ⟨hp, g, dr, tk, os⟩ := fun Qi hq hus hfin hnon => by
    have hl : (Value.ref (hp.objs.size + 1) :: us ++ []).length = (xiN f).length := by
      have e := r2.length
      rw [F1.len _ _ _ _ hq] at e
      rw [List.append_nil]
      exact e.symm
    have hbb := hb ⟨(hp.push (PySem.W.kdv_tup us)).push (PySem.HandSPX.excO C hp.objs.size), g, dr, tk, os⟩ (Value.ref (hp.objs.size + 1) :: us) I2.kIn hl
    rw [List.append_nil] at hbb
    obtain ⟨_, _, _, FN, UN⟩ := b.fnew
    refine wpAny_call (call_u FN (UN.of fun Y => PySem.W.excTail_contains Y bm hbm) (I.kIn _ _ hC) (PySem.W.looks_findIn I.kIn iC) (fun self => PySem.W.bind_fn I.kIn self tI) hus
      (codeAny_mono (F1.run _ X.stack _ _ ⟨Value.ref (hp.objs.size + 1) :: us, []⟩ (Value.ref (hp.objs.size + 1) :: us) _ Qi (fun _ _ _ => False) hgu (hr.make C us []) (I2.env0.make C us []) hbb r2 hq) fun r s' hq' => ?_))
    match r, hq' with
    | .error er, hq' =>
      obtain ⟨_, _, _, _, _, _, _, _, _, _, _, _, z⟩ := hq'
      exact z.elim
    | .ok (.ret u), hq' =>
      obtain ⟨v, H', I3, rv, q3⟩ := I2.after hq'
      have ev := hnon _ _ q3
      subst ev
      exact ⟨rv, hfin H' s' I3 q3⟩
    | .ok .next, hq' => exact hq'.elim
    | .ok .brk, hq' => exact hq'.elim
    | .ok .cont, hq' => exact hq'.elim
  match f, vs, h with
  | some fn, [v], h =>
    have hus : us.length ≤ sizeLine := by rw [← Paired.length r, sizeLine_eq]; simp
    refine run (fun u H2 => u = .non ∧ ∃ dx, H dx = none ∧ dx ≠ hp.objs.size + 1 ∧ H2 = upd (upd H dx (exd dx [(fn, v)])) (hp.objs.size + 1) (exo (hp.objs.size + 1) C (some dx))) ?_ hus ?_ fun _ _ z => z.1
    · refine ⟨_, C, v, rfl, xc, T.no fn rfl, upd_same, fun dx hdx ne => ⟨rfl, dx, ?_, ne, ?_⟩⟩
      · rw [upd_ne ne] at hdx
        exact hdx
      · rw [upd_comm (Ne.symm ne), upd_upd]
    · rintro H' s' I3 ⟨_, dx, hdx, ne, rfl⟩
      refine ⟨.ref (hp.objs.size + 1), _, retrack I3 upd_same (by rw [upd_ne ne, upd_same]) ne, rfl, ?_⟩
      have e : upd (upd (upd (upd H dx (exd dx [(fn, v)])) (hp.objs.size + 1) (exo (hp.objs.size + 1) C (some dx))) dx (.xd [(fn, v)])) (hp.objs.size + 1) (exV (hp.objs.size + 1) C (some dx)) = upd (upd H dx (.xd [(fn, v)])) (hp.objs.size + 1) (exV (hp.objs.size + 1) C (some dx)) := by
        rw [upd_comm (Ne.symm ne), upd_upd, upd_upd]
      rw [e]
      exact h (hp.objs.size + 1) dx hn hdx ne
  | none, [], h =>
    have hus : us.length ≤ sizeLine := by rw [← Paired.length r, sizeLine_eq]; simp
    refine run (fun u H2 => u = .non ∧ H2 = upd H (hp.objs.size + 1) (exo (hp.objs.size + 1) C none)) ⟨_, C, rfl, xc, upd_same, rfl, rfl⟩ hus ?_ fun _ _ z => z.1
    rintro H' s' I3 ⟨_, rfl⟩
    refine ⟨.ref (hp.objs.size + 1), _, retrack0 I3 upd_same, rfl, ?_⟩
    rw [upd_upd]
    exact h _ hn
/-- made, to be raised -/
theorem mkx_raise {g : Str} {v : V} {Q : XK} (T : Xk X.prog X.w X.K X.mg X.base x C (some g)) (hr : Room 2 X.A) (hg : X.A.guards = some []) (I : Inv X pins σ H s) (r : Vals [v] us) (h : ∀ d, H d = none → X.K.lookup d = none → Q (.ref C) (some d) (upd H d (.xd [(g, v)]))) :
    wpAny (model X.prog X.w) X.A (call (.ref C) us) (MkP X pins σ Q) X.xe s := by
  obtain ⟨b, fI, fd, xc, iC, tI, F1, hb⟩ := T.it
  obtain ⟨nm, q, N, bs, bm, sn, sub, ab, col, dd, k0, k1, k2, k3, k5, hC, hbm⟩ := xc.cls
  obtain ⟨hp, gg, dr, tk, os⟩ := s
  have hsz : hp.objs.size ≤ hp.objs.size + 1 := Nat.le_succ _
  have hn : H (hp.objs.size + 1) = none := I.hok.fresh hsz
  have kk : ∀ b o, hp.get? b = some o → ((hp.push (PySem.W.kdv_tup us)).push (PySem.HandSPX.excO C hp.objs.size)).get? b = some o := fun b o e => Heap.get?_push_of_some _ (Heap.get?_push_of_some _ e)
  have hget : ((hp.push (PySem.W.kdv_tup us)).push (PySem.HandSPX.excO C hp.objs.size)).get? (hp.objs.size + 1) = some (PySem.HandSPX.excO C hp.objs.size) := by heap_get
  have I2 : Inv X pins σ (upd H (hp.objs.size + 1) (exo (hp.objs.size + 1) C none)) ⟨(hp.push (PySem.W.kdv_tup us)).push (PySem.HandSPX.excO C hp.objs.size), gg, dr, tk, os⟩ :=
    I.laid (t' := tk) (a := hp.objs.size + 1) (o := exo (hp.objs.size + 1) C none) (h' := (hp.push (PySem.W.kdv_tup us)).push (PySem.HandSPX.excO C hp.objs.size)) kk hsz (exo_ok hget)
  have r2 : Vals [V.ref (hp.objs.size + 1), v] (Value.ref (hp.objs.size + 1) :: us) := .cons rfl r
  have hgu : (X.A.under (.builtin "type.__call__" ⟨.ref C :: us, []⟩)).guards = some [] := by
    simp [Around.under, Code.guards, Code.isGuard, pushGuards, guardIds, hg]
  have hus : us.length ≤ sizeLine := by rw [← Paired.length r, sizeLine_eq]; simp
  have hl : (Value.ref (hp.objs.size + 1) :: us ++ []).length = (xiN (some g)).length := by
    have e := r2.length
    rw [List.append_nil]
    exact e.symm
  have hbb := hb ⟨(hp.push (PySem.W.kdv_tup us)).push (PySem.HandSPX.excO C hp.objs.size), gg, dr, tk, os⟩ (Value.ref (hp.objs.size + 1) :: us) I2.kIn hl
  rw [List.append_nil] at hbb
  have hq : spX X.K b (some g) [V.ref (hp.objs.size + 1), v] (upd H (hp.objs.size + 1) (exo (hp.objs.size + 1) C none)) (fun u H2 => u = .non ∧ ∃ dx, H dx = none ∧ dx ≠ hp.objs.size + 1 ∧ H2 = upd (upd H dx (exd dx [(g, v)])) (hp.objs.size + 1) (exo (hp.objs.size + 1) C (some dx))) (fun _ _ _ => False) := by
    refine ⟨_, C, v, rfl, xc, T.no g rfl, upd_same, fun dx hdx ne => ⟨rfl, dx, ?_, ne, ?_⟩⟩
    · rw [upd_ne ne] at hdx
      exact hdx
    · rw [upd_comm (Ne.symm ne), upd_upd]
  obtain ⟨_, _, _, FN, UN⟩ := b.fnew
  refine wpAny_call (call_u FN (UN.of fun Y => PySem.W.excTail_contains Y bm hbm) (I.kIn _ _ hC) (PySem.W.looks_findIn I.kIn iC) (fun self => PySem.W.bind_fn I.kIn self tI) hus
    (codeAny_mono (F1.run _ X.stack _ _ ⟨Value.ref (hp.objs.size + 1) :: us, []⟩ (Value.ref (hp.objs.size + 1) :: us) _ _ (fun _ _ _ => False) hgu (hr.make C us []) (I2.env0.make C us []) hbb r2 hq) fun r s' hq' => ?_))
  match r, hq' with
  | .error er, hq' =>
    obtain ⟨_, _, _, _, _, _, _, _, _, _, _, _, z⟩ := hq'
    exact z.elim
  | .ok (.ret u), hq' =>
    obtain ⟨v', H2, os2, bare2, un2, hok2, rv, ev, dx, hdx, ne, eH⟩ := hq'
    subst ev
    subst eH
    obtain ⟨h2, g2, d2, t2, os'⟩ := s'
    refine ⟨rv, mk_end (raises_own xc.exC xc.tyC) I hsz kk un2 hok2 os2 bare2 (fs := [(g, v)]) (d := dx) upd_same (by rw [upd_ne ne, upd_same]) hdx ?_⟩
    have e : upd (del (upd (upd H dx (exd dx [(g, v)])) (hp.objs.size + 1) (exo (hp.objs.size + 1) C (some dx))) (hp.objs.size + 1)) dx (.xd [(g, v)]) = upd H dx (.xd [(g, v)]) := by
      funext c
      by_cases h1 : c = dx
      · subst h1
        rw [upd_same, upd_same]
      · rw [upd_ne h1, upd_ne h1]
        by_cases h2 : c = hp.objs.size + 1
        · rw [h2, del_same, hn]
        · rw [del_ne h2, upd_ne h2, upd_ne h1]
    rw [e]
    refine h dx hdx ?_
    cases q : X.K.lookup dx with
    | none => rfl
    | some o =>
      have J : Inv X pins σ (upd (upd H dx (exd dx [(g, v)])) (hp.objs.size + 1) (exo (hp.objs.size + 1) C (some dx))) ⟨h2, g2, d2, t2, os'⟩ := I2.call' (ch := []) os2 un2 hok2 bare2 (fun b z => absurd z (by simp))
      have z := (J.bs dx o (J.mod.kin dx o q)).2
      rw [upd_ne ne, upd_same] at z
      cases z
  | .ok .next, hq' => exact hq'.elim
  | .ok .brk, hq' => exact hq'.elim
  | .ok .cont, hq' => exact hq'.elim
variable {e : Expr} {es : List Expr} {ta : TA} {p pos : Pos}
/-- X(e) as a value -/
theorem pe_mkx (T : Xk X.prog X.w X.K X.mg X.base x C f) (hr : Room 2 X.A) (hg : X.A.guards = some []) (hgl : Gl X x) (ha : PA X (e :: es) ta) (he : starEach (e :: es) X.env = (false, eval e X.env) :: starEach es X.env) (hpl : (backTo pos (starEach es X.env)).any (·.1) = false) :
    PE X (.Call (.Name x p) (e :: es) [] pos) (fun σ H Q => ta σ H fun vs H1 => mkxH H1 C f vs Q) := by
  obtain ⟨b, fI, fd, xc, _⟩ := T.it
  refine ⟨fun pins s σ H Q I h => ?_⟩
  refine wpAny_Call_Name_kw (ld_glob I hgl T.at_ ?_ T.nm)
  refine PySem.W.callWith_K (h₀ := X.base) I.ok.mod.kin xc.kC (thn (ha.run pos pins s σ H _ I h) fun us s1 ⟨vs, H1, I1, r1, q1⟩ => ⟨I1.kIn, ?_⟩) he hpl
  exact mkx_call T hr hg I1 r1 q1
theorem pe_mkx0 (T : Xk X.prog X.w X.K X.mg X.base x C none) (hr : Room 2 X.A) (hg : X.A.guards = some []) (hgl : Gl X x) :
    PE X (.Call (.Name x p) [] [] pos) (fun σ H Q => mkxH H C none [] Q) := by
  obtain ⟨b, fI, fd, xc, _⟩ := T.it
  refine ⟨fun pins s σ H Q I h => ?_⟩
  refine wpAny_Call_Name_kw (ld_glob I hgl T.at_ ?_ T.nm)
  exact PySem.W.callWith_K0 I.kIn xc.kC (mkx_call (us := []) T hr hg I .nil h)
theorem ps_rai {g : Str} {W : WX} {rp : Pos} (hc : X.calm = true) (tk : Takes X W) (T : Xk X.prog X.w X.K X.mg X.base x C (some g)) (hr : Room 2 X.A) (hg : X.A.guards = some []) (hgl : Gl X x) (ha : PA X (e :: es) ta) (he : starEach (e :: es) X.env = (false, eval e X.env) :: starEach es X.env) (hpl : (backTo pos (starEach es X.env)).any (·.1) = false) :
    PS X (.Raise (some (.Call (.Name x p) (e :: es) [] pos)) none rp) (fun _ σ H => ta σ H fun vs H1 => ∃ v, vs = [v] ∧ ∀ d, H1 d = none → X.K.lookup d = none → W (.ref C) (some d) σ (upd H1 d (.xd [(g, v)]))) := by
  refine ps_raise (t := fun σ H Q => ta σ H fun vs H1 => ∃ v, vs = [v] ∧ ∀ d, H1 d = none → X.K.lookup d = none → Q (.ref C) (some d) (upd H1 d (.xd [(g, v)]))) hc tk fun pins s σ H Q I h => ?_
  obtain ⟨b, fI, fd, xc, _⟩ := T.it
  refine wpAny_Call_Name_kw (ld_glob I hgl T.at_ ?_ T.nm)
  refine PySem.W.callWith_K (h₀ := X.base) I.ok.mod.kin xc.kC (thn (ha.run pos pins s σ H _ I h) fun us s1 ⟨vs, H1, I1, r1, q1⟩ => ⟨I1.kIn, ?_⟩) he hpl
  obtain ⟨v, rfl, q1⟩ := q1
  exact mkx_raise T hr hg I1 r1 q1
end
end QL
set_option Elab.async false
set_option linter.all false
set_option maxRecDepth 100000
set_option maxHeartbeats 4000000
/-! X4: try: .. except X as e: y = e: the exception is kept as a value. -/
namespace QL
open PySem PySem.Spec L2
open PyProof.Rows hiding St
/-- what an except clause names -/
inductive PXt (X : Cx) : Expr → List Value → Prop
  | one {x : Str} {c : Value} {p : Pos} : Names X x c → PXt X (.Name x p) [c]
  | two {x y : Str} {c d : Value} {p q r : Pos} {k : Nat} : Names X x c → Names X y d → PXt X (.Tuple [.Name x p, .Name y q] k r) [c, d]
  | three {x y z : Str} {c d e : Value} {p q r o : Pos} {k : Nat} : Names X x c → Names X y d → Names X z e → PXt X (.Tuple [.Name x p, .Name y q, .Name z o] k r) [c, d, e]
theorem name_at {X Y : Cx} {pins : List (Addr × Obj)} {σ : St} {H : Hp} {s : Shared} {x : Str} {c : Value} {p : Pos} {Q : Value → Shared → Prop} {E : Value → Shared → Prop} (hc : Names Y x c) (I : Inv Y pins σ H s) (q : Q c s) :
    wpAny (model Y.prog Y.w) Y.A (eval (.Name x p) Y.env) Q E s := by
  obtain ⟨hg, hdbg, hm | ⟨hm, hv, hnn⟩⟩ := hc
  · exact ld_glob I hg hm q hdbg
  · exact ld_blt I hg hm hv q hnn hdbg
theorem test_at {Y : Cx} {pins : List (Addr × Obj)} {σ : St} {H : Hp} {s : Shared} {T : Expr} {cs : List Value} {cls : Value} {a : Addr} {b : Bool} {Q : Bool → Shared → Prop} {E : Value → Shared → Prop} (t : PXt Y T cs) (I : Inv Y pins σ H s)
    (LT : PySem.W.Looks (model Y.prog Y.w) s.heap (typeOf (.ref a)) cls) (hx : PySem.W.exmAny Y.K cls cs = some b) (q : ∀ h', (∀ b o, s.heap.get? b = some o → h'.get? b = some o) → Q b { s with heap := h' }) :
    wpAny (model Y.prog Y.w) Y.A (eval T Y.env) (fun c s1 => wpAny (model Y.prog Y.w) Y.A (excMatches (.ref a) c) Q E s1) E s := by
  cases t with
  | one hc =>
    refine name_at (X := Y) hc I ?_
    obtain ⟨b1, d1, h1, h2, h3⟩ := PySem.W.exmAny_cons hx
    cases h2
    rw [Bool.or_false] at h3
    subst h3
    exact (PySem.W.exm_one I.kIn LT h1).here (q s.heap fun _ _ z => z)
  | @two x y c d p qq r k hc hd =>
    refine wpAny_Tuple ?_
    refine wpAny_items_cons (name_at (X := Y) hc I ?_)
    refine wpAny_items_cons (name_at (X := Y) hd I ?_)
    refine wpAny_items_nil ⟨by size_fits, ?_⟩
    have kp : ∀ q o, s.heap.get? q = some o → (s.heap.push { cls := .type "tuple", data := .seq [c, d].toArray }).get? q = some o := fun _ _ z => Heap.get?_push_of_some _ z
    exact (PySem.W.exm_tup2 (I.kIn.keeps kp) (LT.keeps kp) (Heap.get?_push_size s.heap rfl) hx).here (q _ kp)
  | @three x y z c d e p qq r o k hc hd he =>
    refine wpAny_Tuple ?_
    refine wpAny_items_cons (name_at (X := Y) hc I ?_)
    refine wpAny_items_cons (name_at (X := Y) hd I ?_)
    refine wpAny_items_cons (name_at (X := Y) he I ?_)
    refine wpAny_items_nil ⟨by size_fits, ?_⟩
    have kp : ∀ q o, s.heap.get? q = some o → (s.heap.push { cls := .type "tuple", data := .seq [c, d, e].toArray }).get? q = some o := fun _ _ z => Heap.get?_push_of_some _ z
    exact (PySem.W.exm_tup3 (I.kIn.keeps kp) (LT.keeps kp) (Heap.get?_push_size s.heap rfl) hx).here (q _ kp)
theorem flyZ_keeps {B h h' : Heap} {l : List Env} {e : Addr} {Z : Obj → Prop} (R : HandSPX.FlyingZ B l e Z h) (k : ∀ b o, h.get? b = some o → h'.get? b = some o) : HandSPX.FlyingZ B l e Z h' := by
  obtain ⟨f1, f2, f3, oe, ws, T, oT, ts, he, hc, hd, h1, hn, hne, hT, hdT, h3⟩ := R
  exact ⟨fun b o q => k b o (f1 b o q), f2, f3.of_keeps fun b o q _ => ⟨o, k b o q, rfl⟩, oe, ws, T, oT, ts, k _ _ he, hc, hd, h1, hn, hne, k _ _ hT, hdT, h3⟩
/-- an object that stands untracked, and is new since the entry, is tracked -/
theorem track {X : Cx} {pins : List (Addr × Obj)} {σ : St} {H : Hp} {s : Shared} {a : Addr} {oe : Obj} {vs : Array Value} {o : HO} (I : Inv X pins σ H s) (na : H a = none) (h0 : X.s_0.heap.get? a = none) (ha : s.heap.get? a = some oe) (hd : oe.data = .fields vs)
    (nL : a ≠ X.env.locals) (np : ∀ p ∈ X.pn ++ pins, p.1 ≠ a) (new : ObjOk X.prog X.w (upd H a o) s.heap a o) : Inv X pins σ (upd H a o) s := by
  refine ⟨I.ok, I.os, I.bare, ⟨I.base.keep, I.base.slot, fun b u e n hb => ?_, I.base.there, fun b xs e => ?_, fun b u xs e => ?_, fun b ps e => ?_⟩, I.loc, I.cell, ?_, fun x c e => ?_, fun p hp => ?_, fun b u e => ?_, I.len⟩
  · rw [upd_ne (fun z => by rw [z, h0] at e; cases e)]
    exact I.base.free b u e n hb
  · have q := I.base.tups b xs e
    rw [upd_ne (ne_of_none q na)]
    exact q
  · have q := I.base.frzs b u xs e
    rw [upd_ne (ne_of_none q na)]
    exact q
  · obtain ⟨m, q⟩ := I.base.tbls b ps e
    exact ⟨m, by rw [upd_ne (ne_of_none q na)]; exact q⟩
  · rw [upd_ne (Ne.symm nL)]
    exact I.free
  · have hc : c ≠ a := fun z => by
      obtain ⟨v, oc, ho, hdc⟩ := I.cell x c e
      rw [z, ha] at ho
      cases ho
      rw [hd] at hdc
      cases hdc
    rw [upd_ne hc]
    exact I.freeC x c e
  · obtain ⟨e, n, ne, nf, d⟩ := I.pin p hp
    exact ⟨e, by rw [upd_ne (np p hp)]; exact n, ne, nf, d⟩
  · by_cases hb : b = a
    · subst hb
      rw [upd_same] at e
      cases e
      exact new
    · rw [upd_ne hb] at e
      exact (I.hok b u e).stay (fun c v _ q => q) (fun c q => by rw [upd_ne (ne_of_none q na)]; exact q) fun c xs q => by rw [upd_ne (ne_of_none q na)]; exact q
section
variable {X : Cx} {body : List Stmt} {n y : Str} {i j : Nat} {T : Expr} {cs : List Value} {py pn' pa ph pos : Pos} {tb : WX → TS}
/-- what is wished of an exception of the body -/
def wKeep (K : PySem.W.Frag) (cs : List Value) (i j : Nat) (D : Ends) : WX := fun cls d σ H =>
  ∃ C, cls = .ref C ∧ PySem.W.exmAny K cls cs = some true ∧ ∀ a, H a = none → D.nx ((σ.set j (some (.ref a))).set i none) (upd H a (exV a C d))
theorem ps_trx (hs : X.stack = X.env :: X.outer) (hf : X.env.frame = some X.env.locals) (hex : X.ex = []) (hN : X.N.Nodup) (hi : X.N[i]? = some n) (hln : X.env.kindOf n = some .local) (hj : X.N[j]? = some y) (hly : X.env.scope.names.lookup y = some .local) (hij : i ≠ j)
    (hnd : (n == ("__debug__" : Str)) = false) (hnc : (n == ("__classdict__" : Str)) = false)
    (t : ∀ (a : Addr) (pn : List (Addr × Obj)), PXt (X.suite a pn) T cs)
    (hb : ∀ (W : WX) (pn : List (Addr × Obj)) (xe : Value → Shared → Prop), Takes (X.tr pn xe) W → PassesOwn (model X.prog X.w) X.A X.env xe → PSs (X.tr pn xe) body (tb W)) :
    PS X (.Try body [.ExceptHandler (some T) (some n) [.Assign [.Name y py] (.Name n pn') pa] ph] [] [] pos) (fun D σ H => tb (wKeep X.K cs i j D) D σ H) := by
  refine ⟨fun pins s σ H D I h => ?_⟩
  have ok := I.ok
  have hfr : X.A.frames = some (X.env :: X.outer) := by rw [ok.frames, hs]
  have hloc : Loc X.env.scope n := .inl hln
  refine wpAny_Try_except ?_
  refine wpAny_mono ((hb (wKeep X.K cs i j D) (X.pn ++ pins) (fun e s₁ => wpAny (model X.prog X.w) X.A (noteFrame e X.env) (fun _ s₂ => wpAny (model X.prog X.w) X.A (setFlight e none) (fun _ s₃ =>
    wpAny (model X.prog X.w) X.A (handleBy e X.env [.ExceptHandler (some T) (some n) [.Assign [.Name y py] (.Name n pn') pa] ph]) (SP X pins D) X.xe s₃) X.xe s₂) X.xe s₁) (fun u s' xx => ?_) PassesOwn.looking).run [] s σ H D (I.toTry _) h) (fun f s1 hsp => ?_) (fun e s1 he => he)
  · -- the catch
    obtain ⟨a, B, sI, pins', σ', H', cls, d, rfl, J', nb, up, sky, na, os, ag, C, rfl, hx, hq⟩ := xx
    have J : Inv X pins σ' H' sI := J'.ofTry ok
    have sky' : Sky B (X.env :: X.outer) a (Zc (.ref C) d) X.env.locals s'.heap := by rw [← hs]; exact sky
    show wpAny (model X.prog X.w) X.A (noteFrame (.ref a) X.env) _ _ _
    refine Sky.land Zc.steady hfr hf sky' fun h3 fl3 up3 => ?_
    have J3 : Inv X pins σ' H' { s' with heap := h3 } := J.landed nb fl3.1 (up.trans up3) os ag
    obtain ⟨oe3, vs3, he3, hz3, hd3⟩ := fl3.there
    have notFr : ∀ {h : Heap} {o : Obj} {vs : Array Value}, h.FunFrames B (X.env :: X.outer) → h.get? a = some o → o.data = .fields vs → a ∉ frs (X.env :: X.outer) := fun {h o vs} ff e dd hm => by
      obtain ⟨_, o', e', hnf⟩ := ff.mem hm
      rw [e] at e'; cases e'
      exact hnf _ dd
    have nfr := notFr fl3.2.2.1 he3 hd3
    have nL : a ≠ X.env.locals := fun z => nfr (List.mem_filterMap.mpr ⟨X.env, List.mem_cons_self, by rw [hf, z]⟩)
    have nF : a ∉ X.fs := fun hm => by
      obtain ⟨e, he, q⟩ := List.mem_filterMap.mp hm
      exact nfr (List.mem_filterMap.mpr ⟨e, List.mem_cons_of_mem _ he, q⟩)
    have nI : sI.heap.get? a = none := by
      cases q : sI.heap.get? a with
      | none => rfl
      | some o =>
        have z := nb a o q (by rw [hs]; exact nfr)
        rw [fl3.2.1] at z
        cases z
    have n0 : X.s_0.heap.get? a = none := by
      cases q : X.s_0.heap.get? a with
      | none => rfl
      | some o =>
        obtain ⟨o', z⟩ := J.base.there a o q (by rw [hex]; exact fun z => nomatch z)
        rw [nI] at z
        cases z
    have np : ∀ p ∈ X.pn ++ pins, p.1 ≠ a := fun p hp z => by
      obtain ⟨e, _⟩ := J.pin p hp
      rw [z, nI] at e
      cases e
    have S3 := J3.suite he3 hd3 na nL nF
    refine wpAny_handleBy_cons (codeAny_handlers_test ?_) (by intro q; cases q)
    have LT : PySem.W.Looks (model X.prog X.w) h3 (typeOf (.ref a)) (.ref C) := fun A Q E s k q => wpAny_typeOf_ref (k _ _ he3) (by rw [hz3.1]; exact q)
    refine test_at (Y := X.suite a ((a, oe3) :: (X.pn ++ pins))) (t a _) S3 LT hx fun h3' k3 => ?_
    have fl3' : HandSPX.FlyingZ B (X.env :: X.outer) a (Zc (.ref C) d) h3' := flyZ_keeps fl3 k3
    refine codeAny_handlers_suite_as ?_
    refine HandSPX.lands_againZ fl3' fun h4 fl4 up4 => ?_
    have J4 : Inv X pins σ' H' { s' with heap := h4 } := J.landed nb fl4.1 (((up.trans up3).trans (Heap.UpToSlots.of_keeps k3)).trans up4) os ag
    obtain ⟨oe4, vs4, he4, hz4, hd4⟩ := fl4.there
    have S4 := J4.suite he4 hd4 na nL nF
    refine store_ok (X := X.suite a ((a, oe4) :: (X.pn ++ pins))) (v := .ref a) S4 hN hi hloc rfl (fun s5 S5 => ?_) (.inr hln)
    have hlen : i < σ'.length := by rw [J.len]; exact (List.getElem?_eq_some_iff.mp hi).1
    have su : PSs (X.suite a ((a, oe4) :: (X.pn ++ pins))) [.Assign [.Name y py] (.Name n pn') pa] _ := pss_cons (ps_set (X := X.suite a ((a, oe4) :: (X.pn ++ pins))) hN hj (.inl hly) (pe_var (X := X.suite a ((a, oe4) :: (X.pn ++ pins))) hi (.inl hln) hnd hnc) rfl (.inr hly)) pss_nil
    refine wpAny_mono (su.run [] s5 _ H' { nx := fun σ6 H6 => σ6 = (σ'.set i (some (.ref a))).set j (some (.ref a)) ∧ H6 = H', rt := fun _ _ => False, bk := fun _ _ => False, ct := fun _ _ => False } S5 ⟨_, List.getElem?_set_self hlen, rfl, rfl⟩) (fun f s6 hsp => ?_) (fun _ _ z => False.elim z)
    cases f with
    | next =>
      obtain ⟨σ6, H6, S6, rfl, rfl⟩ := hsp
      obtain ⟨e6, _⟩ := S6.pin (a, oe4) (List.mem_append.mpr (.inl List.mem_cons_self))
      have K6 := S6.unsuite ok
      have K7 := track (o := exV a C d) K6 na n0 e6 hd4 nL np (exV_ok e6 hz4 hd4)
      refine gone_ok K7 hN hi hln fun s7 J7 => ⟨_, _, J7, ?_⟩
      have z := hq a na
      have e : ((σ'.set i (some (V.ref a))).set j (some (V.ref a))).set i none = (σ'.set j (some (V.ref a))).set i none := by
        rw [List.set_comm _ _ hij, List.set_set]
      rw [e]
      exact z
    | brk => obtain ⟨_, _, _, z⟩ := hsp; exact z.elim
    | cont => obtain ⟨_, _, _, z⟩ := hsp; exact z.elim
    | ret u => obtain ⟨_, _, _, _, _, z⟩ := hsp; exact z.elim
  · cases f with
    | next =>
      obtain ⟨σ', H', J', q⟩ := hsp
      exact wpAny_execs_nil ⟨σ', H', J'.ofTry ok, q⟩
    | brk =>
      obtain ⟨σ', H', J', q⟩ := hsp
      exact ⟨σ', H', J'.ofTry ok, q⟩
    | cont =>
      obtain ⟨σ', H', J', q⟩ := hsp
      exact ⟨σ', H', J'.ofTry ok, q⟩
    | ret u =>
      obtain ⟨v, σ', H', J', r, q⟩ := hsp
      exact ⟨v, σ', H', J'.ofTry ok, r, q⟩
end
/-! ### list.count of flat things -/
theorem countU_of {x : V} : ∀ {xs : List V} {us : List Value}, Vals xs us → xs.all flatV = true → us.countP (eqU x) = xs.countP fun y => eqV y x
  | _, _, .nil, _ => rfl
  | y :: xs, u :: us, .cons r t, f => by
    rw [List.all_cons, Bool.and_eq_true] at f
    rw [List.countP_cons, List.countP_cons, eqU_of r f.1, countU_of t f.2]
theorem mt_count {X : Cx} : MtR X "list.count" (fun x xs H Q => ∃ (p : Addr) (ys : List V) (k : V), x = .ref p ∧ xs = [k] ∧ SqL X.K H p ys ∧ flatV k = true ∧ ys.all flatV = true ∧ Q (.int (ys.countP (fun y => eqV y k) : Nat)) H) := by
  intro pins s σ H x xs v us Q I rx rxs h
  obtain ⟨p, ys, k, rfl, rfl, hs, fk, fs, q⟩ := h
  cases rx
  obtain ⟨u, rfl, ru⟩ := rxs.one
  obtain ⟨its, rv, ⟨⟨cls, dd, data, sl⟩, n, ho, hc, hdn, hd⟩, hlen⟩ := I.list hs
  simp only at hc hd
  subst hc hd
  refine call_meets PySem.F.slot_list_count ⟨_, ho, rfl⟩ PySem.F.entry_list_count (PySem.F.args_list_count_2 _ _)
    (SeqAt.list_countAt p its.toArray n dd sl u (eqU k)) ⟨ho, fun y hy => mem_eqAt ru fk rv fs y (by simpa using hy), ?_⟩
  have ec : its.toArray.toList.countP (eqU k) = ys.countP (fun y => eqV y k) := countU_of rv fs
  refine ⟨.int (ys.countP (fun y => eqV y k) : Nat), H, I.tok _, ⟨s.toks, ?_⟩, q⟩
  show Value.int ((its.toArray.toList.countP (eqU k) : Nat) : Int) s.toks = Value.int ((ys.countP (fun y => eqV y k) : Nat) : Int) s.toks
  rw [ec]
end QL
set_option Elab.async false
set_option linter.all false
set_option maxRecDepth 100000
set_option maxHeartbeats 4000000
/-! Q4: a small language of expressions, what its terms ask (wE), and how Python's expressions are turned into it (cE). -/
namespace QL
open PySem PySem.Spec L2
open PyProof.Rows hiding St
/-- built-in classes that isinstance asks for -/
inductive Bt where
  | int | bool | str | list | tuple
  deriving DecidableEq
def btN : Bt → Str
  | .int => "int" | .bool => "bool" | .str => "str" | .list => "list" | .tuple => "tuple"
def btS : Bt → String
  | .int => "int" | .bool => "bool" | .str => "str" | .list => "list" | .tuple => "tuple"
/-- methods of built-in types -/
inductive Bm where
  | count | append | insert | remove | extend | dpop1 | dpop2 | dget1 | dget2
  deriving DecidableEq
/-- targets -/
inductive Tg where
  | nm (i : Nat)
  | tp (is : List Nat)
mutual
inductive Ex where
  | var (i : Nat)
  | lit (v : V)
  | cst (x : Str)
  | op (o : Operator) (a b : Ex)
  | neg (a : Ex)
  | cmp (o : CmpOp) (a b : Ex)
  | chn (o o' : CmpOp) (a b c : Ex)
  | and (a b : Ex)
  | or (a b : Ex)
  | not (a : Ex)
  | ite (t : Te) (a b : Ex)
  | fld (o : Ex) (f : Str)
  | idx (o i : Ex)
  | slc (o : Ex) (lo hi : Ox)
  | lst (es : Exs)
  | tup (es : Exs)
  | fn (f : Str) (es : Exs)
  | bi (b : Bi) (es : Exs)
  | isi (e : Ex) (T : Bt)
  | isx (e : Ex) (c : Str)
  | mkx (c : Str) (es : Exs)
  | dct0
  | met (o : Ex) (m : Str) (es : Exs)
  | bm (m : Bm) (o : Ex) (es : Exs)
  | mkC (c : Str) (ks : List Str) (es : Exs)
  | lc (t : Tg) (s : Sr) (c : Te) (e : Ex) (vs : List Nat)
  | lc2 (t : Tg) (s : Sr) (c : Te) (t1 : Tg) (s1 : Sr) (c1 : Te) (e : Ex) (vs vs1 : List Nat)
  | nev
  | dsp (ps : Prs)
  | dc (t : Tg) (s : Sr) (c : Te) (k v : Ex) (vs : List Nat)
  | isi2 (e : Ex) (T U : Bt)
  | lrg (lo hi : Ex)
  | gin (neg : Bool) (x : Str) (e : Ex)
  | gix (x : Str) (e : Ex)
inductive Prs where
  | nil
  | cons (k v : Ex) (r : Prs)
inductive Sr where
  | rng (lo hi : Ex)
  | val (e : Ex)
  | enm (e : Ex)
  | zip (a b : Ex)
  | zst (a b : Ex)
inductive Exs where
  | nil
  | cons (e : Ex) (es : Exs)
inductive Ox where
  | none
  | some (e : Ex)
inductive Te where
  | val (e : Ex)
  | cmp (o : CmpOp) (a b : Ex)
  | chn (o o' : CmpOp) (a b c : Ex)
  | and (a b : Te)
  | or (a b : Te)
  | not (a : Te)
  | yes
  | gin (neg : Bool) (x : Str) (e : Ex)
end
/-- what stands written behind the top: constants, written objects, fields of the own classes -/
structure Stat where
  gv : Str → Option V
  so : Addr → Option HO
  fl : Addr → Str → Prop
  /-- own exception classes: where, and the field -/
  xc : Str → Option (Addr × Option Str)
  /-- whether the class at an address lies under a named one -/
  isa : Addr → Str → Option Bool
  /-- the same for own classes that are no exceptions -/
  iso : Addr → Str → Option Bool
  /-- no built-in type lies under the named class -/
  isb : Str → Bool
  /-- a field of an exception -/
  xf : Addr → Str → Prop
  /-- the def of an own class's method -/
  mt : Addr → Str → Option Str
  /-- C(..), so many values and these keywords: the class, the def, for each parameter the place of its value, or the default -/
  mkc : Str → Nat → List Str → Option (Addr × Str × List (Nat ⊕ V))
  /-- a written dict by its name -/
  gd : Str → Option (List (Str × V))
/-- what the defs do -/
structure Sm where
  fn : Str → Sp
def boolV (Q : Bool → Hp → Prop) : VK := fun z H => match z with
  | .bl k => Q k H
  | _ => False
def tBl : Bt → Bool
  | .bool => true | .int => true | .str => false | .list => false | .tuple => false
def tInt : Bt → Bool
  | .bool => false | .int => true | .str => false | .list => false | .tuple => false
def tStr : Bt → Bool
  | .bool => false | .int => false | .str => true | .list => false | .tuple => false
def tList : Bt → Bool
  | .bool => false | .int => false | .str => false | .list => true | .tuple => false
def tTuple : Bt → Bool
  | .bool => false | .int => false | .str => false | .list => false | .tuple => true
/-- the kind of a value -/
def btV (so : Addr → Option HO) (H : Hp) (T : Bt) : V → Option Bool
  | .non => some false
  | .bl _ => some (tBl T)
  | .int _ => some (tInt T)
  | .str _ => some (tStr T)
  | .ref p => (match rd so H p with
    | some (.lst _) => some (tList T)
    | some (.tup _) => some (tTuple T)
    | some (.dK _) => (match H p with
      | some (.dK _) => some false
      | _ => none)
    | _ => none)
  | _ => none
def fldV (S : Stat) (f : Str) : V → Hp → VK → Prop := fun x H Q => match x with
  | .ref p => (match H p with
    | some (.ins C _ fs) => S.fl C f ∧ (match fs.lookup f with
      | some v => Q v H
      | none => False)
    | some (.ext _) => ∃ C fs v, Xat H p C fs ∧ S.xf C f ∧ fs.lookup f = some v ∧ Q v H
    | _ => False)
  | _ => False
/-- isinstance of a class by its name -/
def isxK (S : Stat) (c : Str) (x : V) (H : Hp) (B : Bool → Prop) : Prop := match x with
  | .ref p => (match H p with
    | some (.ext _) => ∃ C fs b, Xat H p C fs ∧ S.isa C c = some b ∧ B b
    | some (.ins C _ _) => ∃ b, S.iso C c = some b ∧ B b
    | some (.dK _) => S.isb c = true ∧ B false
    | _ => (match rd S.so H p with
      | some (.lst _) => S.isb c = true ∧ B false
      | some (.tup _) => S.isb c = true ∧ B false
      | _ => False))
  | .non => S.isb c = true ∧ B false
  | .bl _ => S.isb c = true ∧ B false
  | .int _ => S.isb c = true ∧ B false
  | .str _ => S.isb c = true ∧ B false
  | _ => False
/-- an own exception made -/
def mkxV (S : Stat) (c : Str) (vs : List V) (H : Hp) (Q : VK) : Prop := match S.xc c with
  | some (C, some g) => (match vs with
    | [v] => ∀ a d, H a = none → H d = none → d ≠ a → S.so a = none → S.so d = none → Q (.ref a) (upd (upd H d (.xd [(g, v)])) a (exV a C (some d)))
    | _ => False)
  | some (C, none) => vs = [] ∧ ∀ a, H a = none → S.so a = none → Q (.ref a) (upd H a (exV a C none))
  | none => False
/-- an own exception raised -/
def raiV (S : Stat) (c : Str) (vs : List V) (H : Hp) (B : XK) : Prop := match S.xc c with
  | some (C, some g) => (match vs with
    | [v] => ∀ d, H d = none → S.so d = none → B (.ref C) (some d) (upd H d (.xd [(g, v)]))
    | _ => False)
  | _ => False
/-- a method's def -/
def metK (S : Stat) (m : Str) (x : V) (H : Hp) (B : Str → Prop) : Prop := match x with
  | .ref p => (match H p with
    | some (.ins C _ fs) => fs.lookup m = none ∧ (match S.mt C m with
      | some g => B g
      | none => False)
    | _ => False)
  | _ => False
/-- the values of the parameters -/
def pmV (pm : List (Nat ⊕ V)) (vs : List V) : Option (List V) := pm.mapM fun p => match p with
  | .inl i => vs[i]?
  | .inr v => some v
def mkK (S : Stat) (F : Sm) (c : Str) (ks : List Str) (vs : List V) (H : Hp) (Q : VK) (E : XK) : Prop := match S.mkc c vs.length ks with
  | some (C, g, pm) => (match pmV pm vs with
    | some ws => ∀ x dx, H x = none → H dx = none → dx ≠ x → S.so x = none → S.so dx = none → F.fn g (.ref x :: ws) (upd (upd H dx (.own x)) x (.ins C dx [])) (fun v H2 => v = .non ∧ Q (.ref x) H2) E
    | none => False)
  | none => False
/-- methods of lists -/
def bmTy : Bm → String
  | .count => "list" | .append => "list" | .insert => "list" | .remove => "list" | .extend => "list" | .dpop1 => "dict" | .dpop2 => "dict" | .dget1 => "dict" | .dget2 => "dict"
def bmN : Bm → Str
  | .count => "count" | .append => "append" | .insert => "insert" | .remove => "remove" | .extend => "extend" | .dpop1 => "pop" | .dpop2 => "pop" | .dget1 => "get" | .dget2 => "get"
def bmD : Bm → Bool
  | .dpop1 => true | .dpop2 => true | .dget1 => true | .dget2 => true | _ => false
def bmTyK (S : Stat) (m : Bm) (x : V) (H : Hp) : Prop := match bmD m with
  | true => (match x with
    | .ref p => (match H p with
      | some (.dK _) => True
      | _ => False)
    | _ => False)
  | false => (match x with
    | .ref p => (match rd S.so H p with
      | some (.lst _) => True
      | _ => False)
    | _ => False)
def mCount (S : Stat) (x : V) (vs : List V) (H : Hp) (Q : VK) : Prop := match x, vs with
  | .ref p, [k] => (match rd S.so H p with
    | some (.lst ys) => flatV k = true ∧ ys.all flatV = true ∧ Q (.int (ys.countP (fun y => eqV y k) : Nat)) H
    | _ => False)
  | _, _ => False
def mAppend (x : V) (vs : List V) (H : Hp) (Q : VK) : Prop := match x, vs with
  | .ref p, [v] => (match H p with
    | some (.lst ys) => ys.length < sizeLine ∧ Q .non (upd H p (.lst (ys ++ [v])))
    | _ => False)
  | _, _ => False
def mInsert (x : V) (vs : List V) (H : Hp) (Q : VK) : Prop := match x, vs with
  | .ref p, [.int i, v] => (match H p with
    | some (.lst ys) => i = 0 ∧ ys.length < sizeLine ∧ Q .non (upd H p (.lst (v :: ys)))
    | _ => False)
  | _, _ => False
def mRemove (x : V) (vs : List V) (H : Hp) (Q : VK) : Prop := match x, vs with
  | .ref p, [.int k] => ∃ (ns : List Int) (j : Nat), H p = some (.lst (ns.map V.int)) ∧ ns[j]? = some k ∧ (∀ m : Nat, m < j → ns[m]? ≠ some k) ∧ Q .non (upd H p (.lst ((ns.eraseIdx j).map V.int)))
  | _, _ => False
def mExtend (x : V) (vs : List V) (H : Hp) (Q : VK) : Prop := match x, vs with
  | .ref p, [.ref q] => ∃ xs zs, H p = some (.lst xs) ∧ H q = some (.lst zs) ∧ xs.length + zs.length ≤ sizeLine ∧ Q .non (upd H p (.lst (xs ++ zs)))
  | _, _ => False
def mDPop1 (x : V) (vs : List V) (H : Hp) (Q : VK) : Prop := match x, vs with
  | .ref p, [y] => ∃ kvs k v, H p = some (.dK kvs) ∧ y = kV k ∧ valV kvs k = some v ∧ Q v (upd H p (.dK (dropK kvs k)))
  | _, _ => False
def mDPop2 (x : V) (vs : List V) (H : Hp) (Q : VK) : Prop := match x, vs with
  | .ref p, [y, z] => ∃ kvs k, H p = some (.dK kvs) ∧ y = kV k ∧ (match valV kvs k with
    | some v => Q v (upd H p (.dK (dropK kvs k)))
    | none => Q z H)
  | _, _ => False
def mDGet1 (x : V) (vs : List V) (H : Hp) (Q : VK) : Prop := match x, vs with
  | .ref p, [y] => ∃ kvs k, H p = some (.dK kvs) ∧ y = kV k ∧ Q ((valV kvs k).getD .non) H
  | _, _ => False
def mDGet2 (x : V) (vs : List V) (H : Hp) (Q : VK) : Prop := match x, vs with
  | .ref p, [y, z] => ∃ kvs k, H p = some (.dK kvs) ∧ y = kV k ∧ Q ((valV kvs k).getD z) H
  | _, _ => False
def bmV (S : Stat) : Bm → V → List V → Hp → VK → Prop
  | .count => mCount S
  | .append => mAppend
  | .insert => mInsert
  | .remove => mRemove
  | .extend => mExtend
  | .dpop1 => mDPop1
  | .dpop2 => mDPop2
  | .dget1 => mDGet1
  | .dget2 => mDGet2
/-- isinstance of one of two built-in classes -/
def bt2K (so : Addr → Option HO) (T U : Bt) (x : V) (H : Hp) (B : Bool → Prop) : Prop := match btV so H T x, btV so H U x with
  | some a, some b => B (a || b)
  | _, _ => False
/-- x in a written dict -/
def gdK (o : Option (List (Str × V))) (x : V) (B : Option V → Prop) : Prop := match o, x with
  | some l, .str z => B (l.lookup z)
  | _, _ => False
def varK (o : Option (Option V)) (B : V → Prop) : Prop := match o with
  | some (some v) => B v
  | _ => False
def cstK (o : Option V) (B : V → Prop) : Prop := match o with
  | some v => B v
  | none => False
def truK (so : Addr → Option HO) (x : V) (H : Hp) (B : Bool → Prop) : Prop := match truV so H x with
  | some k => B k
  | none => False
def btK (so : Addr → Option HO) (T : Bt) (x : V) (H : Hp) (B : Bool → Prop) : Prop := match btV so H T x with
  | some k => B k
  | none => False
def intK (x : V) (B : Int → Prop) : Prop := match x with
  | .int i => B i
  | _ => False
def setL : List Nat → List V → St → Option St
  | [], [], σ => some σ
  | i :: is, v :: vs, σ => setL is vs (σ.set i (some v))
  | _, _, _ => none
def parK (o : Option St) (B : St → Prop) : Prop := match o with
  | some σ => B σ
  | none => False
/-- what a target takes -/
def gT (so : Addr → Option HO) : Tg → TG
  | .nm i => gName i
  | .tp is => fun v σ H Q => match v with
    | .ref p => (match rd so H p with
      | some (.tup xs) => parK (setL is xs σ) fun σ' => Q σ' H
      | _ => False)
    | _ => False
/-- no exception is let out -/
def never : WX := fun _ _ _ _ => False
/-- what a source yields: a value, or values in a new tuple -/
inductive Itm where
  | v (x : V)
  | p (xs : List V)
def ylK (so : Addr → Option HO) (t : Itm) (H : Hp) (B : V → Hp → Prop) : Prop := match t with
  | .v x => B x H
  | .p xs => ∀ T, H T = none → so T = none → B (.ref T) (upd H T (.tup xs))
/-- the items of a list or tuple, now and later -/
def seqK (so : Addr → Option HO) (x : V) (H : Hp) (B : List V → (Hp → List V → Prop) → Prop) : Prop := match x with
  | .ref a => (match rd so H a with
    | some (.lst xs) => B xs (fun H' ys => rd so H' a = some (.lst ys))
    | some (.tup xs) => B xs (fun H' ys => rd so H' a = some (.tup ys))
    | _ => False)
  | _ => False
/-- the items of a list, now and later -/
def lsqK (so : Addr → Option HO) (x : V) (H : Hp) (B : List V → (Hp → List V → Prop) → Prop) : Prop := match x with
  | .ref a => (match rd so H a with
    | some (.lst xs) => B xs (fun H' ys => rd so H' a = some (.lst ys))
    | _ => False)
  | _ => False
/-- what is walked has n items now -/
def nowK (cur : Hp → List Itm → Prop) (n : Nat) (H : Hp) : Prop := ∃ its, cur H its ∧ its.length = n
/-- .., and this is the one at i -/
def atK (cur : Hp → List Itm → Prop) (n i : Nat) (H : Hp) (B : Itm → Prop) : Prop := ∃ its it, cur H its ∧ its.length = n ∧ its[i]? = some it ∧ B it
def enumI (i : Nat) : List V → List Itm
  | [] => []
  | x :: r => .p [.int (i : Nat), x] :: enumI (i + 1) r
def zipI : List V → List V → List Itm
  | x :: r, y :: q => .p [x, y] :: zipI r q
  | _, _ => []
/-- a text's signs -/
def chs (z : Str) : List V := z.cps.toList.map fun c => V.str ⟨#[c]⟩
/-- a list, and a text of as many signs -/
def zstK (so : Addr → Option HO) (x y : V) (H : Hp) (B : Addr → Str → Nat → Prop) : Prop := match x, y with
  | .ref a, .str z => (match rd so H a with
    | some (.lst us) => us.length = z.cps.size ∧ asciiB z = true ∧ B a z us.length
    | _ => False)
  | _, _ => False
/-- the turns of a list comprehension, the new list at D -/
def lcL (so : Addr → Option HO) (cur : Hp → List Itm → Prop) (n : Nat) (g : TG) (tt : TT) (te : TE) (D : Addr) (σ : St) : Nat → Hp → (Hp → Prop) → Prop
  | 0, H, R => nowK cur n H ∧ R H
  | m + 1, H, R => atK cur n (n - (m + 1)) H fun x => ylK so x H fun v H1 => g v σ H1 fun σ2 H2 => tt σ2 H2 fun b H3 => if b = true then te σ2 H3 fun y H4 => ∃ acc, H4 D = some (.lst acc) ∧ acc.length < sizeLine ∧ lcL so cur n g tt te D σ m (upd H4 D (.lst (acc ++ [y]))) R else lcL so cur n g tt te D σ m H3 R
/-- the turns of an outer clause -/
def lcG (so : Addr → Option HO) (cur : Hp → List Itm → Prop) (n : Nat) (g : TG) (tt : TT) (body : St → Hp → (Hp → Prop) → Prop) (σ : St) : Nat → Hp → (Hp → Prop) → Prop
  | 0, H, R => nowK cur n H ∧ R H
  | m + 1, H, R => atK cur n (n - (m + 1)) H fun x => ylK so x H fun v H1 => g v σ H1 fun σ2 H2 => tt σ2 H2 fun b H3 => if b = true then body σ2 H3 (fun H4 => lcG so cur n g tt body σ m H4 R) else lcG so cur n g tt body σ m H3 R
/-- the turns of a dict comprehension, the new dict at D -/
def dcL (so : Addr → Option HO) (cur : Hp → List Itm → Prop) (n : Nat) (g : TG) (tt : TT) (tk tv : TE) (D : Addr) (σ : St) : Nat → Hp → (Hp → Prop) → Prop
  | 0, H, R => nowK cur n H ∧ R H
  | m + 1, H, R => atK cur n (n - (m + 1)) H fun x => ylK so x H fun v H1 => g v σ H1 fun σ2 H2 => tt σ2 H2 fun b H3 => if b = true then tk σ2 H3 fun y H4 => tv σ2 H4 fun z H5 => ∃ kvs k, y = kV k ∧ H5 D = some (.dK kvs) ∧ kvs.length < sizeLine ∧ dcL so cur n g tt tk tv D σ m (upd H5 D (.dK (putK kvs k z))) R else dcL so cur n g tt tk tv D σ m H3 R
section
variable (S : Stat) (F : Sm)
mutual
def wE (W : WX) : Ex → TE
  | .var i => fun σ H Q => varK σ[i]? fun v => Q v H
  | .lit v => fun _ H Q => Q v H
  | .cst x => fun _ H Q => cstK (S.gv x) fun v => Q v H
  | .op o a b => fun σ H Q => wE W a σ H fun x H1 => wE W b σ H1 fun y H2 => opV S.so o x y H2 Q
  | .neg a => fun σ H Q => wE W a σ H fun x H1 => intK x fun i => Q (.int (-i)) H1
  | .cmp o a b => fun σ H Q => wE W a σ H fun x H1 => wE W b σ H1 fun y H2 => cmpV S.so o x y H2 Q
  | .chn o o' a b c => fun σ H Q => wE W a σ H fun x H1 => wE W b σ H1 fun y H2 => cmpV S.so o x y H2 (boolV fun k H3 => if k = true then wE W c σ H3 fun z H4 => cmpV S.so o' y z H4 Q else Q (.bl false) H3)
  | .and a b => fun σ H Q => wE W a σ H fun x H1 => truK S.so x H1 fun k => if k = true then wE W b σ H1 Q else Q x H1
  | .or a b => fun σ H Q => wE W a σ H fun x H1 => truK S.so x H1 fun k => if k = true then Q x H1 else wE W b σ H1 Q
  | .not a => fun σ H Q => wE W a σ H fun x H1 => truK S.so x H1 fun k => Q (.bl (!k)) H1
  | .ite t a b => fun σ H Q => wT W t σ H fun k H1 => if k = true then wE W a σ H1 Q else wE W b σ H1 Q
  | .fld o f => fun σ H Q => wE W o σ H fun x H1 => fldV S f x H1 Q
  | .idx o i => fun σ H Q => wE W o σ H fun x H1 => wE W i σ H1 fun y H2 => idxV S.so x y H2 Q
  | .slc o lo hi => fun σ H Q => wE W o σ H fun x H1 => wO W lo σ H1 fun a H2 => wO W hi σ H2 fun b H3 => slcV S.so x a b H3 Q
  | .lst es => fun σ H Q => wA W es σ H fun xs H1 => xs.length ≤ sizeLine ∧ ∀ p, H1 p = none → S.so p = none → Q (.ref p) (upd H1 p (.lst xs))
  | .tup es => fun σ H Q => wA W es σ H fun xs H1 => xs.length ≤ sizeLine ∧ ∀ p, H1 p = none → S.so p = none → Q (.ref p) (upd H1 p (.tup xs))
  | .fn f es => fun σ H Q => wA W es σ H fun vs H1 => F.fn f vs H1 Q (fun c d H' => W c d σ H')
  | .bi b es => fun σ H Q => wA W es σ H fun vs H1 => biV S.so b vs H1 Q
  | .isi e T => fun σ H Q => wE W e σ H fun x H1 => btK S.so T x H1 fun k => Q (.bl k) H1
  | .isx e c => fun σ H Q => wE W e σ H fun x H1 => isxK S c x H1 fun k => Q (.bl k) H1
  | .mkx c es => fun σ H Q => wA W es σ H fun vs H1 => mkxV S c vs H1 Q
  | .dct0 => fun _ H Q => ∀ p, H p = none → S.so p = none → Q (.ref p) (upd H p (.dK []))
  | .met o m es => fun σ H Q => wE W o σ H fun x H1 => metK S m x H1 fun g => wA W es σ H1 fun vs H2 => F.fn g (x :: vs) H2 Q (fun c d H' => W c d σ H')
  | .bm m o es => fun σ H Q => wE W o σ H fun x H1 => bmTyK S m x H1 ∧ wA W es σ H1 fun vs H2 => bmV S m x vs H2 Q
  | .mkC c ks es => fun σ H Q => wA W es σ H fun vs H1 => mkK S F c ks vs H1 Q (fun c d H' => W c d σ H')
  | .lc t s c e vs => fun σ H Q => wI W s σ H fun n cur H1 => ∀ D, H1 D = none → S.so D = none → lcL S.so cur n (gT S.so t) (wT never c) (wE never e) D (wipe σ vs) n (upd H1 D (.lst [])) fun H' => Q (.ref D) H'
  | .lc2 t s c t1 s1 c1 e vs vs1 => fun σ H Q => wI W s σ H fun n cur H1 => ∀ D, H1 D = none → S.so D = none → lcG S.so cur n (gT S.so t) (wT never c) (fun σ2 H3 R => wI never s1 σ2 H3 fun n1 cur1 H4 => lcL S.so cur1 n1 (gT S.so t1) (wT never c1) (wE never e) D (wipe σ2 vs1) n1 H4 R) (wipe σ vs) n (upd H1 D (.lst [])) fun H' => Q (.ref D) H'
  | .nev => fun _ _ _ => False
  | .dsp ps => fun σ H Q => ∀ p, H p = none → S.so p = none → wP W ps σ (upd H p (.dK [])) fun qs H2 => H2 p = some (.dK []) ∧ ∃ kvs : List (Key × V), qs = kvs.map (fun kv => (kV kv.1, kv.2)) ∧ kvs.length ≤ 15 ∧ Q (.ref p) (upd H2 p (.dK (mergeK [] kvs)))
  | .dc t s c k v vs => fun σ H Q => wI W s σ H fun n cur H1 => ∀ D, H1 D = none → S.so D = none → dcL S.so cur n (gT S.so t) (wT never c) (wE never k) (wE never v) D (wipe σ vs) n (upd H1 D (.dK [])) fun H' => Q (.ref D) H'
  | .isi2 e T U => fun σ H Q => wE W e σ H fun x H1 => ∀ p, H1 p = none → S.so p = none → bt2K S.so T U x (upd H1 p (.tup [.ty (btS T), .ty (btS U)])) fun k => Q (.bl k) (upd H1 p (.tup [.ty (btS T), .ty (btS U)]))
  | .lrg lo hi => fun σ H Q => wE W lo σ H fun x H1 => wE W hi σ H1 fun y H2 => intK x fun l => intK y fun h => RgOk l h ∧ ∀ p, H2 p = none → S.so p = none → Q (.ref p) (upd H2 p (.lst (rgV l h)))
  | .gin neg x e => fun σ H Q => wE W e σ H fun y H1 => gdK (S.gd x) y fun o => Q (.bl (o.isSome != neg)) H1
  | .gix x e => fun σ H Q => wE W e σ H fun y H1 => gdK (S.gd x) y fun o => match o with
    | some v => Q v H1
    | none => False
def wP (W : WX) : Prs → St → Hp → (List (V × V) → Hp → Prop) → Prop
  | .nil => fun _ H Q => Q [] H
  | .cons k v r => fun σ H Q => wE W k σ H fun x H1 => wE W v σ H1 fun y H2 => wP W r σ H2 fun ps H3 => Q ((x, y) :: ps) H3
def wI (W : WX) : Sr → St → Hp → (Nat → (Hp → List Itm → Prop) → Hp → Prop) → Prop
  | .rng lo hi => fun σ H B => wE W lo σ H fun x H1 => wE W hi σ H1 fun y H2 => intK x fun l => intK y fun h => B (h - l).toNat (fun _ its => its = (List.range (h - l).toNat).map fun i => .v (.int (l + (i : Nat)))) H2
  | .val e => fun σ H B => wE W e σ H fun x H1 => seqK S.so x H1 fun xs cur => B xs.length (fun H' its => ∃ ys, cur H' ys ∧ its = ys.map .v) H1
  | .enm e => fun σ H B => wE W e σ H fun x H1 => lsqK S.so x H1 fun xs cur => B xs.length (fun H' its => ∃ ys, cur H' ys ∧ its = enumI 0 ys) H1
  | .zip a b => fun σ H B => wE W a σ H fun x H1 => wE W b σ H1 fun y H2 => lsqK S.so x H2 fun xs cur => lsqK S.so y H2 fun ys cur' => B (min xs.length ys.length) (fun H' its => ∃ us vs, cur H' us ∧ cur' H' vs ∧ its = zipI us vs) H2
  | .zst a b => fun σ H B => wE W a σ H fun x H1 => wE W b σ H1 fun y H2 => zstK S.so x y H2 fun a z n => B n (fun H' its => ∃ us, rd S.so H' a = some (.lst us) ∧ us.length = z.cps.size ∧ its = zipI us (chs z)) H2
def wA (W : WX) : Exs → TA
  | .nil => fun _ H Q => Q [] H
  | .cons e es => fun σ H Q => wE W e σ H fun x H1 => wA W es σ H1 fun xs H2 => Q (x :: xs) H2
def wO (W : WX) : Ox → St → Hp → (Option Int → Hp → Prop) → Prop
  | .none => fun _ H Q => Q none H
  | .some e => fun σ H Q => wE W e σ H fun x H1 => intK x fun i => Q (some i) H1
def wT (W : WX) : Te → TT
  | .val e => fun σ H Q => wE W e σ H fun x H1 => truK S.so x H1 fun k => Q k H1
  | .cmp o a b => fun σ H Q => wE W a σ H fun x H1 => wE W b σ H1 fun y H2 => cmpV S.so o x y H2 (boolV Q)
  | .chn o o' a b c => fun σ H Q => wE W a σ H fun x H1 => wE W b σ H1 fun y H2 => cmpV S.so o x y H2 (boolV fun k H3 => if k = true then wE W c σ H3 fun z H4 => cmpV S.so o' y z H4 (boolV Q) else Q false H3)
  | .and a b => fun σ H Q => wT W a σ H fun k H1 => if k = true then wT W b σ H1 Q else Q false H1
  | .or a b => fun σ H Q => wT W a σ H fun k H1 => if k = true then Q true H1 else wT W b σ H1 Q
  | .not a => fun σ H Q => wT W a σ H fun k H1 => Q (!k) H1
  | .yes => fun _ H Q => Q true H
  | .gin neg x e => fun σ H Q => wE W e σ H fun y H1 => gdK (S.gd x) y fun o => Q (o.isSome != neg) H1
end
end
/-! ### turning Python's expressions -/
inductive Gk where
  | fn | cst | bi (b : Bi) | isi | xcl | ocl | bxc | dct | dead | no
  deriving DecidableEq
structure CI where
  N : List Str
  sc : Scope
  gl : Str → Gk
def okN (x : Str) : Bool := !(x == ("__debug__" : Str)) && !(x == ("__classdict__" : Str))
def slotOf (C : CI) (x : Str) : Option Nat := match C.sc.names.lookup x with
  | some .local => C.N.idxOf? x
  | some .cell => C.N.idxOf? x
  | some .free => C.N.idxOf? x
  | _ => none
def isG (C : CI) (x : Str) : Bool := match C.sc.names.lookup x with
  | some .globalImplicit => true
  | _ => false
def nCE : (Expr → Option Ex) → List Expr → Option Exs
  | _, [] => some .nil
  | f, e :: es => match f e, nCE f es with
    | some a, some b => some (.cons a b)
    | _, _ => none
/-- x.f: x is not a bare call (super()) -/
def plainBase : Expr → Bool
  | .Call (.Name _ _) [] [] _ => false
  | _ => true
def notSlice : Expr → Bool
  | .Slice _ _ _ _ => false
  | _ => true
def plainTest : Expr → Bool
  | .UnaryOp .Not _ _ => false
  | .BoolOp _ _ _ => false
  | .IfExp _ _ _ _ => false
  | .Compare _ _ _ _ => false
  | _ => true
def two {α β γ : Type} (x : Option α) (y : Option β) (f : α → β → γ) : Option γ := match x, y with
  | some a, some b => some (f a b)
  | _, _ => none
def tri {α β γ δ : Type} (x : Option α) (y : Option β) (z : Option γ) (f : α → β → γ → δ) : Option δ := match x, y, z with
  | some a, some b, some c => some (f a b c)
  | _, _, _ => none
def iff' {α : Type} (b : Bool) (x : Option α) : Option α := match b with
  | true => x
  | false => none
def behindOk (o : CmpOp) (e : Expr) : Bool := !behindInMarks o e
def cName (C : CI) (x : Str) : Option Ex := iff' (okN x) (match slotOf C x with
  | some i => some (.var i)
  | none => iff' (isG C x && C.gl x == .cst) (some (.cst x)))
def btBi : Bi → Option Bt
  | .int => some .int
  | .bool => some .bool
  | .str => some .str
  | .list => some .list
  | .tuple => some .tuple
  | _ => none
/-- a built-in class by its name -/
def btOf (C : CI) : Expr → Option Bt
  | .Name T _ => iff' (isG C T) (match C.gl T with
    | .bi b => btBi b
    | _ => none)
  | _ => none
def cIsi (C : CI) (f : Expr → Option Ex) (a : Expr) (as : List Expr) : Option Ex := match as with
  | [.Tuple [t, u] _ _] => tri (f a) (btOf C t) (btOf C u) .isi2
  | [.Name T _] => iff' (isG C T) (match C.gl T with
    | .bi b => (btBi b).bind fun T => (f a).map (.isi · T)
    | .xcl => (f a).map (.isx · T)
    | .bxc => (f a).map (.isx · T)
    | .ocl => (f a).map (.isx · T)
    | _ => none)
  | _ => none
def kwOf (k : Keyword) : Option (Str × Expr) := k.arg.map fun a => (a, k.value)
def kwsOf : List Keyword → Option (List (Str × Expr))
  | [] => some []
  | k :: r => two (kwOf k) (kwsOf r) fun a b => a :: b
def cMkC (C : CI) (f : Expr → Option Ex) (x : Str) (as : List Expr) (ks : List (Str × Expr)) : Option Ex := match C.gl x with
  | .ocl => (nCE f (as ++ ks.map (·.2))).map (.mkC x (ks.map (·.1)))
  | _ => none
def locOf (C : CI) (x : Str) : Option Nat := match C.sc.names.lookup x with
  | some .local => C.N.idxOf? x
  | some .cell => C.N.idxOf? x
  | _ => none
def loc1 (C : CI) (x : Str) : Option Nat := match C.sc.names.lookup x with
  | some .local => C.N.idxOf? x
  | _ => none
def nmOf : Expr → Option (Str × Pos)
  | .Name x p => some (x, p)
  | _ => none
def nms : List Expr → Option (List (Str × Pos))
  | [] => some []
  | e :: es => two (nmOf e) (nms es) (fun a b => a :: b)
def tupOf : Expr → Option (List Expr)
  | .Tuple vs _ _ => some vs
  | _ => none
/-- the slots of local names -/
def slots (C : CI) : List (Str × Pos) → Option (List Nat)
  | [] => some []
  | x :: r => two (locOf C x.1) (slots C r) (fun a b => a :: b)
def isRange (C : CI) (x : Str) : Bool := x == ("range" : Str) && isG C x && C.gl x == .no
def rngOf (C : CI) : Expr → Option (List Expr)
  | .Call f as ks _ => iff' (match nmOf f, ks with
    | some x, [] => isRange C x.1
    | _, _ => false) (some as)
  | _ => none
def walkL : Expr → Bool
  | .Name _ _ => true
  | .List _ _ => true
  | .Attribute _ _ _ => true
  | _ => false
/-- the names of a comprehension's block, as they are read within -/
def relN (scope sc : Scope) : Scope := { scope with names := scope.names.map fun y => if (y.2 == .free && sc.names.lookup y.1 == some .cell) then (y.1, .cell) else y }
def CI.blk (C : CI) (scope : Scope) : CI := { C with sc := relN scope C.sc }
/-- a comprehension's target: its own names, with their places -/
def cTg (C : CI) : Expr → Option (Tg × List (Str × Nat))
  | .Name x _ => (locOf C x).map fun i => (.nm i, [(x, i)])
  | .Tuple ts _ _ => (nms ts).bind fun ns => (slots C ns).map fun is => (.tp is, (ns.map (·.1)).zip is)
  | _ => none
def ownOk (scope : Scope) (own : List (Str × Nat)) : Bool := own.all fun p => match scope.names.lookup p.1 with
  | some .local => true
  | some .cell => true
  | _ => false
/-- what may be walked without being folded -/
def walkS : Expr → Bool
  | .Set _ _ _ => false
  | _ => true
def cRg (f : Expr → Option Ex) : List Expr → Option Sr
  | [a] => (f a).map (.rng (.lit (.int 0)))
  | [a, b] => two (f a) (f b) .rng
  | _ => none
/-- a call of a built-in that the module has not bound -/
def bltOf (C : CI) (nm : Str) : Expr → Option (List Expr)
  | .Call f as ks _ => iff' (match nmOf f, ks with
    | some x, [] => x.1 == nm && isG C x.1 && C.gl x.1 == .no
    | _, _ => false) (some as)
  | _ => none
def isTupE : Expr → Bool
  | .Tuple _ _ _ => true
  | _ => false
def cEnm (f : Expr → Option Ex) (tg : Expr) : List Expr → Option Sr
  | [e] => iff' (isTupE tg) ((f e).map .enm)
  | _ => none
def cZip (f : Expr → Option Ex) (tg : Expr) : List Expr → Option Sr
  | [a, b] => iff' (isTupE tg) (two (f a) (f b) .zip)
  | _ => none
def isStr1 : List Keyword → Bool
  | [⟨some k, .Constant (.bool true) _ _, _⟩] => k == "strict"
  | _ => false
def zstOf (C : CI) : Expr → Option (List Expr)
  | .Call f as ks _ => iff' (match nmOf f with
    | some x => x.1 == ("zip" : Str) && isG C x.1 && C.gl x.1 == .no && isStr1 ks
    | none => false) (some as)
  | _ => none
def cZst (f : Expr → Option Ex) (tg : Expr) : List Expr → Option Sr
  | [a, b] => iff' (isTupE tg) (two (f a) (f b) .zst)
  | _ => none
def cSr (C : CI) (f : Expr → Option Ex) (tg it : Expr) : Option Sr := match rngOf C it with
  | some as => cRg f as
  | none => (match bltOf C "enumerate" it with
    | some as => cEnm f tg as
    | none => (match bltOf C "zip" it with
      | some as => cZip f tg as
      | none => (match zstOf C it with
        | some as => cZst f tg as
        | none => iff' (walkS it) ((f it).map .val))))
/-- a written dict by its name -/
def gdOf (C : CI) : Expr → Option Str
  | .Name x _ => iff' (isG C x && (C.gl x == .dct && okN x)) (some x)
  | _ => none
/-- x in D, D a written dict -/
def ginOf (C : CI) (o : CmpOp) (b : Expr) : Option (Bool × Str) := match o with
  | .In => (gdOf C b).map fun x => (false, x)
  | .NotIn => (gdOf C b).map fun x => (true, x)
  | _ => none
def cLrg (C : CI) (f : Expr → Option Ex) (as : List Expr) : Option Ex := match as with
  | [e] => (rngOf C e).bind fun bs => (cRg f bs).bind fun s => match s with
    | .rng lo hi => some (.lrg lo hi)
    | _ => none
  | _ => none
def cCall (C : CI) (f : Expr → Option Ex) (x : Str) (a : Expr) (as : List Expr) : Gk → Option Ex
  | .fn => (nCE f (a :: as)).map (.fn x)
  | .bi b => (match (match b with
    | .list => cLrg C f (a :: as)
    | _ => none) with
    | some c => some c
    | none => (nCE f (a :: as)).map (.bi b))
  | .isi => cIsi C f a as
  | .xcl => (nCE f (a :: as)).map (.mkx x)
  | .ocl => (nCE f (a :: as)).map (.mkC x [])
  | .dead => some .nev
  | _ => none
/-- a call without arguments -/
def cCall0 (x : Str) : Gk → Option Ex
  | .xcl => some (.mkx x .nil)
  | .ocl => some (.mkC x [] .nil)
  | .fn => some (.fn x .nil)
  | .dead => some .nev
  | _ => none
def bms : List ((Str × Nat) × Bm) := [(("count", 1), .count), (("append", 1), .append), (("insert", 2), .insert), (("remove", 1), .remove), (("extend", 1), .extend), (("pop", 1), .dpop1), (("pop", 2), .dpop2), (("get", 1), .dget1), (("get", 2), .dget2)]
def bmOf (m : Str) (n : Nat) : Option Bm := bms.lookup (m, n)
def cMet (o : Option Ex) (m : Str) (n : Nat) (es : Option Exs) : Option Ex := match bmOf m n with
  | some b => iff' (!(n == 0)) (two o es (.bm b))
  | none => two o es (.met · m)
def nPr (f : Expr → Option Ex) : List (Option Expr) → List Expr → Option Prs
  | [], [] => some .nil
  | some k :: ks, v :: vs => tri (f k) (f v) (nPr f ks vs) .cons
  | _, _ => none
def cDsp (f : Expr → Option Ex) (ks : List (Option Expr)) (vs : List Expr) : Option Ex := iff' (decide (ks.length ≤ 15) && !ks.isEmpty) ((nPr f ks vs).map .dsp)
def cIfs (f : Expr → Option Te) : List Expr → Option Te
  | [] => some .yes
  | [c] => f c
  | _ => none
def cLc (C : CI) (scope : Scope) (s : Option Sr) (t : Option (Tg × List (Str × Nat))) (c : Option Te) (e : Option Ex) : Option Ex := t.bind fun u => iff' (blkC C.N C.sc scope u.2 && ownOk scope u.2) (tri s c e fun s c e => .lc u.1 s c e (u.2.map (·.2)))
def cLc2 (C : CI) (scope : Scope) (s : Option Sr) (t : Option (Tg × List (Str × Nat))) (c : Option Te) (s1 : Option Sr) (t1 : Option (Tg × List (Str × Nat))) (c1 : Option Te) (e : Option Ex) : Option Ex := t.bind fun u => t1.bind fun u1 => iff' (blkC C.N C.sc scope (u.2 ++ u1.2) && ownOk scope (u.2 ++ u1.2)) (two (two s c Prod.mk) (tri s1 c1 e fun s c e => (s, c, e)) fun a b => .lc2 u.1 a.1 a.2 u1.1 b.1 b.2.1 b.2.2 ((u.2 ++ u1.2).map (·.2)) (u1.2.map (·.2)))
def cDc (C : CI) (scope : Scope) (s : Option Sr) (t : Option (Tg × List (Str × Nat))) (c : Option Te) (k v : Option Ex) : Option Ex := t.bind fun u => iff' (blkC C.N C.sc scope u.2 && ownOk scope u.2) (two (two s c Prod.mk) (two k v Prod.mk) fun a b => .dc u.1 a.1 a.2 b.1 b.2 (u.2.map (·.2)))
mutual
def cE (C : CI) : Nat → Expr → Option Ex
  | 0, _ => none
  | n + 1, e => match e with
    | .Constant (.int i) _ _ => some (.lit (.int i))
    | .Constant (.bool b) _ _ => some (.lit (.bl b))
    | .Constant .none _ _ => some (.lit .non)
    | .Constant (.str x) _ _ => some (.lit (.str x))
    | .Name x _ => cName C x
    | .BinOp a o b _ => (two (cE C n a) (cE C n b) (.op o))
    | .UnaryOp .USub a _ => (cE C n a).map .neg
    | .UnaryOp .Not a _ => (cE C n a).map .not
    | .Compare a [o] [b] _ => (match ginOf C o b with
      | some u => (cE C n a).map (.gin u.1 u.2)
      | none => iff' (behindOk o b) ((two (cE C n a) (cE C n b) (.cmp o))))
    | .Compare a [o, o'] [b, c] _ => iff' (behindOk o b && behindOk o' c) ((tri (cE C n a) (cE C n b) (cE C n c) (.chn o o')))
    | .BoolOp .And [a] _ => cE C n a
    | .BoolOp .Or [a] _ => cE C n a
    | .BoolOp .And (a :: b :: r) p => (two (cE C n a) (cE C n (.BoolOp .And (b :: r) p)) (.and))
    | .BoolOp .Or (a :: b :: r) p => (two (cE C n a) (cE C n (.BoolOp .Or (b :: r) p)) (.or))
    | .IfExp t a b _ => (tri (cT C n t) (cE C n a) (cE C n b) (.ite))
    | .Attribute o f _ => iff' (plainBase o) ((cE C n o).map (.fld · f))
    | .Subscript o i _ => (match i with
      | .Slice lo hi none _ => tri (cE C n o) (cO C n lo) (cO C n hi) (.slc)
      | .Slice _ _ (some _) _ => none
      | i => (match gdOf C o with
        | some x => (cE C n i).map (.gix x)
        | none => two (cE C n o) (cE C n i) (.idx)))
    | .List es _ => (nCE (cE C n) es).map .lst
    | .Tuple es _ _ => (nCE (cE C n) es).map .tup
    | .Call (.Name x _) (a :: as) [] _ => iff' (isG C x) (cCall C (cE C n) x a as (C.gl x))
    | .Call (.Name x _) [] [] _ => iff' (isG C x) (cCall0 x (C.gl x))
    | .Call (.Name x _) (a :: as) (k :: ks) _ => iff' (isG C x) ((kwsOf (k :: ks)).bind fun kk => cMkC C (cE C n) x (a :: as) kk)
    | .Call (.Attribute o m ap) as [] p => iff' (plainBase o && ap.endLine == p.line && decide (as.length < 20)) (cMet (cE C n o) m as.length (nCE (cE C n) as))
    | .Dict [] [] _ => some .dct0
    | .Dict (k :: ks) vs _ => cDsp (cE C n) (k :: ks) vs
    | .DictComp k v [g] scope _ => iff' (g.is_async == 0) (cDc C scope (cSr C (cE C n) g.target g.iter) (cTg (C.blk scope) g.target) (cIfs (cT (C.blk scope) n) g.ifs) (cE (C.blk scope) n k) (cE (C.blk scope) n v))
    | .ListComp e [g, g1] scope _ => iff' (g.is_async == 0 && g1.is_async == 0) (cLc2 C scope (cSr C (cE C n) g.target g.iter) (cTg (C.blk scope) g.target) (cIfs (cT (C.blk scope) n) g.ifs) (cSr (C.blk scope) (cE (C.blk scope) n) g1.target g1.iter) (cTg (C.blk scope) g1.target) (cIfs (cT (C.blk scope) n) g1.ifs) (cE (C.blk scope) n e))
    | .ListComp e [g] scope _ => iff' (g.is_async == 0) (cLc C scope (cSr C (cE C n) g.target g.iter) (cTg (C.blk scope) g.target) (cIfs (cT (C.blk scope) n) g.ifs) (cE (C.blk scope) n e))
    | _ => none
def cO (C : CI) : Nat → Option Expr → Option Ox
  | 0, _ => none
  | _, none => some .none
  | n + 1, some e => (cE C n e).map .some
def cT (C : CI) : Nat → Expr → Option Te
  | 0, _ => none
  | n + 1, e => match e with
    | .UnaryOp .Not a _ => (cT C n a).map .not
    | .BoolOp .And [a] _ => cT C n a
    | .BoolOp .Or [a] _ => cT C n a
    | .BoolOp .And (a :: b :: r) p => (two (cT C n a) (cT C n (.BoolOp .And (b :: r) p)) (.and))
    | .BoolOp .Or (a :: b :: r) p => (two (cT C n a) (cT C n (.BoolOp .Or (b :: r) p)) (.or))
    | .Compare a [o] [b] _ => (match ginOf C o b with
      | some u => (cE C n a).map (.gin u.1 u.2)
      | none => iff' (behindOk o b) ((two (cE C n a) (cE C n b) (.cmp o))))
    | .Compare a [o, o'] [b, c] _ => iff' (behindOk o b && behindOk o' c) ((tri (cE C n a) (cE C n b) (cE C n c) (.chn o o')))
    | e => iff' (plainTest e) ((cE C n e).map .val)
end
end QL
set_option Elab.async false
set_option linter.all false
set_option maxRecDepth 100000
set_option maxHeartbeats 4000000
/-! Q5: what cE turns keeps what wE asks. -/
namespace QL
open PySem PySem.Spec L2
open PyProof.Rows hiding St
/-- a class by its name -/
def ClsN (mg : Str → Option Value) (x : Str) (u : Value) : Prop := (x == ("__debug__" : Str)) = false ∧ (((∃ C, u = .ref C) ∧ mg x = some u) ∨ ((∃ T, u = .type T) ∧ mg x = none ∧ bootBuiltins x = some u ∧ x ≠ "__name__"))
theorem ClsN.one {mg : Str → Option Value} {x : Str} {u v : Value} (a : ClsN mg x u) (b : ClsN mg x v) : u = v := by
  obtain ⟨_, ⟨_, h⟩ | ⟨_, h, h', _⟩⟩ := a <;> obtain ⟨_, ⟨_, g⟩ | ⟨_, g, g', _⟩⟩ := b
  · rw [h] at g; exact Option.some.inj g
  · rw [h] at g; cases g
  · rw [h] at g; cases g
  · rw [h'] at g'; exact Option.some.inj g'
/-- what isinstance asks of an own class -/
structure OcC (K : PySem.W.Frag) (C : Addr) : Prop where
  cl : Cls K C
  ca : PySem.W.findIn K (.ref C) "__class__" = some (some (.builtin "object.__class__"))
  cg : PySem.W.specialIn K (.builtin "object.__class__") "__get__" = some (some (.builtin "getset_descriptor.__get__"))
  ct : PySem.W.takesIn K (.builtin "object.__class__") = some true
  mo : PySem.W.mroIn K C (.type "object") = some true
def bTs : List String := ["NoneType", "bool", "int", "str", "list", "tuple", "dict"]
/-- how C(..) is made -/
def MkOk (P : Program) (w : World) (K : PySem.W.Frag) (mg : Str → Option Value) (base : Heap) (k : Nat) (x : Str) (n : Nat) (ks : List Str) (C : Addr) (sp : Sp) (pm : List (Nat ⊕ V)) : Prop :=
  (x == ("__debug__" : Str)) = false ∧ mg x = some (.ref C) ∧ ∃ (f : Addr) (fd : FuncData) (ps : List Str), Mk K C f ∧ FnG P w K mg base k f fd ps sp ∧
    ∀ (vs ws : List V) (us : List Value), Vals vs us → vs.length = n → pmV pm vs = some ws → ∃ full : List Value, Vals ws full ∧ ∀ (s : Shared) (a : Value), K.In s.heap → BindsTo s fd ⟨a :: us.take (n - ks.length), ks.zip (us.drop (n - ks.length))⟩ (ps.zip (a :: full))
/-- the module's names, as they stand behind the top -/
structure GOk (P : Program) (w : World) (K : PySem.W.Frag) (mg : Str → Option Value) (base : Heap) (S : Stat) (F : Sm) (k : Nat) (gl : Str → Gk) : Prop where
  so : SoOk K S.so
  fl : ∀ C f, S.fl C f → Cls K C ∧ NoAttr K C f
  fn : ∀ x, gl x = .fn → ∃ f fd ps, (x == ("__debug__" : Str)) = false ∧ mg x = some (.ref f) ∧ PySem.W.keepIn K (.ref f) = true ∧ FnG P w K mg base (2 * k + 1) f fd ps (F.fn x) ∧ Binds K fd ps []
  cst : ∀ x v, gl x = .cst → S.gv x = some v → ∃ u, mg x = some u ∧ RelV v u
  bi : ∀ x b, gl x = .bi b → x = biN b ∧ mg x = none
  isi : ∀ x, gl x = .isi → x = "isinstance" ∧ mg x = none
  rng : gl "range" = .no → mg "range" = none
  fre : ∀ x : Str, (x = "enumerate" ∨ x = "zip") → gl x = .no → mg x = none
  cls : ∀ x, (gl x = .xcl ∨ gl x = .ocl ∨ gl x = .bxc) → ∃ u, ClsN mg x u
  own : ∀ x, (gl x = .xcl ∨ gl x = .ocl) → ∃ C, (x == ("__debug__" : Str)) = false ∧ mg x = some (.ref C) ∧ PySem.W.keepIn K (.ref C) = true
  xc : ∀ x C f, gl x = .xcl → S.xc x = some (C, f) → Xk P w K mg base x C f
  isa : ∀ C c b, S.isa C c = some b → XvC K C ∧ ∀ u, ClsN mg c u → PySem.W.kitOne K (.ref C) u = some b ∧ PySem.W.exmOne K (.ref C) u = some b
  iso : ∀ C c b, S.iso C c = some b → OcC K C ∧ ∀ u, ClsN mg c u → PySem.W.kitOne K (.ref C) u = some b
  isb : ∀ c, S.isb c = true → ∀ u, ClsN mg c u → ∀ T ∈ bTs, PySem.W.kitOne K (.type T) u = some false
  xf : ∀ C f, S.xf C f → XvC K C ∧ PySem.W.findIn K (.ref C) f = some none
  mt : ∀ C m g, S.mt C m = some g → Cls K C ∧ ∃ f fd ps, Meth K C m f ∧ FnG P w K mg base (2 * k + 1) f fd ps (F.fn g) ∧ Binds K fd ps []
  mkc : ∀ x n ks C g pm, gl x = .ocl → S.mkc x n ks = some (C, g, pm) → MkOk P w K mg base (2 * k + 1) x n ks C (F.fn g) pm
  gd : ∀ x, gl x = .dct → ∃ l d es m, S.gd x = some l ∧ mg x = some (.ref d) ∧ KDict K w d es m ∧ ∀ z : Str, ∃ r, PySem.W.nsIn K d z = some r ∧ RelO (l.lookup z) r
/-- a context of expressions -/
structure OkE (X : Cx) (S : Stat) (F : Sm) (k : Nat) (C : CI) (W : WX) : Prop where
  G : GOk X.prog X.w X.K X.mg X.base S F k C.gl
  N : X.N = C.N
  nd : C.N.Nodup
  sc : X.env.scope.names = C.sc.names
  calm : X.calm = true
  gd : X.A.guards = some []
  rm : Room (2 * k + 2) X.A
  tk : Takes X W
  kd : X.env.scope.kind = .function
/-- a body's context -/
structure Ok (X : Cx) (S : Stat) (F : Sm) (k : Nat) (C : CI) (W : WX) : Prop extends OkE X S F k C W where
  po : PassesOwn (model X.prog X.w) X.A X.env X.xe
  cf : ∀ x, C.sc.names.lookup x = some .cell → X.fn x = true
  stk : X.stack = X.env :: X.outer
  frm : X.env.frame = some X.env.locals
  exn : X.ex = []
theorem btBi_name {b : Bi} {T : Bt} (h : btBi b = some T) : biN b = btN T := by
  cases b <;> cases h <;> rfl
section
variable {X : Cx} {S : Stat} {F : Sm} {k : Nat} {C : CI} {W : WX}
theorem OkE.hu (O : OkE X S F k C W) : X.A.units + 64 < cLine := O.rm.units
theorem OkE.hu1 (O : OkE X S F k C W) : X.A.units + 1 < cLine := by have := O.rm.units; omega
theorem OkE.gl (O : OkE X S F k C W) {x : Str} (h : isG C x = true) : Gl X x := by
  unfold isG at h
  show X.env.scope.names.lookup x = _
  rw [O.sc]
  split at h
  · assumption
  · cases h
theorem idxOf_get {α : Type} [BEq α] [LawfulBEq α] {x : α} : ∀ {l : List α} {i : Nat}, l.idxOf? x = some i → l[i]? = some x := by
  intro l
  induction l with
  | nil => intro i h; cases h
  | cons a r ih =>
    intro i h
    rw [List.idxOf?_cons] at h
    split at h
    · rename_i e
      cases h
      simp at e
      simp [e]
    · cases e : r.idxOf? x with
      | none => rw [e] at h; cases h
      | some j =>
        rw [e] at h
        cases h
        simpa using ih e
theorem OkE.slot (O : OkE X S F k C W) {x : Str} {i : Nat} (h : slotOf C x = some i) : X.N[i]? = some x ∧ Vis X.env.scope x := by
  unfold slotOf at h
  rw [← O.sc] at h
  rw [O.N]
  split at h
  · rename_i e
    exact ⟨idxOf_get h, .inl e⟩
  · rename_i e
    exact ⟨idxOf_get h, .inr (.inl e)⟩
  · rename_i e
    exact ⟨idxOf_get h, .inr (.inr e)⟩
  · cases h
theorem okN_d {x : Str} (h : okN x = true) : (x == ("__debug__" : Str)) = false ∧ (x == ("__classdict__" : Str)) = false := by
  unfold okN at h
  simp only [Bool.and_eq_true, Bool.not_eq_true'] at h
  exact h
theorem gk_name {b : Bi} : okN (biN b) = true := by cases b <;> decide
/-- what is turned is no star -/
def notStar : Expr → Bool
  | .Starred _ _ => false
  | _ => true
theorem cE_star {n : Nat} {e : Expr} {c : Ex} (h : cE C n e = some c) : notStar e = true := by
  cases n with
  | zero => unfold cE at h; cases h
  | succ n => cases e <;> first | rfl | (unfold cE at h; cases h)
theorem star_one {e : Expr} {es : List Expr} {env : Env} (h : notStar e = true) : starEach (e :: es) env = (false, eval e env) :: starEach es env := by
  cases e <;> first | rfl | cases h
theorem star_no {env : Env} {pos : Pos} : ∀ {es : List Expr}, (∀ e ∈ es, notStar e = true) → (backTo pos (starEach es env)).any (·.1) = false
  | [], _ => rfl
  | e :: es, h => by
    rw [star_one (h e (List.mem_cons_self ..))]
    have ih := star_no (es := es) (env := env) (pos := pos) fun a ha => h a (List.mem_cons_of_mem _ ha)
    unfold backTo at ih ⊢
    rw [List.map_cons, List.any_cons]
    simp only [Bool.false_or]
    exact ih
theorem nCE_cons {f : Expr → Option Ex} {e : Expr} {es : List Expr} {c : Exs} (h : nCE f (e :: es) = some c) : ∃ a b, f e = some a ∧ nCE f es = some b ∧ c = .cons a b := by
  unfold nCE at h
  split at h
  · rename_i a b h1 h2
    cases h
    exact ⟨a, b, h1, h2, rfl⟩
  · cases h
theorem nCE_star {n : Nat} : ∀ {es : List Expr} {c : Exs}, nCE (cE C n) es = some c → ∀ e ∈ es, notStar e = true
  | [], _, _, e, he => by cases he
  | a :: es, c, h, e, he => by
    obtain ⟨x, y, h1, h2, _⟩ := nCE_cons h
    rcases List.mem_cons.mp he with rfl | he
    · exact cE_star h1
    · exact nCE_star h2 e he
theorem nCE_pa {n : Nat} (ih : ∀ e c, cE C n e = some c → PE X e (wE S F W c)) : ∀ {es : List Expr} {c : Exs}, nCE (cE C n) es = some c → PA X es (wA S F W c)
  | [], c, h => by
    unfold nCE at h
    cases h
    unfold wA
    exact pa_nil
  | e :: es, c, h => by
    obtain ⟨a, b, h1, h2, rfl⟩ := nCE_cons h
    unfold wA
    exact pa_cons (ih e a h1) (nCE_pa ih h2) (star_one (cE_star h1))
/-- two parts -/
theorem pair_some {α β γ : Type} {x : Option α} {y : Option β} {f : α → β → γ} {c : γ} (h : (match x, y with | some a, some b => some (f a b) | _, _ => none) = some c) : ∃ a b, x = some a ∧ y = some b ∧ c = f a b := by
  cases x with
  | none => cases h
  | some a =>
    cases y with
    | none => cases h
    | some b => cases h; exact ⟨a, b, rfl, rfl, rfl⟩
theorem PE.imp {e : Expr} {t t' : TE} (h : PE X e t) (q : ∀ σ H Q, t' σ H Q → t σ H Q) : PE X e t' := ⟨fun pins s σ H Q I z => h.run pins s σ H Q I (q σ H Q z)⟩
theorem PT.imp {e : Expr} {t t' : TT} (h : PT X e t) (q : ∀ σ H Q, t' σ H Q → t σ H Q) : PT X e t' := ⟨fun pins s σ H Q I z => h.run pins s σ H Q I (q σ H Q z)⟩
end
end QL
set_option Elab.async false
set_option linter.all false
set_option maxRecDepth 100000
set_option maxHeartbeats 4000000
/-! Q6: a weaker end is reached, too. -/
namespace QL
open PySem PySem.Spec L2
open PyProof.Rows hiding St
section
variable {x y : V} {H : Hp} {Q Q' : VK} {so : Addr → Option HO}
theorem opV_mono {o : Operator} (q : ∀ v H', Q v H' → Q' v H') (h : opV so o x y H Q) : opV so o x y H Q' := by
  cases o with
  | Add =>
    change addV so x y H Q at h
    show addV so x y H Q'
    unfold addV at h ⊢
    split at h
    · exact q _ _ h
    · exact ⟨h.1, q _ _ h.2⟩
    · split at h
      · exact ⟨h.1, fun r hr hs => q _ _ (h.2 r hr hs)⟩
      · exact ⟨h.1, fun a => q _ _ (h.2.1 a), fun a b => q _ _ (h.2.2.1 a b), fun a b r hr hs => q _ _ (h.2.2.2 a b r hr hs)⟩
      · exact h.elim
    · exact h.elim
  | Sub =>
    change subV x y H Q at h
    show subV x y H Q'
    unfold subV at h ⊢
    split at h
    · exact q _ _ h
    · exact h.elim
  | Mult =>
    change mulV so x y H Q at h
    show mulV so x y H Q'
    unfold mulV at h ⊢
    split at h
    · exact ⟨h.1, q _ _ h.2⟩
    · exact ⟨h.1, h.2.1, h.2.2.1, q _ _ h.2.2.2⟩
    · split at h
      · exact ⟨h.1, h.2.1, h.2.2.1, fun r hr hs => q _ _ (h.2.2.2 r hr hs)⟩
      · exact h.elim
    · exact h.elim
  | FloorDiv =>
    change divV x y H Q at h
    show divV x y H Q'
    unfold divV at h ⊢
    split at h
    · exact ⟨h.1, q _ _ h.2⟩
    · exact h.elim
  | Mod =>
    change modV x y H Q at h
    show modV x y H Q'
    unfold modV at h ⊢
    split at h
    · exact ⟨h.1, q _ _ h.2⟩
    · exact h.elim
  | Pow =>
    change powV x y H Q at h
    show powV x y H Q'
    unfold powV at h ⊢
    split at h
    · exact ⟨h.1, q _ _ h.2⟩
    · exact h.elim
  | LShift =>
    change shlV x y H Q at h
    show shlV x y H Q'
    unfold shlV at h ⊢
    split at h
    · exact ⟨h.1, q _ _ h.2⟩
    · exact h.elim
  | _ => exact h.elim
theorem eqD_mono {n : Bool} (q : ∀ v H', Q v H' → Q' v H') (h : eqD so n x y H Q) : eqD so n x y H Q' := by
  unfold eqD at h ⊢
  split at h
  · exact q _ _ h
  · split at h
    · exact q _ _ h
    · split at h
      · exact q _ _ h
      · obtain ⟨d, e, h1, h2, h3, h4, z⟩ := h
        exact ⟨d, e, h1, h2, h3, h4, q _ _ z⟩
theorem ordV_mono {p : Int → Int → Bool} (q : ∀ v H', Q v H' → Q' v H') (h : ordV p x y H Q) : ordV p x y H Q' := by
  unfold ordV at h ⊢
  split at h
  · exact q _ _ h
  · exact h.elim
theorem inD_mono {n : Bool} (q : ∀ v H', Q v H' → Q' v H') (h : inD so n x y H Q) : inD so n x y H Q' := by
  unfold inD at h ⊢
  split at h
  · split at h
    · exact q _ _ h
    · exact h.elim
  · split at h
    · exact ⟨h.1, h.2.1, q _ _ h.2.2⟩
    · exact ⟨h.1, h.2.1, q _ _ h.2.2⟩
    · split at h
      · exact q _ _ h
      · exact h.elim
    · exact h.elim
  · exact h.elim
theorem isV_mono {n : Bool} (q : ∀ v H', Q v H' → Q' v H') (h : isV n x y H Q) : isV n x y H Q' := by
  unfold isV at h ⊢
  split at h
  · exact q _ _ h
  · exact q _ _ h
  · split at h
    · exact ⟨h.1, h.2.1, q _ _ h.2.2⟩
    · exact h.elim
  · exact h.elim
theorem cmpV_mono {o : CmpOp} (q : ∀ v H', Q v H' → Q' v H') (h : cmpV so o x y H Q) : cmpV so o x y H Q' := match o, h with
  | .Eq, h => eqD_mono q h
  | .NotEq, h => eqD_mono q h
  | .Lt, h => ordV_mono q h
  | .LtE, h => ordV_mono q h
  | .Gt, h => ordV_mono q h
  | .GtE, h => ordV_mono q h
  | .In, h => inD_mono q h
  | .NotIn, h => inD_mono q h
  | .Is, h => isV_mono q h
  | .IsNot, h => isV_mono q h
theorem idxV_mono (q : ∀ v H', Q v H' → Q' v H') (h : idxV so x y H Q) : idxV so x y H Q' := by
  unfold idxV at h ⊢
  split at h
  · split at h
    · split at h
      · exact q _ _ h
      · exact h.elim
    · split at h
      · exact q _ _ h
      · exact h.elim
    · split at h
      · split at h
        · exact q _ _ h
        · exact h.elim
      · exact h.elim
    · exact h.elim
  · split at h
    · split at h
      · split at h
        · exact q _ _ h
        · exact h.elim
      · exact h.elim
    · exact h.elim
  · refine ⟨h.1, ?_⟩
    have h := h.2
    split at h
    · exact q _ _ h
    · exact h.elim
  · exact h.elim
theorem slcV_mono {a b : Option Int} (q : ∀ v H', Q v H' → Q' v H') (h : slcV so x a b H Q) : slcV so x a b H Q' := by
  unfold slcV at h ⊢
  split at h
  · exact fun p hp hs => q _ _ (h p hp hs)
  · split at h
    · exact ⟨fun a => q _ _ (h.1 a), fun a p hp hs => q _ _ (h.2 a p hp hs)⟩
    · split at h
      · exact ⟨h.1, q _ _ h.2⟩
      · exact h.elim
theorem biV_mono {b : Bi} {xs : List V} (q : ∀ v H', Q v H' → Q' v H') (h : biV so b xs H Q) : biV so b xs H Q' := by
  cases b with
  | len =>
    change bLen so xs H Q at h
    show bLen so xs H Q'
    unfold bLen at h ⊢
    split at h
    · split at h
      · exact q _ _ h
      · exact h.elim
    · exact h.elim
  | int =>
    change bInt xs H Q at h
    show bInt xs H Q'
    unfold bInt at h ⊢
    split at h
    · exact q _ _ h
    · exact q _ _ h
    · obtain ⟨z, n, e, h⟩ := h
      exact ⟨z, n, e, q _ _ h⟩
    · exact h.elim
  | bool =>
    change bBool xs H Q at h
    show bBool xs H Q'
    unfold bBool at h ⊢
    split at h
    · exact q _ _ h
    · exact q _ _ h
    · exact h.elim
  | str =>
    change bStr xs H Q at h
    show bStr xs H Q'
    unfold bStr at h ⊢
    split at h
    · exact ⟨h.1, q _ _ h.2⟩
    · exact h.elim
  | repr =>
    change bRepr so xs H Q at h
    show bRepr so xs H Q'
    unfold bRepr at h ⊢
    split at h
    · rcases h with ⟨d, h1, h2, h3, h4, h5, h⟩ | ⟨a, h1, h2, h⟩
      · exact .inl ⟨d, h1, h2, h3, h4, h5, q _ _ h⟩
      · exact .inr ⟨a, h1, h2, q _ _ h⟩
    · exact h.elim
  | min =>
    change bMin xs H Q at h
    show bMin xs H Q'
    unfold bMin at h ⊢
    split at h
    · exact q _ _ h
    · exact h.elim
  | max =>
    change bMax xs H Q at h
    show bMax xs H Q'
    unfold bMax at h ⊢
    split at h
    · exact q _ _ h
    · exact h.elim
  | abs =>
    change bAbs xs H Q at h
    show bAbs xs H Q'
    unfold bAbs at h ⊢
    split at h
    · exact q _ _ h
    · exact h.elim
  | sum =>
    change bSum so xs H Q at h
    show bSum so xs H Q'
    unfold bSum at h ⊢
    split at h
    · split at h
      · exact q _ _ h
      · exact h.elim
    · exact h.elim
  | any =>
    change bAny so xs H Q at h
    show bAny so xs H Q'
    unfold bAny at h ⊢
    split at h
    · split at h
      · exact q _ _ h
      · exact h.elim
    · exact h.elim
  | all =>
    change bAll so xs H Q at h
    show bAll so xs H Q'
    unfold bAll at h ⊢
    split at h
    · split at h
      · exact q _ _ h
      · exact h.elim
    · exact h.elim
  | list =>
    change bList so xs H Q at h
    show bList so xs H Q'
    unfold bList at h ⊢
    split at h
    · split at h
      · exact fun p hp hs => q _ _ (h p hp hs)
      · exact fun p hp hs => q _ _ (h p hp hs)
      · exact h.elim
    · exact h.elim
  | tuple =>
    change bTuple so xs H Q at h
    show bTuple so xs H Q'
    unfold bTuple at h ⊢
    split at h
    · split at h
      · exact fun p hp hs => q _ _ (h p hp hs)
      · exact q _ _ h
      · exact h.elim
    · exact h.elim
  | sorted =>
    change bSorted so xs H Q at h
    show bSorted so xs H Q'
    unfold bSorted at h ⊢
    split at h
    · split at h
      · exact fun a p h1 h2 h3 h4 => q _ _ (h a p h1 h2 h3 h4)
      · rcases h with ⟨a, kvs, ks, h0, h1, h2, h3, h4⟩ | ⟨a, kvs, ks, h0, h1, h2, h3, h4⟩ | ⟨ks, h1, h3, h4⟩ | ⟨zs, k, h1, h2, h4⟩
        · exact .inl ⟨a, kvs, ks, h0, h1, h2, h3, fun a b h1 h2 h3 h5 => q _ _ (h4 a b h1 h2 h3 h5)⟩
        · exact .inr (.inl ⟨a, kvs, ks, h0, h1, h2, h3, fun a b h1 h2 h3 h5 => q _ _ (h4 a b h1 h2 h3 h5)⟩)
        · exact .inr (.inr (.inl ⟨ks, h1, h3, fun a b h1 h2 h3 h5 => q _ _ (h4 a b h1 h2 h3 h5)⟩))
        · exact .inr (.inr (.inr ⟨zs, k, h1, h2, fun a b h1 h2 h3 h5 => q _ _ (h4 a b h1 h2 h3 h5)⟩))
    · exact h.elim
theorem fldV_mono {S : Stat} {f : Str} (q : ∀ v H', Q v H' → Q' v H') (h : fldV S f x H Q) : fldV S f x H Q' := by
  unfold fldV at h ⊢
  split at h
  · split at h
    · refine ⟨h.1, ?_⟩
      have h := h.2
      split at h
      · exact q _ _ h
      · exact h.elim
    · obtain ⟨C, fs, v, h1, h2, h3, h4⟩ := h
      exact ⟨C, fs, v, h1, h2, h3, q _ _ h4⟩
    · exact h.elim
  · exact h.elim
theorem isxK_mono {S : Stat} {c : Str} {B B' : Bool → Prop} (q : ∀ b, B b → B' b) (h : isxK S c x H B) : isxK S c x H B' := by
  unfold isxK at h ⊢
  split at h
  · split at h
    · obtain ⟨C, fs, b, h1, h2, h3⟩ := h
      exact ⟨C, fs, b, h1, h2, q _ h3⟩
    · obtain ⟨b, h1, h2⟩ := h
      exact ⟨b, h1, q _ h2⟩
    · exact ⟨h.1, q _ h.2⟩
    · split at h
      · exact ⟨h.1, q _ h.2⟩
      · exact ⟨h.1, q _ h.2⟩
      · exact h.elim
  · exact ⟨h.1, q _ h.2⟩
  · exact ⟨h.1, q _ h.2⟩
  · exact ⟨h.1, q _ h.2⟩
  · exact ⟨h.1, q _ h.2⟩
  · exact h.elim
theorem mkxV_mono {S : Stat} {c : Str} {vs : List V} (q : ∀ v H', Q v H' → Q' v H') (h : mkxV S c vs H Q) : mkxV S c vs H Q' := by
  unfold mkxV at h ⊢
  split at h
  · split at h
    · exact fun a d h1 h2 h3 h4 h5 => q _ _ (h a d h1 h2 h3 h4 h5)
    · exact h.elim
  · exact ⟨h.1, fun a h1 h2 => q _ _ (h.2 a h1 h2)⟩
  · exact h.elim
theorem raiV_mono {S : Stat} {c : Str} {vs : List V} {B B' : XK} (q : ∀ c d H', B c d H' → B' c d H') (h : raiV S c vs H B) : raiV S c vs H B' := by
  unfold raiV at h ⊢
  split at h
  · split at h
    · exact fun d h1 h2 => q _ _ _ (h d h1 h2)
    · exact h.elim
  · exact h.elim
theorem metK_mono {S : Stat} {m : Str} {B B' : Str → Prop} (q : ∀ g, B g → B' g) (h : metK S m x H B) : metK S m x H B' := by
  unfold metK at h ⊢
  split at h
  · split at h
    · refine ⟨h.1, ?_⟩
      have h := h.2
      split at h
      · exact q _ h
      · exact h.elim
    · exact h.elim
  · exact h.elim
theorem bmV_mono {S : Stat} {m : Bm} {vs : List V} (q : ∀ v H', Q v H' → Q' v H') (h : bmV S m x vs H Q) : bmV S m x vs H Q' := by
  cases m with
  | count =>
    change mCount S x vs H Q at h
    show mCount S x vs H Q'
    unfold mCount at h ⊢
    split at h
    · split at h
      · exact ⟨h.1, h.2.1, q _ _ h.2.2⟩
      · exact h.elim
    · exact h.elim
  | append =>
    change mAppend x vs H Q at h
    show mAppend x vs H Q'
    unfold mAppend at h ⊢
    split at h
    · split at h
      · exact ⟨h.1, q _ _ h.2⟩
      · exact h.elim
    · exact h.elim
  | insert =>
    change mInsert x vs H Q at h
    show mInsert x vs H Q'
    unfold mInsert at h ⊢
    split at h
    · split at h
      · exact ⟨h.1, h.2.1, q _ _ h.2.2⟩
      · exact h.elim
    · exact h.elim
  | remove =>
    change mRemove x vs H Q at h
    show mRemove x vs H Q'
    unfold mRemove at h ⊢
    split at h
    · obtain ⟨a, b, h1, h2, h3, h4⟩ := h
      exact ⟨a, b, h1, h2, h3, q _ _ h4⟩
    · exact h.elim
  | extend =>
    change mExtend x vs H Q at h
    show mExtend x vs H Q'
    unfold mExtend at h ⊢
    split at h
    · obtain ⟨a, b, h1, h2, h3, h4⟩ := h
      exact ⟨a, b, h1, h2, h3, q _ _ h4⟩
    · exact h.elim
  | dpop1 =>
    change mDPop1 x vs H Q at h
    show mDPop1 x vs H Q'
    unfold mDPop1 at h ⊢
    split at h
    · obtain ⟨a, b, c, h1, h2, h3, h4⟩ := h
      exact ⟨a, b, c, h1, h2, h3, q _ _ h4⟩
    · exact h.elim
  | dpop2 =>
    change mDPop2 x vs H Q at h
    show mDPop2 x vs H Q'
    unfold mDPop2 at h ⊢
    split at h
    · obtain ⟨a, b, h1, h2, h4⟩ := h
      refine ⟨a, b, h1, h2, ?_⟩
      split at h4
      · exact q _ _ h4
      · exact q _ _ h4
    · exact h.elim
  | dget1 =>
    change mDGet1 x vs H Q at h
    show mDGet1 x vs H Q'
    unfold mDGet1 at h ⊢
    split at h
    · obtain ⟨a, b, h1, h2, h4⟩ := h
      exact ⟨a, b, h1, h2, q _ _ h4⟩
    · exact h.elim
  | dget2 =>
    change mDGet2 x vs H Q at h
    show mDGet2 x vs H Q'
    unfold mDGet2 at h ⊢
    split at h
    · obtain ⟨a, b, h1, h2, h4⟩ := h
      exact ⟨a, b, h1, h2, q _ _ h4⟩
    · exact h.elim
theorem gdK_mono {o : Option (List (Str × V))} {x : V} {B B' : Option V → Prop} (q : ∀ o, B o → B' o) (h : gdK o x B) : gdK o x B' := by
  unfold gdK at h ⊢
  split at h
  · exact q _ h
  · exact h.elim
theorem bt2K_mono {so : Addr → Option HO} {T U : Bt} {x : V} {H : Hp} {B B' : Bool → Prop} (q : ∀ o, B o → B' o) (h : bt2K so T U x H B) : bt2K so T U x H B' := by
  unfold bt2K at h ⊢
  split at h
  · exact q _ h
  · exact h.elim
theorem boolV_mono {B B' : Bool → Hp → Prop} (q : ∀ k H', B k H' → B' k H') (v : V) (H' : Hp) (h : boolV B v H') : boolV B' v H' := by
  unfold boolV at h ⊢
  split at h
  · exact q _ _ h
  · exact h.elim
end
/-- the defs' promises may be weakened -/
def SmMono (F : Sm) : Prop := ∀ (f : Str) (vs : List V) (H : Hp) (Q Q' : VK) (E E' : XK), (∀ v H', Q v H' → Q' v H') → (∀ c d H', E c d H' → E' c d H') → F.fn f vs H Q E → F.fn f vs H Q' E'
theorem mkK_mono {S : Stat} {F : Sm} (M : SmMono F) {c : Str} {ks : List Str} {vs : List V} {H : Hp} {Q Q' : VK} {E E' : XK} (q : ∀ v H', Q v H' → Q' v H') (e : ∀ c d H', E c d H' → E' c d H') (h : mkK S F c ks vs H Q E) : mkK S F c ks vs H Q' E' := by
  unfold mkK at h ⊢
  split at h
  · split at h
    · exact fun x dx h1 h2 h3 h4 h5 => M _ _ _ _ _ _ _ (fun v H' z => ⟨z.1, q _ _ z.2⟩) e (h x dx h1 h2 h3 h4 h5)
    · exact h.elim
  · exact h.elim
theorem gT_mono {so : Addr → Option HO} {t : Tg} {x : V} {σ : St} {H : Hp} {Q Q' : St → Hp → Prop} (q : ∀ σ H, Q σ H → Q' σ H) (h : gT so t x σ H Q) : gT so t x σ H Q' := by
  cases t with
  | nm i => exact q _ _ h
  | tp is =>
    unfold gT at h ⊢
    simp only at h ⊢
    split at h
    · split at h
      · unfold parK at h ⊢
        split at h
        · exact q _ _ h
        · exact h.elim
      · exact h.elim
    · exact h.elim
theorem seqK_mono {so : Addr → Option HO} {x : V} {H : Hp} {B B' : List V → (Hp → List V → Prop) → Prop} (q : ∀ xs kp, B xs kp → B' xs kp) (h : seqK so x H B) : seqK so x H B' := by
  unfold seqK at h ⊢
  split at h
  · split at h
    · exact q _ _ h
    · exact q _ _ h
    · exact h.elim
  · exact h.elim
theorem lsqK_mono {so : Addr → Option HO} {x : V} {H : Hp} {B B' : List V → (Hp → List V → Prop) → Prop} (q : ∀ xs kp, B xs kp → B' xs kp) (h : lsqK so x H B) : lsqK so x H B' := by
  unfold lsqK at h ⊢
  split at h
  · split at h
    · exact q _ _ h
    · exact h.elim
  · exact h.elim
theorem ylK_mono {so : Addr → Option HO} {t : Itm} {H : Hp} {B B' : V → Hp → Prop} (q : ∀ x H, B x H → B' x H) (h : ylK so t H B) : ylK so t H B' := by
  cases t with
  | v x => exact q _ _ h
  | p xs => exact fun T h1 h2 => q _ _ (h T h1 h2)
theorem atK_mono {cur : Hp → List Itm → Prop} {n i : Nat} {H : Hp} {B B' : Itm → Prop} (q : ∀ x, B x → B' x) (h : atK cur n i H B) : atK cur n i H B' := by
  obtain ⟨its, it, h1, h2, h3, h4⟩ := h
  exact ⟨its, it, h1, h2, h3, q _ h4⟩
theorem lcL_mono {so : Addr → Option HO} {cur : Hp → List Itm → Prop} {n : Nat} {t : Tg} {tt tt' : TT} {te te' : TE} {D : Addr} {σ : St} {R R' : Hp → Prop} (mt : ∀ σ H Q Q', (∀ b H', Q b H' → Q' b H') → tt σ H Q → tt' σ H Q') (me : ∀ σ H Q Q', (∀ b H', Q b H' → Q' b H') → te σ H Q → te' σ H Q')
    (r : ∀ H, R H → R' H) : ∀ (m : Nat) (H : Hp), lcL so cur n (gT so t) tt te D σ m H R → lcL so cur n (gT so t) tt' te' D σ m H R'
  | 0, H, h => ⟨h.1, r _ h.2⟩
  | m + 1, H, h => atK_mono (fun x z0 => ylK_mono (fun v H1 h1 => gT_mono (fun σ2 H2 h2 => mt _ _ _ _ (fun b H3 h3 => by
      cases b with
      | true => exact me _ _ _ _ (fun y H4 ⟨acc, a1, a2, a3⟩ => ⟨acc, a1, a2, lcL_mono mt me r m _ a3⟩) h3
      | false => exact lcL_mono mt me r m _ h3) h2) h1) z0) h
theorem lcG_mono {so : Addr → Option HO} {cur : Hp → List Itm → Prop} {n : Nat} {t : Tg} {tt tt' : TT} {bd bd' : St → Hp → (Hp → Prop) → Prop} {σ : St} {R R' : Hp → Prop} (mt : ∀ σ H Q Q', (∀ b H', Q b H' → Q' b H') → tt σ H Q → tt' σ H Q') (mb : ∀ σ H Q Q', (∀ H', Q H' → Q' H') → bd σ H Q → bd' σ H Q')
    (r : ∀ H, R H → R' H) : ∀ (m : Nat) (H : Hp), lcG so cur n (gT so t) tt bd σ m H R → lcG so cur n (gT so t) tt' bd' σ m H R'
  | 0, H, h => ⟨h.1, r _ h.2⟩
  | m + 1, H, h => atK_mono (fun x z0 => ylK_mono (fun v H1 h1 => gT_mono (fun σ2 H2 h2 => mt _ _ _ _ (fun b H3 h3 => by
      cases b with
      | true => exact mb _ _ _ _ (fun H4 a3 => lcG_mono mt mb r m _ a3) h3
      | false => exact lcG_mono mt mb r m _ h3) h2) h1) z0) h
theorem dcL_mono {so : Addr → Option HO} {cur : Hp → List Itm → Prop} {n : Nat} {t : Tg} {tt tt' : TT} {tk tk' tv tv' : TE} {D : Addr} {σ : St} {R R' : Hp → Prop} (mt : ∀ σ H Q Q', (∀ b H', Q b H' → Q' b H') → tt σ H Q → tt' σ H Q') (mk : ∀ σ H Q Q', (∀ b H', Q b H' → Q' b H') → tk σ H Q → tk' σ H Q') (mv : ∀ σ H Q Q', (∀ b H', Q b H' → Q' b H') → tv σ H Q → tv' σ H Q')
    (r : ∀ H, R H → R' H) : ∀ (m : Nat) (H : Hp), dcL so cur n (gT so t) tt tk tv D σ m H R → dcL so cur n (gT so t) tt' tk' tv' D σ m H R'
  | 0, H, h => ⟨h.1, r _ h.2⟩
  | m + 1, H, h => atK_mono (fun x z0 => ylK_mono (fun v H1 h1 => gT_mono (fun σ2 H2 h2 => mt _ _ _ _ (fun b H3 h3 => by
      cases b with
      | true => exact mk _ _ _ _ (fun y H4 h4 => mv _ _ _ _ (fun z H5 ⟨kvs, k, a1, a2, a3, a4⟩ => ⟨kvs, k, a1, a2, a3, dcL_mono mt mk mv r m _ a4⟩) h4) h3
      | false => exact dcL_mono mt mk mv r m _ h3) h2) h1) z0) h
section
variable {S : Stat} {F : Sm} (M : SmMono F)
include M
mutual
theorem wE_mo : ∀ (c : Ex) {W W' : WX} (w : ∀ c d σ H, W c d σ H → W' c d σ H) {σ : St} {H : Hp} {Q Q' : VK}, (∀ v H', Q v H' → Q' v H') → wE S F W c σ H Q → wE S F W' c σ H Q'
  | .var i, W, W', w, σ, H, Q, Q', q, h => by
    unfold wE varK at h ⊢
    split at h
    · exact q _ _ h
    · exact h.elim
  | .lit v, W, W', w, σ, H, Q, Q', q, h => by
    unfold wE at h ⊢
    exact q _ _ h
  | .cst x, W, W', w, σ, H, Q, Q', q, h => by
    unfold wE cstK at h ⊢
    split at h
    · exact q _ _ h
    · exact h.elim
  | .op o a b, W, W', w, σ, H, Q, Q', q, h => by
    unfold wE at h ⊢
    exact wE_mo a w (fun x H1 h1 => wE_mo b w (fun y H2 h2 => opV_mono q h2) h1) h
  | .neg a, W, W', w, σ, H, Q, Q', q, h => by
    unfold wE at h ⊢
    refine wE_mo a w (fun x H1 h1 => ?_) h
    first | unfold truK at h1 ⊢ | unfold btK at h1 ⊢ | unfold intK at h1 ⊢
    split at h1
    · exact q _ _ h1
    · exact h1.elim
  | .cmp o a b, W, W', w, σ, H, Q, Q', q, h => by
    unfold wE at h ⊢
    exact wE_mo a w (fun x H1 h1 => wE_mo b w (fun y H2 h2 => cmpV_mono q h2) h1) h
  | .chn o o' a b c, W, W', w, σ, H, Q, Q', q, h => by
    unfold wE at h ⊢
    refine wE_mo a w (fun x H1 h1 => wE_mo b w (fun y H2 h2 => cmpV_mono (boolV_mono fun k H3 h3 => ?_) h2) h1) h
    cases k with
    | true => exact wE_mo c w (fun z H4 h4 => cmpV_mono q h4) h3
    | false => exact q _ _ h3
  | .and a b, W, W', w, σ, H, Q, Q', q, h => by
    unfold wE at h ⊢
    refine wE_mo a w (fun x H1 h1 => ?_) h
    unfold truK at h1 ⊢
    split at h1
    · rename_i k _
      cases k with
      | true => exact wE_mo b w q h1
      | false => exact q _ _ h1
    · exact h1.elim
  | .or a b, W, W', w, σ, H, Q, Q', q, h => by
    unfold wE at h ⊢
    refine wE_mo a w (fun x H1 h1 => ?_) h
    unfold truK at h1 ⊢
    split at h1
    · rename_i k _
      cases k with
      | true => exact q _ _ h1
      | false => exact wE_mo b w q h1
    · exact h1.elim
  | .not a, W, W', w, σ, H, Q, Q', q, h => by
    unfold wE at h ⊢
    refine wE_mo a w (fun x H1 h1 => ?_) h
    first | unfold truK at h1 ⊢ | unfold btK at h1 ⊢ | unfold intK at h1 ⊢
    split at h1
    · exact q _ _ h1
    · exact h1.elim
  | .ite t a b, W, W', w, σ, H, Q, Q', q, h => by
    unfold wE at h ⊢
    refine wT_mo t w (fun k H1 h1 => ?_) h
    cases k with
    | true => exact wE_mo a w q h1
    | false => exact wE_mo b w q h1
  | .fld o f, W, W', w, σ, H, Q, Q', q, h => by
    unfold wE at h ⊢
    exact wE_mo o w (fun x H1 h1 => fldV_mono q h1) h
  | .idx o i, W, W', w, σ, H, Q, Q', q, h => by
    unfold wE at h ⊢
    exact wE_mo o w (fun x H1 h1 => wE_mo i w (fun y H2 h2 => idxV_mono q h2) h1) h
  | .slc o lo hi, W, W', w, σ, H, Q, Q', q, h => by
    unfold wE at h ⊢
    exact wE_mo o w (fun x H1 h1 => wO_mo lo w (fun y H2 h2 => wO_mo hi w (fun z H3 h3 => slcV_mono q h3) h2) h1) h
  | .lst es, W, W', w, σ, H, Q, Q', q, h => by
    unfold wE at h ⊢
    exact wA_mo es w (fun xs H1 h1 => ⟨h1.1, fun p hp hs => q _ _ (h1.2 p hp hs)⟩) h
  | .tup es, W, W', w, σ, H, Q, Q', q, h => by
    unfold wE at h ⊢
    exact wA_mo es w (fun xs H1 h1 => ⟨h1.1, fun p hp hs => q _ _ (h1.2 p hp hs)⟩) h
  | .fn f es, W, W', w, σ, H, Q, Q', q, h => by
    unfold wE at h ⊢
    exact wA_mo es w (fun xs H1 h1 => M f xs H1 Q Q' _ _ q (fun c d H' z => w c d σ H' z) h1) h
  | .bi b es, W, W', w, σ, H, Q, Q', q, h => by
    unfold wE at h ⊢
    exact wA_mo es w (fun xs H1 h1 => biV_mono q h1) h
  | .isi e T, W, W', w, σ, H, Q, Q', q, h => by
    unfold wE at h ⊢
    refine wE_mo e w (fun x H1 h1 => ?_) h
    first | unfold truK at h1 ⊢ | unfold btK at h1 ⊢ | unfold intK at h1 ⊢
    split at h1
    · exact q _ _ h1
    · exact h1.elim
  | .isx e c, W, W', w, σ, H, Q, Q', q, h => by
    unfold wE at h ⊢
    exact wE_mo e w (fun x H1 h1 => isxK_mono (fun b z => q _ _ z) h1) h
  | .mkx c es, W, W', w, σ, H, Q, Q', q, h => by
    unfold wE at h ⊢
    exact wA_mo es w (fun xs H1 h1 => mkxV_mono q h1) h
  | .dct0, W, W', w, σ, H, Q, Q', q, h => by
    unfold wE at h ⊢
    exact fun p h1 h2 => q _ _ (h p h1 h2)
  | .met o m es, W, W', w, σ, H, Q, Q', q, h => by
    unfold wE at h ⊢
    exact wE_mo o w (fun x H1 h1 => metK_mono (fun g z => wA_mo es w (fun vs H2 h2 => M g _ H2 Q Q' _ _ q (fun c d H' z => w c d σ H' z) h2) z) h1) h
  | .bm m o es, W, W', w, σ, H, Q, Q', q, h => by
    unfold wE at h ⊢
    exact wE_mo o w (fun x H1 h1 => ⟨h1.1, wA_mo es w (fun vs H2 h2 => bmV_mono q h2) h1.2⟩) h
  | .mkC c ks es, W, W', w, σ, H, Q, Q', q, h => by
    unfold wE at h ⊢
    exact wA_mo es w (fun vs H1 h1 => mkK_mono M q (fun c d H' z => w c d σ H' z) h1) h
  | .lc t s c e vs, W, W', w, σ, H, Q, Q', q, h => by
    unfold wE at h ⊢
    exact wI_mo s w (fun xs kp H1 h1 D hD sD => lcL_mono (tt := wT S F never c) (te := wE S F never e) (tt' := wT S F never c) (te' := wE S F never e) (fun _ _ _ _ q z => wT_mo c (fun _ _ _ _ z => z) q z) (fun _ _ _ _ q z => wE_mo e (fun _ _ _ _ z => z) q z) (fun H' z => q (.ref D) H' z) xs _ (h1 D hD sD)) h
  | .lc2 t s c t1 s1 c1 e vs vs1, W, W', w, σ, H, Q, Q', q, h => by
    unfold wE at h ⊢
    exact wI_mo s w (fun xs kp H1 h1 D hD sD => lcG_mono (tt := wT S F never c) (tt' := wT S F never c) (fun _ _ _ _ q z => wT_mo c (fun _ _ _ _ z => z) q z)
      (fun σ H Q Q' q z => wI_mo s1 (fun _ _ _ _ z => z) (fun ys kq H4 h4 => lcL_mono (tt := wT S F never c1) (te := wE S F never e) (tt' := wT S F never c1) (te' := wE S F never e) (fun _ _ _ _ q z => wT_mo c1 (fun _ _ _ _ z => z) q z) (fun _ _ _ _ q z => wE_mo e (fun _ _ _ _ z => z) q z) q ys _ h4) z)
      (fun H' z => q (.ref D) H' z) xs _ (h1 D hD sD)) h
  | .nev, W, W', w, σ, H, Q, Q', q, h => by
    unfold wE at h
    exact h.elim
  | .dsp ps, W, W', w, σ, H, Q, Q', q, h => by
    unfold wE at h ⊢
    exact fun p h1 h2 => wP_mo ps w (fun qs H2 ⟨a1, kvs, a2, a3, a4⟩ => ⟨a1, kvs, a2, a3, q _ _ a4⟩) (h p h1 h2)
  | .dc t s c k v vs, W, W', w, σ, H, Q, Q', q, h => by
    unfold wE at h ⊢
    exact wI_mo s w (fun xs kp H1 h1 D hD sD => dcL_mono (tt := wT S F never c) (tk := wE S F never k) (tv := wE S F never v) (tt' := wT S F never c) (tk' := wE S F never k) (tv' := wE S F never v) (fun _ _ _ _ q z => wT_mo c (fun _ _ _ _ z => z) q z) (fun _ _ _ _ q z => wE_mo k (fun _ _ _ _ z => z) q z) (fun _ _ _ _ q z => wE_mo v (fun _ _ _ _ z => z) q z) (fun H' z => q (.ref D) H' z) xs _ (h1 D hD sD)) h
  | .isi2 e T U, W, W', w, σ, H, Q, Q', q, h => by
    unfold wE at h ⊢
    exact wE_mo e w (fun x H1 h1 p hp hs => bt2K_mono (fun b z => q _ _ z) (h1 p hp hs)) h
  | .lrg lo hi, W, W', w, σ, H, Q, Q', q, h => by
    unfold wE at h ⊢
    refine wE_mo lo w (fun x H1 h1 => wE_mo hi w (fun y H2 h2 => ?_) h1) h
    unfold intK at h2 ⊢
    split at h2
    · split at h2
      · exact ⟨h2.1, fun p hp hs => q _ _ (h2.2 p hp hs)⟩
      · exact h2.elim
    · exact h2.elim
  | .gin neg x e, W, W', w, σ, H, Q, Q', q, h => by
    unfold wE at h ⊢
    exact wE_mo e w (fun y H1 h1 => gdK_mono (fun o z => q _ _ z) h1) h
  | .gix x e, W, W', w, σ, H, Q, Q', q, h => by
    unfold wE at h ⊢
    refine wE_mo e w (fun y H1 h1 => gdK_mono (fun o z => ?_) h1) h
    cases o with
    | some v => exact q _ _ z
    | none => exact z.elim
theorem wP_mo : ∀ (c : Prs) {W W' : WX} (w : ∀ c d σ H, W c d σ H → W' c d σ H) {σ : St} {H : Hp} {Q Q' : List (V × V) → Hp → Prop}, (∀ v H', Q v H' → Q' v H') → wP S F W c σ H Q → wP S F W' c σ H Q'
  | .nil, W, W', w, σ, H, Q, Q', q, h => by
    unfold wP at h ⊢
    exact q _ _ h
  | .cons k v r, W, W', w, σ, H, Q, Q', q, h => by
    unfold wP at h ⊢
    exact wE_mo k w (fun x H1 h1 => wE_mo v w (fun y H2 h2 => wP_mo r w (fun ps H3 h3 => q _ _ h3) h2) h1) h
theorem wI_mo : ∀ (c : Sr) {W W' : WX} (w : ∀ c d σ H, W c d σ H → W' c d σ H) {σ : St} {H : Hp} {B B' : Nat → (Hp → List Itm → Prop) → Hp → Prop}, (∀ xs kp H', B xs kp H' → B' xs kp H') → wI S F W c σ H B → wI S F W' c σ H B'
  | .rng lo hi, W, W', w, σ, H, B, B', q, h => by
    unfold wI at h ⊢
    refine wE_mo lo w (fun x H1 h1 => wE_mo hi w (fun y H2 h2 => ?_) h1) h
    unfold intK at h2 ⊢
    split at h2
    · split at h2
      · exact q _ _ _ h2
      · exact h2.elim
    · exact h2.elim
  | .val e, W, W', w, σ, H, B, B', q, h => by
    unfold wI at h ⊢
    exact wE_mo e w (fun x H1 h1 => seqK_mono (fun xs kp z => q _ _ _ z) h1) h
  | .enm e, W, W', w, σ, H, B, B', q, h => by
    unfold wI at h ⊢
    exact wE_mo e w (fun x H1 h1 => lsqK_mono (fun xs kp z => q _ _ _ z) h1) h
  | .zip a b, W, W', w, σ, H, B, B', q, h => by
    unfold wI at h ⊢
    exact wE_mo a w (fun x H1 h1 => wE_mo b w (fun y H2 h2 => lsqK_mono (fun xs kp z => lsqK_mono (fun ys kq z2 => q _ _ _ z2) z) h2) h1) h
  | .zst a b, W, W', w, σ, H, B, B', q, h => by
    unfold wI at h ⊢
    refine wE_mo a w (fun x H1 h1 => wE_mo b w (fun y H2 h2 => ?_) h1) h
    unfold zstK at h2 ⊢
    split at h2
    · split at h2
      · exact ⟨h2.1, h2.2.1, q _ _ _ h2.2.2⟩
      · exact h2.elim
    · exact h2.elim
theorem wA_mo : ∀ (c : Exs) {W W' : WX} (w : ∀ c d σ H, W c d σ H → W' c d σ H) {σ : St} {H : Hp} {Q Q' : List V → Hp → Prop}, (∀ v H', Q v H' → Q' v H') → wA S F W c σ H Q → wA S F W' c σ H Q'
  | .nil, W, W', w, σ, H, Q, Q', q, h => by
    unfold wA at h ⊢
    exact q _ _ h
  | .cons e es, W, W', w, σ, H, Q, Q', q, h => by
    unfold wA at h ⊢
    exact wE_mo e w (fun x H1 h1 => wA_mo es w (fun xs H2 h2 => q _ _ h2) h1) h
theorem wO_mo : ∀ (c : Ox) {W W' : WX} (w : ∀ c d σ H, W c d σ H → W' c d σ H) {σ : St} {H : Hp} {Q Q' : Option Int → Hp → Prop}, (∀ v H', Q v H' → Q' v H') → wO S F W c σ H Q → wO S F W' c σ H Q'
  | .none, W, W', w, σ, H, Q, Q', q, h => by
    unfold wO at h ⊢
    exact q _ _ h
  | .some e, W, W', w, σ, H, Q, Q', q, h => by
    unfold wO at h ⊢
    refine wE_mo e w (fun x H1 h1 => ?_) h
    first | unfold truK at h1 ⊢ | unfold btK at h1 ⊢ | unfold intK at h1 ⊢
    split at h1
    · exact q _ _ h1
    · exact h1.elim
theorem wT_mo : ∀ (c : Te) {W W' : WX} (w : ∀ c d σ H, W c d σ H → W' c d σ H) {σ : St} {H : Hp} {Q Q' : Bool → Hp → Prop}, (∀ v H', Q v H' → Q' v H') → wT S F W c σ H Q → wT S F W' c σ H Q'
  | .val e, W, W', w, σ, H, Q, Q', q, h => by
    unfold wT at h ⊢
    refine wE_mo e w (fun x H1 h1 => ?_) h
    first | unfold truK at h1 ⊢ | unfold btK at h1 ⊢ | unfold intK at h1 ⊢
    split at h1
    · exact q _ _ h1
    · exact h1.elim
  | .cmp o a b, W, W', w, σ, H, Q, Q', q, h => by
    unfold wT at h ⊢
    exact wE_mo a w (fun x H1 h1 => wE_mo b w (fun y H2 h2 => cmpV_mono (boolV_mono q) h2) h1) h
  | .chn o o' a b c, W, W', w, σ, H, Q, Q', q, h => by
    unfold wT at h ⊢
    refine wE_mo a w (fun x H1 h1 => wE_mo b w (fun y H2 h2 => cmpV_mono (boolV_mono fun k H3 h3 => ?_) h2) h1) h
    cases k with
    | true => exact wE_mo c w (fun z H4 h4 => cmpV_mono (boolV_mono q) h4) h3
    | false => exact q _ _ h3
  | .and a b, W, W', w, σ, H, Q, Q', q, h => by
    unfold wT at h ⊢
    refine wT_mo a w (fun k H1 h1 => ?_) h
    cases k with
    | true => exact wT_mo b w q h1
    | false => exact q _ _ h1
  | .or a b, W, W', w, σ, H, Q, Q', q, h => by
    unfold wT at h ⊢
    refine wT_mo a w (fun k H1 h1 => ?_) h
    cases k with
    | true => exact q _ _ h1
    | false => exact wT_mo b w q h1
  | .not a, W, W', w, σ, H, Q, Q', q, h => by
    unfold wT at h ⊢
    exact wT_mo a w (fun k H1 h1 => q _ _ h1) h
  | .yes, W, W', w, σ, H, Q, Q', q, h => by
    unfold wT at h ⊢
    exact q _ _ h
  | .gin neg x e, W, W', w, σ, H, Q, Q', q, h => by
    unfold wT at h ⊢
    exact wE_mo e w (fun y H1 h1 => gdK_mono (fun o z => q _ _ z) h1) h
end
end
section
variable {S : Stat} {F : Sm} {W W' : WX} (M : SmMono F) (w : ∀ c d σ H, W c d σ H → W' c d σ H)
include M w
theorem wE_mono2 (c : Ex) {σ : St} {H : Hp} {Q Q' : VK} (q : ∀ v H', Q v H' → Q' v H') (h : wE S F W c σ H Q) : wE S F W' c σ H Q' := wE_mo M c w q h
theorem wA_mono2 (c : Exs) {σ : St} {H : Hp} {Q Q' : List V → Hp → Prop} (q : ∀ v H', Q v H' → Q' v H') (h : wA S F W c σ H Q) : wA S F W' c σ H Q' := wA_mo M c w q h
theorem wT_mono2 (c : Te) {σ : St} {H : Hp} {Q Q' : Bool → Hp → Prop} (q : ∀ v H', Q v H' → Q' v H') (h : wT S F W c σ H Q) : wT S F W' c σ H Q' := wT_mo M c w q h
theorem wO_mono2 (c : Ox) {σ : St} {H : Hp} {Q Q' : Option Int → Hp → Prop} (q : ∀ v H', Q v H' → Q' v H') (h : wO S F W c σ H Q) : wO S F W' c σ H Q' := wO_mo M c w q h
theorem wI_mono2 (c : Sr) {σ : St} {H : Hp} {B B' : Nat → (Hp → List Itm → Prop) → Hp → Prop} (q : ∀ xs kp H', B xs kp H' → B' xs kp H') (h : wI S F W c σ H B) : wI S F W' c σ H B' := wI_mo M c w q h
end
section
variable {S : Stat} {F : Sm} {W : WX} (M : SmMono F)
include M
theorem wI_mono (c : Sr) {σ : St} {H : Hp} {B B' : Nat → (Hp → List Itm → Prop) → Hp → Prop} (q : ∀ xs kp H', B xs kp H' → B' xs kp H') (h : wI S F W c σ H B) : wI S F W c σ H B' := wI_mono2 M (fun _ _ _ _ z => z) c q h
theorem wE_mono (c : Ex) {σ : St} {H : Hp} {Q Q' : VK} (q : ∀ v H', Q v H' → Q' v H') (h : wE S F W c σ H Q) : wE S F W c σ H Q' := wE_mono2 M (fun _ _ _ _ z => z) c q h
theorem wP_mono (c : Prs) {σ : St} {H : Hp} {Q Q' : List (V × V) → Hp → Prop} (q : ∀ v H', Q v H' → Q' v H') (h : wP S F W c σ H Q) : wP S F W c σ H Q' := wP_mo M c (fun _ _ _ _ z => z) q h
theorem wA_mono (c : Exs) {σ : St} {H : Hp} {Q Q' : List V → Hp → Prop} (q : ∀ v H', Q v H' → Q' v H') (h : wA S F W c σ H Q) : wA S F W c σ H Q' := wA_mono2 M (fun _ _ _ _ z => z) c q h
theorem wT_mono (c : Te) {σ : St} {H : Hp} {Q Q' : Bool → Hp → Prop} (q : ∀ v H', Q v H' → Q' v H') (h : wT S F W c σ H Q) : wT S F W c σ H Q' := wT_mono2 M (fun _ _ _ _ z => z) c q h
end
end QL
set_option Elab.async false
set_option linter.all false
set_option maxRecDepth 100000
set_option maxHeartbeats 4000000
/-! Q7: the turned expressions keep what is asked. -/
namespace QL
open PySem PySem.Spec L2
open PyProof.Rows hiding St
section
variable {X : Cx} {S : Stat} {F : Sm} {k : Nat} {C : CI} {W : WX}
theorem bltn_bt {T : Bt} {pos : Pos} (hg : Gl X (btN T)) (hm : X.mg (btN T) = none) : PE X (.Name (btN T) pos) (tC (.ty (btS T))) := by
  cases T <;> exact pe_bltn (u := .type _) hg hm (by decide +kernel) rfl (by decide) (by decide)
theorem kit_non (T : Bt) : kitB "NoneType" (btS T) = some false := by cases T <;> decide +kernel
theorem kit_bl (T : Bt) : kitB "bool" (btS T) = some (tBl T) := by cases T <;> decide +kernel
theorem kit_int (T : Bt) : kitB "int" (btS T) = some (tInt T) := by cases T <;> decide +kernel
theorem kit_str (T : Bt) : kitB "str" (btS T) = some (tStr T) := by cases T <;> decide +kernel
theorem kit_list (T : Bt) : kitB "list" (btS T) = some (tList T) := by cases T <;> decide +kernel
theorem kit_tuple (T : Bt) : kitB "tuple" (btS T) = some (tTuple T) := by cases T <;> decide +kernel
theorem kit_dict (T : Bt) : kitB "dict" (btS T) = some false := by cases T <;> decide +kernel
theorem ty_l {K : PySem.W.Frag} {so : Addr → Option HO} (S0 : SoOk K so) {H : Hp} {p : Addr} {xs : List V} (h : rd so H p = some (.lst xs)) : TyX K H (.ref p) (.type "list") := by
  unfold rd at h
  split at h
  · rename_i o u e
    cases h
    exact .base (.frz e)
  · rename_i e
    cases h
    exact .base (.lst e)
  · obtain ⟨its, n, q1, _⟩ := S0 p _ h
    exact .kList q1 rfl
theorem ty_t {K : PySem.W.Frag} {so : Addr → Option HO} (S0 : SoOk K so) {H : Hp} {p : Addr} {xs : List V} (h : rd so H p = some (.tup xs)) : TyX K H (.ref p) (.type "tuple") := by
  unfold rd at h
  split at h
  · rename_i o u e
    cases h
    exact .fTuple e
  · rename_i e
    cases h
    exact .base (.tup e)
  · obtain ⟨o, its, n, q1, q2, _⟩ := S0 p _ h
    exact .kTuple q1 q2
theorem btV_all {K : PySem.W.Frag} {so : Addr → Option HO} (S0 : SoOk K so) {H : Hp} {T0 : Bt} {x : V} {b0 : Bool} (h0 : btV so H T0 x = some b0) : ∃ t, TyX K H x t ∧ ∀ T b, btV so H T x = some b → PySem.W.kitOne K t (.type (btS T)) = some b := by
  cases x with
  | non => exact ⟨_, .base .non, fun T b h => by cases h; exact kit_ty (kit_non T)⟩
  | bl y => exact ⟨_, .base (.bl y), fun T b h => by cases h; exact kit_ty (kit_bl T)⟩
  | int y => exact ⟨_, .base (.int y), fun T b h => by cases h; exact kit_ty (kit_int T)⟩
  | str y => exact ⟨_, .base (.str y), fun T b h => by cases h; exact kit_ty (kit_str T)⟩
  | ref p =>
    unfold btV at h0
    simp only at h0
    split at h0
    · rename_i e
      refine ⟨_, ty_l S0 e, fun T b h => ?_⟩
      unfold btV at h
      simp only [e] at h
      cases h
      exact kit_ty (kit_list T)
    · rename_i e
      refine ⟨_, ty_t S0 e, fun T b h => ?_⟩
      unfold btV at h
      simp only [e] at h
      cases h
      exact kit_ty (kit_tuple T)
    · rename_i e
      split at h0
      · rename_i e1
        refine ⟨_, .base (.dK e1), fun T b h => ?_⟩
        unfold btV at h
        simp only [e, e1] at h
        cases h
        exact kit_ty (kit_dict T)
      · cases h0
    · cases h0
  | _ => cases h0
theorem btV_ok {K : PySem.W.Frag} {so : Addr → Option HO} (S0 : SoOk K so) {H : Hp} {T : Bt} {x : V} {b : Bool} (h : btV so H T x = some b) : ∃ t, TyX K H x t ∧ PySem.W.kitOne K t (.type (btS T)) = some b := by
  obtain ⟨t, h1, h2⟩ := btV_all S0 h
  exact ⟨t, h1, h2 T b h⟩
theorem btV_ok2 {K : PySem.W.Frag} {so : Addr → Option HO} (S0 : SoOk K so) {H : Hp} {T U : Bt} {x : V} {b c : Bool} (h : btV so H T x = some b) (h' : btV so H U x = some c) : ∃ t, TyX K H x t ∧ PySem.W.kitAny K t [.type (btS T), .type (btS U)] = some (b || c) := by
  obtain ⟨t, h1, h2⟩ := btV_all S0 h
  refine ⟨t, h1, ?_⟩
  have k1 := h2 T b h
  have k2 := h2 U c h'
  unfold PySem.W.kitAny
  rw [k1]
  cases b with
  | true => rfl
  | false =>
    simp only
    unfold PySem.W.kitAny
    rw [k2]
    cases c <;> rfl
theorem pw_of {op : BoolOp} {vs : List Expr} {pos : Pos} {t : TT} (h : PT X (.BoolOp op vs pos) t) : PW X (.BoolOp op vs pos) t := ⟨fun wh pins s σ H Q I z => h.run pins s σ H Q I z⟩
theorem base_ok {e : Expr} {f : Str} {env : Env} {w : Sem Value} (h : plainBase e = true) : attributeBase e f env w = w := by
  unfold attributeBase
  split
  · unfold plainBase at h
    simp at h
  · rfl
theorem slice_ok {e : Expr} (h : notSlice e = true) : PlainIx e := by
  intro o i
  cases e <;> first | rfl | cases h
theorem test_ok {e : Expr} {env : Env} (h : plainTest e = true) : ∀ whole, isTrue e env whole = (do let v ← whole; standAt e.pos; holding [v] (truthy v)) := by
  intro whole
  cases e with
  | UnaryOp op a p => cases op <;> first | rfl | cases h
  | BoolOp op a p => cases h
  | IfExp a b c p => cases h
  | Compare a b c p => cases h
  | _ => rfl
theorem marks_ok {o : CmpOp} {e : Expr} (h : behindOk o e = true) : behindInMarks o e = false := by
  unfold behindOk at h
  simpa using h
theorem last_ok {o o' : CmpOp} {e e' : Expr} (h : behindOk o' e' = true) : lastMarks [o, o'] [e, e'] = false := marks_ok h
theorem map_some {α β : Type} {x : Option α} {f : α → β} {c : β} (h : x.map f = some c) : ∃ a, x = some a ∧ c = f a := by
  cases x with
  | none => cases h
  | some a => cases h; exact ⟨a, rfl, rfl⟩
theorem if_some {α : Type} {b : Bool} {x : Option α} {c : α} (h : iff' b x = some c) : b = true ∧ x = some c := by
  cases b with
  | true => exact ⟨rfl, h⟩
  | false => cases h
theorem two_some {α β γ : Type} {x : Option α} {y : Option β} {f : α → β → γ} {c : γ} (h : two x y f = some c) : ∃ a b, x = some a ∧ y = some b ∧ c = f a b := by
  cases x with
  | none => cases h
  | some a =>
    cases y with
    | none => cases h
    | some b => cases h; exact ⟨a, b, rfl, rfl, rfl⟩
theorem tri_some {α β γ δ : Type} {x : Option α} {y : Option β} {z : Option γ} {f : α → β → γ → δ} {c : δ} (h : tri x y z f = some c) : ∃ a b d, x = some a ∧ y = some b ∧ z = some d ∧ c = f a b d := by
  cases x with
  | none => cases h
  | some a =>
    cases y with
    | none => cases h
    | some b =>
      cases z with
      | none => cases h
      | some d => cases h; exact ⟨a, b, d, rfl, rfl, rfl, rfl⟩
theorem boolV_ex {B : Bool → Hp → Prop} {v : V} {H : Hp} (h : boolV B v H) : ∃ k, v = .bl k ∧ B k H := by
  unfold boolV at h
  split at h
  · exact ⟨_, rfl, h⟩
  · exact h.elim
theorem tru_ex {K : PySem.W.Frag} {so : Addr → Option HO} (S : SoOk K so) {H : Hp} {x : V} {B : Bool → Prop} (h : truK so x H B) : ∃ k, TruV K x H k ∧ B k := by
  unfold truK at h
  split at h
  · rename_i k e
    exact ⟨k, truV_ok S e, h⟩
  · exact h.elim
variable (O : OkE X S F k C W) (M : SmMono F)
include O M
omit O M in
/-- a class's name -/
theorem cls_pe {x : Str} {u : Value} {p : Pos} (c : ClsN X.mg x u) (hg : Gl X x) : ∃ cv, ClsV cv u ∧ PE X (.Name x p) (tC cv) := by
  obtain ⟨hd, ⟨⟨C', rfl⟩, hm⟩ | ⟨⟨T, rfl⟩, hm, hv, hn⟩⟩ := c
  · exact ⟨.ref C', .own C', pe_glob hg hm rfl hd⟩
  · exact ⟨.ty T, .ty T, pe_bltn hg hm hv rfl hn hd⟩
theorem isx_ok {a : Expr} {e' : Ex} {c : Str} {p pT pos : Pos} (hg : isG C "isinstance" = true) (hm : X.mg "isinstance" = none) (hT : Gl X c) (k : C.gl c = .xcl ∨ C.gl c = .ocl ∨ C.gl c = .bxc) (he : PE X a (wE S F W e')) (st : notStar a = true) :
    PE X (.Call (.Name "isinstance" p) [a, .Name c pT] [] pos) (wE S F W (.isx e' c)) := by
  obtain ⟨u, hu⟩ := O.G.cls c k
  obtain ⟨cv, hcv, hp⟩ := cls_pe (p := pT) hu hT
  refine PE.imp (pe_callB (CallR.or call_isx call_isi) (O.gl hg) hm (by decide +kernel) (pa_cons he (pa_cons hp pa_nil) (star_one st)) (by decide) (by decide) (star_one st) rfl) fun σ H Q z => ?_
  unfold wE at z
  refine wE_mono M e' (fun x H1 z1 => ?_) z
  have flat : ∀ {t : String}, TyX X.K H1 x (.type t) → S.isb c = true → t ∈ bTs → Q (.bl false) H1 → (rIsi X.K) [x, cv] H1 Q := fun {t} ty hb hm q => ⟨x, cv, .type t, u, false, rfl, hcv, ty, O.G.isb c hb u hu t hm, q⟩
  unfold isxK at z1
  cases x with
  | non => exact .inr (flat (.base .non) z1.1 (by decide) z1.2)
  | bl b => exact .inr (flat (.base (.bl b)) z1.1 (by decide) z1.2)
  | int b => exact .inr (flat (.base (.int b)) z1.1 (by decide) z1.2)
  | str b => exact .inr (flat (.base (.str b)) z1.1 (by decide) z1.2)
  | ref q =>
    simp only at z1
    split at z1
    · obtain ⟨D, fs, b, h1, h2, h3⟩ := z1
      obtain ⟨T, hk⟩ := O.G.isa D c b h2
      exact .inl ⟨q, D, fs, cv, u, b, rfl, h1, T, fun w hw => hcv.eq hw, (hk u hu).1, h3⟩
    · rename_i D dx fs ea
      obtain ⟨b, h1, h2⟩ := z1
      obtain ⟨T, hk⟩ := O.G.iso D c b h1
      exact .inr ⟨_, cv, .ref D, u, b, rfl, hcv, .base (.ins ea T.cl T.ca T.cg T.ct T.mo), hk u hu, h2⟩
    · rename_i ea
      exact .inr (flat (.base (.dK ea)) z1.1 (by decide) z1.2)
    · split at z1
      · rename_i ea
        exact .inr (flat (ty_l O.G.so ea) z1.1 (by decide) z1.2)
      · rename_i ea
        exact .inr (flat (ty_t O.G.so ea) z1.1 (by decide) z1.2)
      · exact z1.elim
  | _ => exact z1.elim
omit M in
theorem mkx_nok {x : Str} {vs : List V} {H : Hp} {Q : VK} {D : Addr} {f : Option Str} (e : S.xc x = some (D, f)) (h : mkxV S x vs H Q) : mkxH H D f vs (fun v H' => NoK S.so H' → Q v H') := by
  unfold mkxV at h
  rw [e] at h
  unfold mkxH
  cases f with
  | some g =>
    simp only at h
    split at h
    · intro a d h1 h2 h3 nk
      have nd : S.so d = none := by
        cases q : S.so d with
        | none => rfl
        | some o =>
          have := nk d (by rw [q]; simp)
          rw [upd_ne h3, upd_same] at this
          cases this
      exact h a d h1 h2 h3 (nok_upd nk) nd
    · exact h.elim
  | none =>
    simp only at h
    obtain ⟨rfl, h⟩ := h
    exact fun a h1 nk => h a h1 (nok_upd nk)
theorem xc_some {x : Str} {vs : List V} {H : Hp} {Q : VK} (h : mkxV S x vs H Q) : ∃ D f, S.xc x = some (D, f) := by
  unfold mkxV at h
  split at h
  · exact ⟨_, _, by assumption⟩
  · exact ⟨_, _, by assumption⟩
  · exact h.elim
theorem mkx_ok {x : Str} {p pos : Pos} {a : Expr} {as : List Expr} {es : Exs} (hg : Gl X x) (e : C.gl x = .xcl) (PAs : PA X (a :: as) (wA S F W es)) (s1 : starEach (a :: as) X.env = (false, eval a X.env) :: starEach as X.env) (s2 : (backTo pos (starEach as X.env)).any (·.1) = false) :
    PE X (.Call (.Name x p) (a :: as) [] pos) (wE S F W (.mkx x es)) := by
  refine ⟨fun pins s σ H Q I z => ?_⟩
  unfold wE at z
  obtain ⟨D, hdb, hm, hk⟩ := O.G.own x (.inl e)
  refine wpAny_Call_Name_kw (ld_glob I hg hm ?_ hdb)
  refine PySem.W.callWith_K (h₀ := X.base) I.ok.mod.kin hk (thn (PAs.run pos pins s σ H _ I z) fun us s1 ⟨vs, H1, I1, r1, q1⟩ => ⟨I1.kIn, ?_⟩) s1 s2
  obtain ⟨D', f, ex⟩ := xc_some O M q1
  have T := O.G.xc x D' f e ex
  have eD := T.at_
  rw [hm] at eD
  cases eD
  exact thn (mkx_call T (O.rm.mono (by omega)) O.gd I1 r1 (mkx_nok O ex q1)) fun u s2 ⟨v, H2, I2, rv, q2⟩ => ⟨v, H2, I2, rv, q2 (nok_of O.G.so I2)⟩
theorem mkx0_ok {x : Str} {p pos : Pos} (hg : Gl X x) (e : C.gl x = .xcl) : PE X (.Call (.Name x p) [] [] pos) (wE S F W (.mkx x .nil)) := by
  refine ⟨fun pins s σ H Q I z => ?_⟩
  unfold wE wA at z
  obtain ⟨D, hdb, hm, hk⟩ := O.G.own x (.inl e)
  refine wpAny_Call_Name_kw (ld_glob I hg hm ?_ hdb)
  obtain ⟨D', f, ex⟩ := xc_some O M z
  have T := O.G.xc x D' f e ex
  have eD := T.at_
  rw [hm] at eD
  cases eD
  exact PySem.W.callWith_K0 I.kIn hk (thn (mkx_call (us := []) T (O.rm.mono (by omega)) O.gd I .nil (mkx_nok O ex z)) fun u s2 ⟨v, H2, I2, rv, q2⟩ => ⟨v, H2, I2, rv, q2 (nok_of O.G.so I2)⟩)
/-- a new instance, by its values -/
theorem mk_run {x : Str} {n : Nat} {ks : List Str} {D : Addr} {pins : List (Addr × Obj)} {σ : St} {H : Hp} {s : Shared} {vs : List V} {us : List Value} {Q : VK} (e : C.gl x = .ocl) (hm : X.mg x = some (.ref D)) (I : Inv X pins σ H s) (r : Vals vs us) (hn : vs.length = n) (h : mkK S F x ks vs H Q (fun c d H' => W c d σ H')) :
    wpAny (model X.prog X.w) X.A (call (.ref D) (us.take (n - ks.length)) (ks.zip (us.drop (n - ks.length)))) (EP X pins σ Q) X.xe s := by
  unfold mkK at h
  rw [hn] at h
  split at h
  · rename_i D' g pm ex
    split at h
    · rename_i ws ew
      obtain ⟨hdb, hm', f, fd, ps, Mk1, Fn, hb⟩ := O.G.mkc x n ks D' g pm e ex
      rw [hm] at hm'
      cases hm'
      obtain ⟨full, rf, hbb⟩ := hb vs ws us r hn ew
      exact make_g Mk1 Fn O.gd O.rm O.tk I (fun s a K => hbb s a K) rf fun y dx h1 h2 h3 l1 l2 => h y dx h1 h2 h3 (so_none O.G.so l1) (so_none O.G.so l2)
    · exact h.elim
  · exact h.elim
theorem mkC_ok {x : Str} {p pos : Pos} {a : Expr} {as : List Expr} {es : Exs} (hg : Gl X x) (e : C.gl x = .ocl) (PAs : PA X (a :: as) (wA S F W es)) (s1 : starEach (a :: as) X.env = (false, eval a X.env) :: starEach as X.env) (s2 : (backTo pos (starEach as X.env)).any (·.1) = false) :
    PE X (.Call (.Name x p) (a :: as) [] pos) (wE S F W (.mkC x [] es)) := by
  refine ⟨fun pins s σ H Q I z => ?_⟩
  unfold wE at z
  obtain ⟨D, hdb, hm, hk⟩ := O.G.own x (.inr e)
  refine wpAny_Call_Name_kw (ld_glob I hg hm ?_ hdb)
  refine PySem.W.callWith_K (h₀ := X.base) I.ok.mod.kin hk (thn (PAs.run pos pins s σ H _ I z) fun us s1 ⟨vs, H1, I1, r1, q1⟩ => ⟨I1.kIn, ?_⟩) s1 s2
  have q := mk_run O M e hm I1 r1 rfl q1
  simp only [List.length_nil, Nat.sub_zero, r1.length, List.take_length, List.drop_length, List.zip_nil_right] at q
  exact q
omit O M in
/-- a method's call, plainly -/
theorem meth_eval {o : Expr} {name : Str} {apos pos : Pos} {args : List Expr} {env : Env} (hb : plainBase o = true) (hs : ∀ e ∈ args, notStar e = true) (hf : args.length < 20) (hl : (apos.endLine == pos.line) = true) :
    eval (.Call (.Attribute o name apos) args [] pos) env = (do
      let ov ← eval o env
      standAt apos.atName
      let (f, first) ← holding [ov] (getMethod ov name (do return (← importBound o env).getD true))
      callWith pos f first (backTo pos (starEach args env)) (backToKw pos (keywordEach [] env))) := by
  rw [arm_eval_Call, base_ok hb]
  have hform : methodCallForm (args.length + ([] : List Keyword).length) (backTo pos (starEach args env)) (backToKw pos (keywordEach [] env)) = true := by
    have h1 := star_no (env := env) (pos := pos) hs
    have h2 : (backTo pos (starEach args env)).all (fun x => !x.1) = true := by
      rw [List.all_eq_true]
      intro x hx
      rw [List.any_eq_false] at h1
      simpa using h1 x hx
    unfold methodCallForm
    rw [h2]
    show (true && true && decide (args.length + 0 + (if ([] : List (Option Str × Sem Value)).isEmpty then 0 else 1) < 30)) = true
    simp
    omega
  unfold methodCall
  rw [hform]
  unfold calleeOf methodCallPos
  simp only [hl, Bool.not_true, Bool.false_or, if_true]
  rfl
omit O M in
theorem nmOf_eq {e : Expr} {x : Str × Pos} (h : nmOf e = some x) : e = .Name x.1 x.2 := by
  cases e <;> cases h
  rfl
omit O M in
theorem rngOf_eq {C : CI} {e : Expr} {as : List Expr} (h : rngOf C e = some as) : ∃ x p q, e = .Call (.Name x p) as [] q ∧ isRange C x = true := by
  cases e with
  | Call f bs ks q =>
    obtain ⟨h1, h2⟩ := if_some h
    cases h2
    split at h1
    · rename_i x e
      rw [nmOf_eq e]
      exact ⟨_, _, _, rfl, h1⟩
    · cases h1
  | _ => cases h
omit O M in
theorem rng_name {X : Cx} {S : Stat} {F : Sm} {k : Nat} {C : CI} {W : WX} (O : OkE X S F k C W) {x : Str} (h : isRange C x = true) : x = "range" ∧ Gl X "range" ∧ X.mg "range" = none := by
  unfold isRange at h
  simp only [Bool.and_eq_true, beq_iff_eq] at h
  obtain ⟨⟨rfl, h2⟩, h3⟩ := h
  exact ⟨rfl, O.gl h2, O.G.rng h3⟩
omit O M in
theorem nev_ok {e : Expr} : PE X e (wE S F W .nev) := ⟨fun pins s σ H Q I z => by
  unfold wE at z
  exact z.elim⟩
theorem lrg_ok {n : Nat} (ih : ∀ e c, cE C n e = some c → PE X e (wE S F W c)) {p pos : Pos} {as : List Expr} {c : Ex} (hg : Gl X "list") (hm : X.mg "list" = none) (h : cLrg C (cE C n) as = some c) : PE X (.Call (.Name "list" p) as [] pos) (wE S F W c) := by
  match as, h with
  | [e], h =>
    obtain ⟨bs, h1, h⟩ := bind_some h
    obtain ⟨s, h2, h⟩ := bind_some h
    obtain ⟨x, p2, q2, rfl, hr⟩ := rngOf_eq h1
    obtain ⟨rfl, hg2, hm2⟩ := rng_name O hr
    match bs, h2 with
    | [a], h2 =>
      obtain ⟨a', h3, rfl⟩ := map_some h2
      cases h
      refine PE.imp (PE.nok O.G.so (pe_listRg O.calm hg hm (prg_1 hg2 hm2 (ih _ _ h3) (star_one (cE_star h3))) rfl)) fun σ H Q z => ?_
      unfold wE at z
      unfold wE at z
      refine wE_mono M a' (fun v H1 z1 => ?_) z
      unfold intK at z1
      simp only at z1
      split at z1
      · exact ⟨_, rfl, z1.1, fun q hq nk => z1.2 q hq (nok_upd nk)⟩
      · exact z1.elim
    | [a, b], h2 =>
      obtain ⟨a', b', h3, h4, rfl⟩ := two_some (f := Sr.rng) h2
      cases h
      refine PE.imp (PE.nok O.G.so (pe_listRg O.calm hg hm (prg_2 hg2 hm2 (ih _ _ h3) (ih _ _ h4) (star_one (cE_star h3)) (star_one (cE_star h4)) (star_no (es := [b]) fun e he => by cases he with | head => exact cE_star h4 | tail _ h => cases h)) rfl)) fun σ H Q z => ?_
      unfold wE at z
      refine wE_mono M a' (fun v H1 z1 => wE_mono M b' (fun u H2 z2 => ?_) z1) z
      unfold intK at z2
      split at z2
      · split at z2
        · exact ⟨_, _, rfl, rfl, z2.1, fun q hq nk => z2.2 q hq (nok_upd nk)⟩
        · exact z2.elim
      · exact z2.elim
omit M in
theorem bt_ok {e : Expr} {T : Bt} (h0 : btOf C e = some T) : ∃ p, e = .Name (btN T) p ∧ Gl X (btN T) ∧ X.mg (btN T) = none := by
  cases e with
  | Name nm pp =>
    obtain ⟨hg, h⟩ := if_some h0
    clear h0
    cases e : C.gl nm with
    | bi b =>
      simp only [e] at h
      obtain ⟨rfl, hm⟩ := O.G.bi _ b e
      have en := btBi_name h
      rw [← en]
      exact ⟨_, rfl, O.gl hg, hm⟩
    | _ => simp only [e] at h; cases h
  | _ => cases h0
theorem isi2_ok {a t u : Expr} {a' : Ex} {T U : Bt} {p pos pt : Pos} {kt : Nat} (hg : isG C "isinstance" = true) (hm : X.mg "isinstance" = none) (he : PE X a (wE S F W a')) (st : notStar a = true) (h2 : btOf C t = some T) (h3 : btOf C u = some U) :
    PE X (.Call (.Name "isinstance" p) [a, .Tuple [t, u] kt pt] [] pos) (wE S F W (.isi2 a' T U)) := by
  obtain ⟨p1, rfl, g1, m1⟩ := bt_ok O h2
  obtain ⟨p2, rfl, g2, m2⟩ := bt_ok O h3
  refine PE.imp (pe_callB (CallR.nok O.G.so call_isiT) (O.gl hg) hm (by decide +kernel) (pa_cons he (pa_cons (PE.nok O.G.so (pe_tup (pa_cons (bltn_bt g1 m1) (pa_cons (bltn_bt g2 m2) pa_nil rfl) rfl))) pa_nil rfl) (star_one st)) (by decide) (by decide) (star_one st) rfl) fun σ H Q z => ?_
  unfold wE at z
  refine wE_mono M a' (fun v H1 z1 => ⟨by show 2 ≤ sizeLine; decide, fun q hq nk => ?_⟩) z
  have z2 := z1 q hq (nok_upd nk)
  unfold bt2K at z2
  split at z2
  · rename_i b1 b2 e1 e2
    obtain ⟨t1, ty1, k1⟩ := btV_ok2 (K := X.K) O.G.so e1 e2
    exact ⟨v, q, _, t1, _, _, rfl, upd_same, .cons (.ty _) (.cons (.ty _) .nil), ty1, k1, fun _ => z2⟩
  · exact z2.elim
theorem call_ok {n : Nat} (ih : ∀ e c, cE C n e = some c → PE X e (wE S F W c)) {x : Str} {p pos : Pos} {a : Expr} {as : List Expr} {c : Ex}
    (h : iff' (isG C x) (cCall C (cE C n) x a as (C.gl x)) = some c) : PE X (.Call (.Name x p) (a :: as) [] pos) (wE S F W c) := by
  obtain ⟨hg, h⟩ := if_some h
  cases e : C.gl x with
  | fn =>
    rw [e] at h
    obtain ⟨es, h1, rfl⟩ := map_some h
    obtain ⟨f, fd, ps, hdb, hm, hk, Fn, hb⟩ := O.G.fn x e
    have PAs := nCE_pa ih h1
    have st := nCE_star h1
    refine ⟨fun pins s σ H Q I z => ?_⟩
    unfold wE at z
    refine wpAny_Call_Name_kw (ld_glob I (O.gl hg) hm ?_ hdb)
    refine PySem.W.callWith_K (h₀ := X.base) I.ok.mod.kin hk (thn (PAs.run pos pins s σ H _ I z) fun us s1 ⟨vs, H1, I1, r, q⟩ => ⟨I1.kIn, ?_⟩) (star_one (st a (List.mem_cons_self ..))) (star_no fun e he => st e (List.mem_cons_of_mem _ he))
    refine run_g Fn O.gd (O.rm.mono (Nat.le_succ _)) O.tk I1 ?_ r q
    have hl := Fn.len _ _ _ _ q
    have := hb s1 us I1.kIn (by rw [List.append_nil, ← r.length]; exact hl)
    rwa [List.append_nil] at this
  | bi b =>
    rw [e] at h
    obtain ⟨rfl, hm⟩ := O.G.bi x b e
    change (match (match b with
      | .list => cLrg C (cE C n) (a :: as)
      | _ => none) with
      | some c => some c
      | none => (nCE (cE C n) (a :: as)).map (.bi b)) = some c at h
    split at h
    · rename_i c' hc'
      cases h
      cases b with
      | list => exact lrg_ok O M ih (O.gl hg) hm hc'
      | _ => cases hc'
    obtain ⟨es, h1, rfl⟩ := map_some h
    have PAs := nCE_pa ih h1
    have st := nCE_star h1
    refine PE.imp (pe_bi (so := S.so) O.G.so O.calm O.gd O.hu (O.gl hg) hm PAs (star_one (st a (List.mem_cons_self ..))) (star_no fun e he => st e (List.mem_cons_of_mem _ he))) fun σ H Q z => ?_
    unfold wE at z
    exact z
  | isi =>
    rw [e] at h
    change cIsi C (cE C n) a as = some c at h
    unfold cIsi at h
    match as, h with
    | [.Tuple [t, u] kt pt], h =>
      obtain ⟨a', T, U, h1, h2, h3, rfl⟩ := tri_some (f := Ex.isi2) h
      obtain ⟨rfl, hm⟩ := O.G.isi x e
      exact isi2_ok O M hg hm (ih _ _ h1) (cE_star h1) h2 h3
    | [.Name T pT], h =>
      obtain ⟨hT, h⟩ := if_some h
      cases eT : C.gl T with
      | bi b0 =>
        simp only [eT] at h
        obtain ⟨B, hB, h⟩ := bind_some h
        obtain ⟨es, h1, rfl⟩ := map_some h
        obtain ⟨eT', hmT⟩ := O.G.bi _ b0 eT
        rw [btBi_name hB] at eT'
        subst eT'
        obtain ⟨rfl, hm⟩ := O.G.isi x e
        refine PE.imp (pe_callB call_isi (O.gl hg) hm (by decide +kernel) (pa_cons (ih _ _ h1) (pa_cons (bltn_bt (O.gl hT) hmT) pa_nil) (star_one (cE_star h1))) (by decide) (by decide) (star_one (cE_star h1)) rfl) fun σ H Q z => ?_
        unfold wE at z
        refine wE_mono M _ (fun v H1 z1 => ?_) z
        unfold btK at z1
        split at z1
        · rename_i b eb
          obtain ⟨t, ty, kt⟩ := btV_ok (K := X.K) O.G.so eb
          exact ⟨v, _, t, _, b, rfl, .ty _, ty, kt, z1⟩
        · exact z1.elim
      | xcl =>
        simp only [eT] at h
        obtain ⟨es, h1, rfl⟩ := map_some h
        obtain ⟨rfl, hm⟩ := O.G.isi x e
        exact isx_ok O M hg hm (O.gl hT) (.inl eT) (ih _ _ h1) (cE_star h1)
      | ocl =>
        simp only [eT] at h
        obtain ⟨es, h1, rfl⟩ := map_some h
        obtain ⟨rfl, hm⟩ := O.G.isi x e
        exact isx_ok O M hg hm (O.gl hT) (.inr (.inl eT)) (ih _ _ h1) (cE_star h1)
      | bxc =>
        simp only [eT] at h
        obtain ⟨es, h1, rfl⟩ := map_some h
        obtain ⟨rfl, hm⟩ := O.G.isi x e
        exact isx_ok O M hg hm (O.gl hT) (.inr (.inr eT)) (ih _ _ h1) (cE_star h1)
      | _ => simp only [eT] at h; cases h
  | xcl =>
    rw [e] at h
    obtain ⟨es, h1, rfl⟩ := map_some h
    have PAs := nCE_pa ih h1
    have st := nCE_star h1
    refine mkx_ok O M (O.gl hg) e PAs (star_one (st a (List.mem_cons_self ..))) (star_no fun e he => st e (List.mem_cons_of_mem _ he))
  | ocl =>
    rw [e] at h
    obtain ⟨es, h1, rfl⟩ := map_some h
    have PAs := nCE_pa ih h1
    have st := nCE_star h1
    exact mkC_ok O M (O.gl hg) e PAs (star_one (st a (List.mem_cons_self ..))) (star_no fun e he => st e (List.mem_cons_of_mem _ he))
  | dead =>
    rw [e] at h
    cases h
    exact nev_ok
  | _ => rw [e] at h; cases h
end
end QL
set_option Elab.async false
set_option linter.all false
set_option maxRecDepth 100000
set_option maxHeartbeats 4000000
/-! QB: what a comprehension's block is. -/
namespace QL
open PySem PySem.Spec L2
open PyProof.Rows hiding St
/-! ### ranges of any size -/
section
variable {X : Cx} {tg : Expr}
theorem turn_long {P : Program} {w : World} {K : PySem.W.Frag} (it : Addr) (lo : Int) (n : Nat) : Turn P w K tg (Itr lo n) [it] it (fun i h => IsLongIter h it (lo + (i : Nat) * 1) ((n : Int) - (i : Nat)) 1) where
  mem := by simp
  obj := fun i h st b hb => by
    have e : b = it := by simpa using hb
    subst e
    exact ⟨_, st, fun v z => by
      have z' : Data.fields _ = Data.cell v := z
      cases z'⟩
  keep := fun i h h' st kk => kk it (by simp) _ st
  item := by
    intro X hP hw hK hc i pins s σ H E I hf st hg
    subst hP hw hK
    obtain ⟨f0, f1, f2, f3, f4, f5⟩ := hf it (by simp)
    refine (Walks.longrange (prog := X.prog) (w := X.w) (I.ok.hd hc) it lo 1 n).item i s _ _ hg st fun v h' tk hv st' kk => ?_
    obtain ⟨t, rfl⟩ := hv
    have I1 : Inv X pins σ H { s with heap := h', toks := tk } := I.turned (fun b o hb e => kk b o (by simpa using hb) e) f0 f1 f3 f4 f5
    refine ⟨_, rfl, go_of (s := { s with heap := h', toks := tk }) (n := "longrange_iterator") st' rfl rfl (by decide) ⟨.int (lo + i), H, I1, ⟨t, ?_⟩, ⟨rfl, rfl⟩, st', fun b hb => (hf b hb).1⟩⟩
    rw [Int.mul_one]
  done := by
    intro X hP hw hK hc i pins s σ H E I hf st hg
    subst hP hw hK
    obtain ⟨f0, f1, f2, f3, f4, f5⟩ := hf it (by simp)
    exact wpAny_pyNext_long_end (I.ok.hd hc) st (by have : n ≤ i := hg; omega) fun h' eb => ⟨rfl, I.turned (t' := s.toks) (fun b o hb e => eb b o hb e) f0 f1 f3 f4 f5⟩
  self := fun _ _ _ _ _ st h => wpAny_pyIter_longiter st h
theorem range_any {pins : List (Addr × Obj)} {σ : St} {H : Hp} {s : Shared} {R : It → Hp → Prop} {E : Value → Shared → Prop} {lo hi : Int} {t u v : Tok} {tk : Nat} (I : Inv X pins σ H s)
    (q : R (Itr lo (hi - lo).toNat) H) : wpAny (model X.prog X.w) X.A (pyIter (.ref s.heap.objs.size)) (PIE X pins σ tg R) E { s with heap := s.heap.push { cls := .type "range", data := .fields #[.int lo t, .int hi u, .int 1 v] }, toks := tk } := by
  have I1 : Inv X pins σ H { s with heap := s.heap.push { cls := .type "range", data := .fields #[.int lo t, .int hi u, .int 1 v] }, toks := tk } := I.kept fun b o e => Heap.get?_push_of_some _ e
  have e1 : lo + ((0 : Nat) : Int) * 1 = lo := by simp
  have e2 : (((hi - lo).toNat : Nat) : Int) - ((0 : Nat) : Int) = Builtin.Range.rangeSize lo hi 1 := by rw [rangeSize_one]; split <;> omega
  have fp : ∀ b ∈ [(s.heap.push { cls := .type "range", data := .fields #[.int lo t, .int hi u, .int 1 v] }).objs.size], FpOk X pins H b := fun b hb => by
    have e : b = (s.heap.push { cls := .type "range", data := .fields #[.int lo t, .int hi u, .int 1 v] }).objs.size := by simpa using hb
    subst e
    exact I1.fpOk (Nat.le_refl _) (I1.hok.fresh (Nat.le_refl _))
  cases hs : Builtin.Range.small lo hi 1 with
  | true =>
    refine wpAny_pyIter_range (IsRange.new ..) hs ?_
    refine ⟨_, _, _, _, H, rfl, I1.kept (t' := tk) fun b o e => Heap.get?_push_of_some _ e, turn_range _ lo (hi - lo).toNat, ?_, fp, q⟩
    show IsRangeIter _ _ (lo + ((0 : Nat) : Int) * 1) ((((hi - lo).toNat : Nat) : Int) - ((0 : Nat) : Int)) 1
    rw [e1, e2]
    exact Heap.get?_push_size _ rfl
  | false =>
    refine wpAny_pyIter_longrange (IsRange.new ..) hs ?_
    refine ⟨_, _, _, _, H, rfl, I1.kept (t' := tk) fun b o e => Heap.get?_push_of_some _ e, turn_long _ lo (hi - lo).toNat, ?_, fp, q⟩
    show IsLongIter _ _ (lo + ((0 : Nat) : Int) * 1) ((((hi - lo).toNat : Nat) : Int) - ((0 : Nat) : Int)) 1
    rw [e1, e2]
    exact Heap.get?_push_size _ rfl
theorem pi_rng1 {a : Expr} {ta : TE} {p pos : Pos} (hg : Gl X "range") (hm : X.mg "range" = none) (ha : PE X a ta) (st : notStar a = true) :
    PI X tg (.Call (.Name "range" p) [a] [] pos) (fun σ H R => ta σ H fun x H1 => ∃ j : Int, [x] = [V.int j] ∧ R (Itr 0 (j - 0).toNat) H1) := by
  refine ⟨fun pins s σ H R I h => ?_⟩
  refine Call_ (ld_blt I hg hm boot_range (PyProof.Rows.callWith_type1 (thn ((pa_cons ha pa_nil (star_one st)).run pos pins s σ H (fun vs H1 => ∃ j : Int, vs = [V.int j] ∧ R (Itr 0 (j - 0).toNat) H1) I h) fun us s1 ⟨vs, H1, I1, r1, q1⟩ => ?_) (star_one st) rfl))
  obtain ⟨j, rfl, q⟩ := q1
  obtain ⟨u, rfl, t, rfl⟩ := vals1 r1
  exact call_range_1 (range_any I1 q)
theorem pi_rng2 {a b : Expr} {ta tb : TE} {p pos : Pos} (hg : Gl X "range") (hm : X.mg "range" = none) (ha : PE X a ta) (hb : PE X b tb) (sa : notStar a = true) (sb : notStar b = true) :
    PI X tg (.Call (.Name "range" p) [a, b] [] pos) (fun σ H R => ta σ H fun x H1 => tb σ H1 fun y H2 => ∃ i j : Int, [x, y] = [V.int i, V.int j] ∧ R (Itr i (j - i).toNat) H2) := by
  refine ⟨fun pins s σ H R I h => ?_⟩
  refine Call_ (ld_blt I hg hm boot_range (PyProof.Rows.callWith_type1 (thn ((pa_cons ha (pa_cons hb pa_nil (star_one sb)) (star_one sa)).run pos pins s σ H (fun vs H1 => ∃ i j : Int, vs = [V.int i, V.int j] ∧ R (Itr i (j - i).toNat) H1) I h) fun us s1 ⟨vs, H1, I1, r1, q1⟩ => ?_) (star_one sa) ?_))
  · obtain ⟨i, j, rfl, q⟩ := q1
    obtain ⟨u, w, rfl, ⟨t, rfl⟩, t', rfl⟩ := vals2 r1
    exact call_range_2 (range_any I1 q)
  · exact star_no fun e he => by
      have : e = b := by simpa using he
      rw [this]
      exact sb
end
/-! ### what is walked -/
section
variable {X : Cx} {tg : Expr}
/-- a list or a tuple -/
def iSeq (K : PySem.W.Frag) (tl : TE) : TI := fun σ H R => tl σ H fun x H1 => ∃ a, x = .ref a ∧ (((∃ xs, SqL K H1 a xs) ∧ R (Itl K a) H1) ∨ ((∃ xs, SqT K H1 a xs) ∧ R (Itt K a) H1))
theorem pi_seq {l : Expr} {tl : TE} (hl : PE X l tl) : PI X tg l (iSeq X.K tl) := by
  refine ⟨fun pins s σ H R I h => ?_⟩
  refine thn (hl.run pins s σ H _ I h) fun v s1 ⟨x, H1, I1, r1, q1⟩ => ?_
  obtain ⟨a, e, q1⟩ := q1
  subst e
  cases r1
  rcases q1 with ⟨⟨xs, hq⟩, q⟩ | ⟨⟨xs, hq⟩, q⟩
  · obtain ⟨its, rv, p, hz⟩ := I1.list hq
    refine wpAny_pyIter_list p.isList ?_
    refine ⟨s1.heap.objs.size, [s1.heap.objs.size], _, _, H1, rfl, I1.kept (t' := s1.toks) fun b o e => Heap.get?_push_of_some _ e, turn_list a _, ⟨_, Heap.get?_push_size _ rfl, rfl, rfl⟩, fun b hb => ?_, q⟩
    have e : b = s1.heap.objs.size := by simpa using hb
    subst e
    exact I1.fpOk (Nat.le_refl _) (I1.hok.fresh (Nat.le_refl _))
  · obtain ⟨its, rv, p, hz⟩ := I1.tuple hq
    refine wpAny_pyIter_tuple (show s1.heap.IsTuple a its.toArray from p) ?_
    refine ⟨s1.heap.objs.size, [s1.heap.objs.size], _, _, H1, rfl, I1.kept (t' := s1.toks) fun b o e => Heap.get?_push_of_some _ e, turn_tuple a _, ⟨_, Heap.get?_push_size _ rfl, rfl, rfl⟩, fun b hb => ?_, q⟩
    have e : b = s1.heap.objs.size := by simpa using hb
    subst e
    exact I1.fpOk (Nat.le_refl _) (I1.hok.fresh (Nat.le_refl _))
theorem PI.imp {it : Expr} {t t' : TI} (h : PI X tg it t) (q : ∀ σ H R, t' σ H R → t σ H R) : PI X tg it t' := ⟨fun pins s σ H R I z => h.run pins s σ H R I (q _ _ _ z)⟩
end
/-- what a turn gives -/
def Gives (t : Itm) (H : Hp) (x : V) (H' : Hp) : Prop := match t with
  | .v y => x = y ∧ H' = H
  | .p ps => ∃ T, x = .ref T ∧ H T = none ∧ H' = upd H T (.tup ps)
/-- J goes through what cur tells, n items -/
structure Jok (J : It) (n : Nat) (cur : Hp → List Itm → Prop) : Prop where
  stop : ∀ H, nowK cur n H → J.stop n H
  go : ∀ i H, nowK cur n H → i < n → J.go i H
  yld : ∀ i H x H' its it, cur H its → its.length = n → its[i]? = some it → J.yld i H x H' → Gives it H x H'
theorem jok_rng (lo : Int) (n : Nat) : Jok (Itr lo n) n (fun _ its => its = (List.range n).map fun i => .v (.int (lo + (i : Nat)))) where
  stop := fun H _ => by simp [Itr]
  go := fun i H _ h => by simpa [Itr] using h
  yld := fun i H x H' its it hc hl hi h => by
    obtain ⟨rfl, rfl⟩ := h
    subst hc
    have hl' : i < n := by
      have := (List.getElem?_eq_some_iff.mp hi).1
      simpa using this
    rw [List.getElem?_map, List.getElem?_range hl'] at hi
    cases hi
    exact ⟨rfl, rfl⟩
theorem jok_lst {K : PySem.W.Frag} {so : Addr → Option HO} (S0 : SoOk K so) (a : Addr) (n : Nat) : Jok (Itl K a) n (fun H its => ∃ ys, rd so H a = some (.lst ys) ∧ its = ys.map .v) where
  stop := fun H h => by
    obtain ⟨_, ⟨xs, h, rfl⟩, hl⟩ := h
    exact ⟨xs, rd_lst S0 h, by rw [List.length_map] at hl; omega⟩
  go := fun i H h hl => by
    obtain ⟨_, ⟨xs, h, rfl⟩, hn⟩ := h
    have hn : xs.length = n := by simpa using hn
    exact ⟨xs, xs[i]'(by omega), rd_lst S0 h, by simp⟩
  yld := fun i H x H' its it hc hn hi y => by
    obtain ⟨xs, h, rfl⟩ := hc
    rw [List.getElem?_map, y.2 xs (rd_lst S0 h)] at hi
    cases hi
    exact ⟨rfl, y.1⟩
theorem jok_tup {K : PySem.W.Frag} {so : Addr → Option HO} (S0 : SoOk K so) (a : Addr) (n : Nat) : Jok (Itt K a) n (fun H its => ∃ ys, rd so H a = some (.tup ys) ∧ its = ys.map .v) where
  stop := fun H h => by
    obtain ⟨_, ⟨xs, h, rfl⟩, hl⟩ := h
    exact ⟨xs, rd_tup S0 h, by rw [List.length_map] at hl; omega⟩
  go := fun i H h hl => by
    obtain ⟨_, ⟨xs, h, rfl⟩, hn⟩ := h
    have hn : xs.length = n := by simpa using hn
    exact ⟨xs, xs[i]'(by omega), rd_tup S0 h, by simp⟩
  yld := fun i H x H' its it hc hn hi y => by
    obtain ⟨xs, h, rfl⟩ := hc
    rw [List.getElem?_map, y.2 xs (rd_tup S0 h)] at hi
    cases hi
    exact ⟨rfl, y.1⟩
theorem enumI_len : ∀ (xs : List V) (i : Nat), (enumI i xs).length = xs.length
  | [], _ => rfl
  | _ :: xs, i => by rw [enumI, List.length_cons, List.length_cons, enumI_len xs]
theorem enumI_get : ∀ {xs : List V} {i j : Nat} {x : V}, xs[j]? = some x → (enumI i xs)[j]? = some (.p [.int ((i + j : Nat) : Int), x])
  | [], _, _, _, h => by simp at h
  | y :: xs, i, 0, x, h => by cases h; rfl
  | y :: xs, i, j + 1, x, h => by
    rw [enumI]
    have := enumI_get (i := i + 1) (xs := xs) (j := j) (x := x) (by simpa using h)
    rw [List.getElem?_cons_succ, this, show i + 1 + j = i + (j + 1) by omega]
theorem jok_enum {K : PySem.W.Frag} {so : Addr → Option HO} (S0 : SoOk K so) (a : Addr) (n : Nat) : Jok (Ite K a) n (fun H its => ∃ ys, rd so H a = some (.lst ys) ∧ its = enumI 0 ys) where
  stop := fun H h => by
    obtain ⟨_, ⟨xs, h, rfl⟩, hl⟩ := h
    rw [enumI_len] at hl
    exact ⟨xs, rd_lst S0 h, by omega⟩
  go := fun i H h hl => by
    obtain ⟨_, ⟨xs, h, rfl⟩, hn⟩ := h
    rw [enumI_len] at hn
    exact ⟨xs, xs[i]'(by omega), rd_lst S0 h, by simp⟩
  yld := fun i H x H' its it hc hn hi y => by
    obtain ⟨xs, h, rfl⟩ := hc
    obtain ⟨T, v, rfl, h1, h2, h3⟩ := y
    have e := enumI_get (i := 0) (h3 xs (rd_lst S0 h))
    rw [Nat.zero_add, hi] at e
    cases e
    exact ⟨T, rfl, h1, h2⟩
theorem zipI_len : ∀ (xs ys : List V), (zipI xs ys).length = min xs.length ys.length
  | [], ys => by simp [zipI]
  | _ :: _, [] => by simp [zipI]
  | _ :: xs, _ :: ys => by rw [zipI, List.length_cons, List.length_cons, List.length_cons, zipI_len xs ys]; omega
theorem zipI_get : ∀ {xs ys : List V} {j : Nat} {x y : V}, xs[j]? = some x → ys[j]? = some y → (zipI xs ys)[j]? = some (.p [x, y])
  | [], _, _, _, _, h, _ => by simp at h
  | _ :: _, [], _, _, _, _, h => by simp at h
  | _ :: xs, _ :: ys, 0, _, _, h, h' => by cases h; cases h'; rfl
  | _ :: xs, _ :: ys, j + 1, x, y, h, h' => by
    rw [zipI, List.getElem?_cons_succ]
    exact zipI_get (by simpa using h) (by simpa using h')
theorem jok_zip {K : PySem.W.Frag} {so : Addr → Option HO} (S0 : SoOk K so) (a b : Addr) (n : Nat) : Jok (Itz K a b) n (fun H its => ∃ us vs, rd so H a = some (.lst us) ∧ rd so H b = some (.lst vs) ∧ its = zipI us vs) where
  stop := fun H h => by
    obtain ⟨_, ⟨xs, ys, h, h', rfl⟩, hl⟩ := h
    rw [zipI_len] at hl
    exact ⟨xs, ys, rd_lst S0 h, rd_lst S0 h', by omega⟩
  go := fun i H h hl => by
    obtain ⟨_, ⟨xs, ys, h, h', rfl⟩, hn⟩ := h
    rw [zipI_len] at hn
    exact ⟨xs, ys, xs[i]'(by omega), ys[i]'(by omega), rd_lst S0 h, rd_lst S0 h', by simp, by simp⟩
  yld := fun i H x H' its it hc hn hi y => by
    obtain ⟨xs, ys, h, h', rfl⟩ := hc
    obtain ⟨T, v, w, rfl, h1, h2, h3, h4⟩ := y
    have e := zipI_get (h3 xs (rd_lst S0 h)) (h4 ys (rd_lst S0 h'))
    rw [hi] at e
    cases e
    exact ⟨T, rfl, h1, h2⟩
theorem lcL_kp {so : Addr → Option HO} {cur : Hp → List Itm → Prop} {n : Nat} {g : TG} {tt : TT} {te : TE} {D : Addr} {σ : St} {R : Hp → Prop} : ∀ {m : Nat} {H : Hp}, lcL so cur n g tt te D σ m H R → nowK cur n H
  | 0, _, h => h.1
  | _ + 1, _, ⟨its, _, h1, h2, _⟩ => ⟨its, h1, h2⟩
theorem ylK_of {so : Addr → Option HO} {t : Itm} {H H' : Hp} {x : V} {B : V → Hp → Prop} (h : ylK so t H B) (g : Gives t H x H') (nk : NoK so H') : B x H' := by
  cases t with
  | v y =>
    obtain ⟨rfl, rfl⟩ := g
    exact h
  | p ps =>
    obtain ⟨T, rfl, h1, rfl⟩ := g
    exact h T h1 (nok_upd nk)
theorem lc_gen {so : Addr → Option HO} {J : It} {cur : Hp → List Itm → Prop} {n : Nat} {g g' : TG} {tt : TT} {te : TE} {vs : List Nat} {σ : St} {H0 : Hp} {D : Addr} {Qd : Hp → Prop} (j : Jok J n cur)
    (hg : ∀ x H Q, g x (wipe σ vs) H Q → g' x (wipe σ vs) H fun σ2 H2 => wipe σ2 vs = wipe σ vs ∧ Q σ2 H2) (h : lcL so cur n g tt te D (wipe σ vs) n H0 Qd) :
    ∃ W : Nat → Nat → Hp → Prop, (∃ m, W 0 m H0) ∧ ∀ i m H, W i m H →
      (J.stop i H ∧ Qd H) ∨ (J.go i H ∧ ∃ Nx : Hp → Prop, (∀ H', Nx H' → ∃ m', m' < m ∧ W (i + 1) m' H') ∧ ∀ x H', J.yld i H x H' → NoK so H' → g' x (wipe σ vs) H' fun σ2 H2 => wipe σ2 vs = wipe σ vs ∧ tt σ2 H2 fun b H3 =>
        if b = true then te σ2 H3 fun y H4 => ∃ acc, H4 D = some (.lst acc) ∧ acc.length < sizeLine ∧ Nx (upd H4 D (.lst (acc ++ [y]))) else Nx H3) := by
  refine ⟨fun i m H => m = n - i ∧ i ≤ n ∧ lcL so cur n g tt te D (wipe σ vs) (n - i) H Qd, ⟨n, by simp, Nat.zero_le _, h⟩, ?_⟩
  rintro i m H ⟨rfl, hi, p⟩
  have kq := lcL_kp p
  by_cases hlt : i < n
  · refine .inr ⟨j.go i H kq hlt, fun H' => lcL so cur n g tt te D (wipe σ vs) (n - (i + 1)) H' Qd, fun H' p' => ⟨n - (i + 1), by omega, rfl, hlt, p'⟩, fun x H' y nk => ?_⟩
    have ed : n - i = (n - (i + 1)) + 1 := by omega
    rw [ed] at p
    obtain ⟨its, it, c1, c2, c3, c4⟩ := p
    have c3 : its[i]? = some it := by rw [show n - (n - (i + 1) + 1) = i by omega] at c3; exact c3
    have gv := j.yld i H x H' its it c1 c2 c3 y
    exact hg _ _ _ (ylK_of c4 gv nk)
  · have e : i = n := by omega
    subst e
    rw [Nat.sub_self] at p
    exact .inl ⟨j.stop H kq, p.2⟩
theorem lcG_kp {so : Addr → Option HO} {cur : Hp → List Itm → Prop} {n : Nat} {g : TG} {tt : TT} {bd : St → Hp → (Hp → Prop) → Prop} {σ : St} {R : Hp → Prop} : ∀ {m : Nat} {H : Hp}, lcG so cur n g tt bd σ m H R → nowK cur n H
  | 0, _, h => h.1
  | _ + 1, _, ⟨its, _, h1, h2, _⟩ => ⟨its, h1, h2⟩
theorem lcG_gen {so : Addr → Option HO} {J : It} {cur : Hp → List Itm → Prop} {n : Nat} {t : Tg} {g' : TG} {tt : TT} {bd bd' : St → Hp → (Hp → Prop) → Prop} {vs : List Nat} {σ : St} {H0 : Hp} {Qd : Hp → Prop} (j : Jok J n cur)
    (mt : ∀ σ H Q Q', (∀ b H', Q b H' → Q' b H') → tt σ H Q → tt σ H Q') (hb : ∀ σ H R, bd σ H R → bd' σ H R)
    (hg : ∀ x H Q, gT so t x (wipe σ vs) H Q → g' x (wipe σ vs) H fun σ2 H2 => wipe σ2 vs = wipe σ vs ∧ Q σ2 H2) (h : lcG so cur n (gT so t) tt bd (wipe σ vs) n H0 Qd) :
    ∃ W : Nat → Nat → Hp → Prop, (∃ m, W 0 m H0) ∧ ∀ i m H, W i m H →
      (J.stop i H ∧ Qd H) ∨ (J.go i H ∧ ∃ Nx : Hp → Prop, (∀ H', Nx H' → ∃ m', m' < m ∧ W (i + 1) m' H') ∧ ∀ x H', J.yld i H x H' → NoK so H' → g' x (wipe σ vs) H' fun σ2 H2 => wipe σ2 vs = wipe σ vs ∧ tt σ2 H2 fun b H3 =>
        if b = true then bd' σ2 H3 Nx else Nx H3) := by
  refine ⟨fun i m H => m = n - i ∧ i ≤ n ∧ lcG so cur n (gT so t) tt bd (wipe σ vs) (n - i) H Qd, ⟨n, by simp, Nat.zero_le _, h⟩, ?_⟩
  rintro i m H ⟨rfl, hi, p⟩
  have kq := lcG_kp p
  by_cases hlt : i < n
  · refine .inr ⟨j.go i H kq hlt, fun H' => lcG so cur n (gT so t) tt bd (wipe σ vs) (n - (i + 1)) H' Qd, fun H' p' => ⟨n - (i + 1), by omega, rfl, hlt, p'⟩, fun x H' y nk => ?_⟩
    have ed : n - i = (n - (i + 1)) + 1 := by omega
    rw [ed] at p
    obtain ⟨its, it, c1, c2, c3, c4⟩ := p
    have c3 : its[i]? = some it := by rw [show n - (n - (i + 1) + 1) = i by omega] at c3; exact c3
    have gv := j.yld i H x H' its it c1 c2 c3 y
    refine hg _ _ _ (gT_mono (fun σ2 H2 z => mt _ _ _ _ (fun b H3 z3 => ?_) z) (ylK_of c4 gv nk))
    cases b with
    | true => exact hb _ _ _ z3
    | false => exact z3
  · have e : i = n := by omega
    subst e
    rw [Nat.sub_self] at p
    exact .inl ⟨j.stop H kq, p.2⟩
/-! ### targets -/
theorem nms_eq : ∀ {ts : List Expr} {ns : List (Str × Pos)}, nms ts = some ns → ts = ns.map fun x => .Name x.1 x.2
  | [], ns, h => by cases h; rfl
  | t :: ts, ns, h => by
    obtain ⟨a, b, h1, h2, rfl⟩ := two_some (f := fun a b => a :: b) h
    rw [List.map_cons, ← nms_eq h2]
    congr 1
    cases t <;> cases h1
    rfl
def gL : List Nat → TGs
  | [] => gNil
  | i :: r => gCons (gName i) (gL r)
/-- a place to store in -/
def LocAt (X : Cx) (x : Str) (i : Nat) : Prop := X.N.Nodup ∧ X.N[i]? = some x ∧ Loc X.env.scope x ∧ (X.fn x = true ∨ X.env.scope.names.lookup x = some .local)
theorem slots_pgs {X : Cx} {C : CI} : ∀ {ns : List (Str × Pos)} {is : List Nat}, slots C ns = some is → (∀ y ∈ ns, ∀ i, locOf C y.1 = some i → LocAt X y.1 i) →
    PGs X (ns.map fun x => .Name x.1 x.2) (gL is) ∧ (assignEach (ns.map fun x => Expr.Name x.1 x.2) X.env).length = ns.length ∧ (assignEach (ns.map fun x => Expr.Name x.1 x.2) X.env).findIdx? (·.1) = none
  | [], is, h, _ => by
    cases h
    exact ⟨pgs_nil, rfl, rfl⟩
  | x :: ns, is, h, hl => by
    obtain ⟨i, r, h1, h2, rfl⟩ := two_some (f := fun a b => a :: b) h
    obtain ⟨h3, h5, h6⟩ := slots_pgs h2 fun y hy => hl y (List.mem_cons_of_mem _ hy)
    obtain ⟨nd, l1, l2, l3⟩ := hl x (List.mem_cons_self ..) i h1
    refine ⟨pgs_cons (pg_name nd l1 l2 l3) h3, ?_, ?_⟩
    · show (assignEach (ns.map fun x => Expr.Name x.1 x.2) X.env).length + 1 = _
      rw [h5]
      rfl
    · show ((false, assign (.Name x.1 x.2) X.env) :: assignEach (ns.map fun x => Expr.Name x.1 x.2) X.env).findIdx? (·.1) = none
      rw [List.findIdx?_cons, h6]
      rfl
theorem tp_pgL {X : Cx} {C : CI} {ts : List Expr} {ns : List (Str × Pos)} {is : List Nat} {kt : Nat} {pt : Pos} (hc : X.calm = true) (h1 : nms ts = some ns) (h2 : slots C ns = some is) (hl : ∀ y ∈ ns, ∀ i, locOf C y.1 = some i → LocAt X y.1 i) : PG X (.Tuple ts kt pt) (gTup X.K ns.length (gL is)) := by
  obtain ⟨h3, h5, h6⟩ := slots_pgs h2 hl
  rw [nms_eq h1]
  exact pg_tup hc h3 h5 h6
theorem gL_of : ∀ {is : List Nat} {xs : List V} {σ : St} {H : Hp} {Q : St → Hp → Prop}, parK (setL is xs σ) (fun σ' => Q σ' H) → gL is xs σ H Q
  | [], [], _, _, _, z => ⟨rfl, z⟩
  | [], _ :: _, _, _, _, z => z.elim
  | _ :: _, [], _, _, _, z => z.elim
  | i :: is, v :: xs, σ, H, Q, z => ⟨v, xs, rfl, gL_of (is := is) z⟩
theorem slots_len {C : CI} : ∀ {ns : List (Str × Pos)} {is : List Nat}, slots C ns = some is → is.length = ns.length
  | [], is, h => by cases h; rfl
  | y :: ns, is, h => by
    obtain ⟨i, r, g1, g2, rfl⟩ := two_some (f := fun a b => a :: b) h
    rw [List.length_cons, List.length_cons, slots_len g2]
theorem setL_len : ∀ {is : List Nat} {xs : List V} {σ σ' : St}, setL is xs σ = some σ' → xs.length = is.length
  | [], [], _, _, _ => rfl
  | [], _ :: _, _, _, z => by cases z
  | _ :: _, [], _, _, z => by cases z
  | i :: is, v :: xs, σ, _, z => by rw [List.length_cons, List.length_cons, setL_len (is := is) z]
theorem gT_gTup {K : PySem.W.Frag} {so : Addr → Option HO} (S0 : SoOk K so) {C : CI} {ns : List (Str × Pos)} {is : List Nat} (h2 : slots C ns = some is) {x : V} {σ : St} {H : Hp} {Q : St → Hp → Prop} (z : gT so (.tp is) x σ H Q) : gTup K ns.length (gL is) x σ H Q := by
  unfold gT at z
  simp only at z
  split at z
  · split at z
    · rename_i e
      refine ⟨_, _, rfl, rd_tup S0 e, ?_, gL_of z⟩
      unfold parK at z
      split at z
      · rename_i e2
        rw [setL_len e2, slots_len h2]
      · exact z.elim
    · exact z.elim
  · exact z.elim
/-! ### forgetting -/
theorem wipe_get {σ : St} {i : Nat} : ∀ {vs : List Nat}, (wipe σ vs)[i]? = if i ∈ vs ∧ i < σ.length then some none else σ[i]?
  | [] => by simp [wipe]
  | v :: vs => by
    unfold wipe
    by_cases e : v = i
    · subst e
      by_cases h : v < σ.length
      · rw [List.getElem?_set_self (by rw [wipe_length]; exact h), if_pos ⟨List.mem_cons_self .., h⟩]
      · rw [if_neg (fun z => h z.2), List.getElem?_eq_none (by rw [List.length_set, wipe_length]; omega), List.getElem?_eq_none (by omega)]
    · rw [List.getElem?_set_ne e, wipe_get]
      have : (i ∈ v :: vs ∧ i < σ.length) ↔ (i ∈ vs ∧ i < σ.length) := by
        constructor
        · rintro ⟨h, h'⟩
          rcases List.mem_cons.mp h with rfl | h
          · exact absurd rfl e
          · exact ⟨h, h'⟩
        · rintro ⟨h, h'⟩
          exact ⟨List.mem_cons_of_mem _ h, h'⟩
      simp only [this]
theorem wipe_idem {σ : St} {vs : List Nat} : wipe (wipe σ vs) vs = wipe σ vs := by
  apply List.ext_getElem?
  intro i
  rw [wipe_get, wipe_length]
  split
  · rename_i h
    rw [wipe_get, if_pos h]
  · rfl
theorem wipe_set {σ : St} {vs : List Nat} {j : Nat} {o : Option V} (h : j ∈ vs) : wipe (σ.set j o) vs = wipe σ vs := by
  apply List.ext_getElem?
  intro i
  rw [wipe_get, wipe_get, List.length_set]
  split
  · rfl
  · rename_i hn
    by_cases e : j = i
    · subst e
      have hl : ¬ j < σ.length := fun z => hn ⟨h, z⟩
      rw [List.getElem?_eq_none (by rw [List.length_set]; omega), List.getElem?_eq_none (by omega)]
    · rw [List.getElem?_set_ne e]
theorem setL_wipe {vs : List Nat} : ∀ {is : List Nat} {xs : List V} {σ σ' : St}, (∀ i ∈ is, i ∈ vs) → setL is xs σ = some σ' → wipe σ' vs = wipe σ vs
  | [], [], _, _, _, z => by cases z; rfl
  | [], _ :: _, _, _, _, z => by cases z
  | _ :: _, [], _, _, _, z => by cases z
  | i :: is, v :: xs, σ, σ', h, z => by
    have := setL_wipe (is := is) (fun j hj => h j (List.mem_cons_of_mem _ hj)) z
    rw [this, wipe_set (h i (List.mem_cons_self ..))]
/-! ### the block's context -/
theorem relN_names {scope sc sc' : Scope} (hk : sc.kind = .function) (hn : sc.names = sc'.names) : (relS scope sc).names = (relN scope sc').names := by
  unfold relS relN
  simp only
  rw [hk, hn]
  apply List.map_congr_left
  intro y _
  obtain ⟨n, k⟩ := y
  simp
theorem OkE.blk {X : Cx} {S : Stat} {F : Sm} {k : Nat} {C : CI} {W : WX} (O : OkE X S F k C W) {scope : Scope} (hk : scope.kind = .function) (s : Shared) (H : Hp) (Cc : Addr) (cl : List (Str × Addr)) (fp : List Addr) :
    OkE (X.blk s H scope (compEnvC scope cl Cc X.env) fp) S F k (C.blk scope) never where
  G := O.G
  N := O.N
  nd := O.nd
  sc := relN_names (sc := X.env.scope) O.kd O.sc
  calm := O.calm
  gd := O.gd
  rm := O.rm
  tk := fun u s' ⟨_, _, _, _, _, _, _, _, _, _, _, _, _, _, _, _, w⟩ => w.elim
  kd := hk
theorem lookup_relN {scope sc : Scope} {x : Str} {k : NameKind} (h : scope.names.lookup x = some k) (hk : k ≠ .free) : (relN scope sc).names.lookup x = some k := by
  unfold relN
  simp only
  generalize scope.names = l at h
  induction l with
  | nil => cases h
  | cons y r ih =>
    obtain ⟨n, q⟩ := y
    rw [List.lookup_cons] at h
    rw [List.map_cons]
    by_cases e : x = n
    · subst e
      simp only [beq_self_eq_true] at h
      cases h
      have : (k == NameKind.free) = false := by cases k <;> first | rfl | exact absurd rfl hk
      simp [this, List.lookup_cons]
    · have e' : (x == n) = false := by simpa using e
      rw [e'] at h
      split <;> simp only [List.lookup_cons, e'] <;> exact ih h
theorem OkE.blk_loc {X : Cx} {S : Stat} {F : Sm} {k : Nat} {C : CI} {W : WX} (O : OkE X S F k C W) {scope : Scope} {x : Str} {i : Nat} (s : Shared) (H : Hp) (Cc : Addr) (cl : List (Str × Addr)) (fp : List Addr)
    (ho : scope.names.lookup x = some .local ∨ scope.names.lookup x = some .cell) (h : locOf (C.blk scope) x = some i) : LocAt (X.blk s H scope (compEnvC scope cl Cc X.env) fp) x i := by
  have nd : X.N.Nodup := by rw [O.N]; exact O.nd
  have ni : X.N[i]? = some x := by
    rw [O.N]
    unfold locOf at h
    split at h
    · exact idxOf_get h
    · exact idxOf_get h
    · cases h
  have sn : (compEnvC scope cl Cc X.env).scope.names = (relN scope C.sc).names := relN_names (sc := X.env.scope) O.kd O.sc
  rcases ho with ho | ho
  · have e := lookup_relN (sc := C.sc) ho (by decide)
    rw [← sn] at e
    exact ⟨nd, ni, .inl e, .inr e⟩
  · have e := lookup_relN (sc := C.sc) ho (by decide)
    rw [← sn] at e
    exact ⟨nd, ni, .inr e, .inl (by show (scope.names.lookup x == some .cell) = true; rw [ho]; rfl)⟩
/-! ### the whole comprehension -/
/-- J from the heap H on -/
structure JokH (J : It) (n : Nat) (cur : Hp → List Itm → Prop) (H : Hp) : Prop where
  j : Jok J n cur
  same : ∀ i H x H', J.yld i H x H' → ∀ b o, H b = some o → H' b = some o
  one : ∀ D o, H D = none → J.stop 0 (upd H D o) ∨ J.go 0 (upd H D o)
theorem rd_upd {so : Addr → Option HO} {H : Hp} {a D : Addr} {o : HO} (h : a ≠ D) : rd so (upd H D o) a = rd so H a := by
  unfold rd
  rw [upd_ne h]
theorem same_eq {H H' : Hp} (h : H' = H) : ∀ b o, H b = some o → H' b = some o := fun b o e => by rw [h]; exact e
theorem same_new {H H' : Hp} {T : Addr} {o' : HO} (h0 : H T = none) (h : H' = upd H T o') : ∀ b o, H b = some o → H' b = some o := fun b o e => by
  rw [h, upd_ne (fun z => by rw [z, h0] at e; cases e)]
  exact e
theorem jokH_rng (lo : Int) (n : Nat) (H : Hp) : JokH (Itr lo n) n (fun _ its => its = (List.range n).map fun i => .v (.int (lo + (i : Nat)))) H := ⟨jok_rng lo n, fun _ _ _ _ y => same_eq y.1, fun _ _ _ => by
  by_cases h : 0 < n
  · exact .inr h
  · exact .inl (by show n ≤ 0; omega)⟩
/-- the written list at a, the new one at D -/
theorem sq_one {K : PySem.W.Frag} {so : Addr → Option HO} (S0 : SoOk K so) {a D : Addr} {o : HO} {xs : List V} {H : Hp} (hD : H D = none) (h : rd so H a = some (.lst xs)) : ∃ ys, SqL K (upd H D o) a ys := by
  by_cases e : a = D
  · subst e
    rcases rd_lst S0 h with r | r
    · unfold Rd at r
      rcases r with r | ⟨_, r⟩ <;> (rw [hD] at r; cases r)
    · exact ⟨xs, .inr r⟩
  · exact ⟨xs, rd_lst S0 (by rw [rd_upd e]; exact h)⟩
theorem jokH_lst {K : PySem.W.Frag} {so : Addr → Option HO} (S0 : SoOk K so) {a : Addr} {xs : List V} {H : Hp} (h : rd so H a = some (.lst xs)) : JokH (Itl K a) xs.length (fun H its => ∃ ys, rd so H a = some (.lst ys) ∧ its = ys.map .v) H := ⟨jok_lst S0 a _, fun _ _ _ _ y => same_eq y.1, fun D o hD => by
  obtain ⟨ys, q⟩ := sq_one S0 (o := o) hD h
  cases ys with
  | nil => exact .inl ⟨[], q, Nat.le_refl _⟩
  | cons x r => exact .inr ⟨_, x, q, rfl⟩⟩
theorem jokH_enum {K : PySem.W.Frag} {so : Addr → Option HO} (S0 : SoOk K so) {a : Addr} {xs : List V} {H : Hp} (h : rd so H a = some (.lst xs)) : JokH (Ite K a) xs.length (fun H its => ∃ ys, rd so H a = some (.lst ys) ∧ its = enumI 0 ys) H := ⟨jok_enum S0 a _, fun _ _ _ _ ⟨_, _, _, h1, h2, _⟩ => same_new h1 h2, fun D o hD => by
  obtain ⟨ys, q⟩ := sq_one S0 (o := o) hD h
  cases ys with
  | nil => exact .inl ⟨[], q, Nat.le_refl _⟩
  | cons x r => exact .inr ⟨_, x, q, rfl⟩⟩
theorem jokH_zip {K : PySem.W.Frag} {so : Addr → Option HO} (S0 : SoOk K so) {a b : Addr} {xs ys : List V} {H : Hp} (h : rd so H a = some (.lst xs)) (h' : rd so H b = some (.lst ys)) : JokH (Itz K a b) (min xs.length ys.length) (fun H its => ∃ us vs, rd so H a = some (.lst us) ∧ rd so H b = some (.lst vs) ∧ its = zipI us vs) H := ⟨jok_zip S0 a b _, fun _ _ _ _ ⟨_, _, _, _, h1, h2, _, _⟩ => same_new h1 h2, fun D o hD => by
  obtain ⟨us, q⟩ := sq_one S0 (o := o) hD h
  obtain ⟨ws, q'⟩ := sq_one S0 (o := o) hD h'
  cases us with
  | nil => exact .inl ⟨[], ws, q, q', .inl (Nat.le_refl _)⟩
  | cons x r =>
    cases ws with
    | nil => exact .inl ⟨_, [], q, q', .inr (Nat.le_refl _)⟩
    | cons y r' => exact .inr ⟨_, _, x, y, q, q', rfl, rfl⟩⟩
theorem sq_two {K : PySem.W.Frag} {so : Addr → Option HO} (S0 : SoOk K so) {a D : Addr} {o : HO} {xs : List V} {H : Hp} (hD : H D = none) (h : rd so H a = some (.lst xs)) : SqL K (upd H D o) a xs := by
  by_cases e : a = D
  · subst e
    rcases rd_lst S0 h with r | r
    · unfold Rd at r
      rcases r with r | ⟨_, r⟩ <;> (rw [hD] at r; cases r)
    · exact .inr r
  · exact rd_lst S0 (by rw [rd_upd e]; exact h)
theorem chs_len (z : Str) : (chs z).length = z.cps.size := by
  unfold chs
  rw [List.length_map, Array.length_toList]
theorem chs_get {z : Str} {i c : Nat} (h : z.cps[i]? = some c) : (chs z)[i]? = some (.str ⟨#[c]⟩) := by
  unfold chs
  rw [List.getElem?_map, Array.getElem?_toList, h]
  rfl
theorem jokH_zst {K : PySem.W.Frag} {so : Addr → Option HO} (S0 : SoOk K so) {a : Addr} {xs : List V} {z : Str} {H : Hp} (h : rd so H a = some (.lst xs)) (hl : xs.length = z.cps.size) :
    JokH (Itzs K a z) xs.length (fun H its => ∃ us, rd so H a = some (.lst us) ∧ us.length = z.cps.size ∧ its = zipI us (chs z)) H where
  j := {
    stop := fun H h => by
      obtain ⟨_, ⟨us, h1, h2, rfl⟩, h3⟩ := h
      exact ⟨us, rd_lst S0 h1, by omega, by omega⟩
    go := fun i H h hi => by
      obtain ⟨_, ⟨us, h1, h2, rfl⟩, h3⟩ := h
      exact ⟨us, us[i]'(by omega), z.cps[i]'(by omega), rd_lst S0 h1, by simp, by simp⟩
    yld := fun i H x H' its it hc hn hi y => by
      obtain ⟨us, h1, h2, rfl⟩ := hc
      obtain ⟨T, v, c, rfl, g1, g2, g3, g4⟩ := y
      have e := zipI_get (g3 us (rd_lst S0 h1)) (chs_get g4)
      rw [hi] at e
      cases e
      exact ⟨T, rfl, g1, g2⟩ }
  same := fun _ _ _ _ ⟨_, _, _, _, h1, h2, _, _⟩ => same_new h1 h2
  one := fun D o hD => by
    have q := sq_two S0 (o := o) hD h
    by_cases e : z.cps.size = 0
    · exact .inl ⟨xs, q, by omega, by omega⟩
    · exact .inr ⟨xs, xs[0]'(by omega), z.cps[0]'(by omega), q, by simp, by simp⟩
theorem jokH_tup {K : PySem.W.Frag} {so : Addr → Option HO} (S0 : SoOk K so) {a : Addr} {xs : List V} {H : Hp} (h : rd so H a = some (.tup xs)) : JokH (Itt K a) xs.length (fun H its => ∃ ys, rd so H a = some (.tup ys) ∧ its = ys.map .v) H := ⟨jok_tup S0 a _, fun _ _ _ _ y => same_eq y.1, fun D o hD => by
  by_cases e : a = D
  · subst e
    rcases rd_tup S0 h with r | r
    · unfold Rd at r
      rcases r with r | ⟨_, r⟩ <;> (rw [hD] at r; cases r)
    · have q : SqT K (upd H a o) a xs := .inr r
      cases xs with
      | nil => exact .inl ⟨[], q, Nat.le_refl _⟩
      | cons x r => exact .inr ⟨_, x, q, rfl⟩
  · have q : rd so (upd H D o) a = some (.tup xs) := by rw [rd_upd e]; exact h
    cases xs with
    | nil => exact .inl ⟨[], rd_tup S0 q, Nat.le_refl _⟩
    | cons x r => exact .inr ⟨_, x, rd_tup S0 q, rfl⟩⟩
theorem lc_gen2 {so : Addr → Option HO} {J : It} {cur : Hp → List Itm → Prop} {n : Nat} {g g' : TG} {tt : TT} {te : TE} {vs : List Nat} {σ : St} {H1 : Hp} {D : Addr} {Qd : Hp → Prop} (j : JokH J n cur H1) (hD : H1 D = none)
    (hg : ∀ x H Q, g x (wipe σ vs) H Q → g' x (wipe σ vs) H fun σ2 H2 => wipe σ2 vs = wipe σ vs ∧ Q σ2 H2) (h : so D = none → lcL so cur n g tt te D (wipe σ vs) n (upd H1 D (.lst [])) Qd) :
    ∃ W : Nat → Nat → Hp → Prop, (∃ m, W 0 m (upd H1 D (.lst []))) ∧ ∀ i m H, W i m H →
      (J.stop i H ∧ (NoK so H → Qd H)) ∨ (J.go i H ∧ ∃ Nx : Hp → Prop, (∀ H', Nx H' → ∃ m', m' < m ∧ W (i + 1) m' H') ∧ ∀ x H', J.yld i H x H' → NoK so H' → g' x (wipe σ vs) H' fun σ2 H2 => wipe σ2 vs = wipe σ vs ∧ tt σ2 H2 fun b H3 =>
        if b = true then te σ2 H3 fun y H4 => ∃ acc, H4 D = some (.lst acc) ∧ acc.length < sizeLine ∧ Nx (upd H4 D (.lst (acc ++ [y]))) else Nx H3) := by
  by_cases hs : so D = none
  · obtain ⟨W, a, b⟩ := lc_gen (so := so) j.j hg (h hs)
    refine ⟨W, a, fun i m H w => ?_⟩
    rcases b i m H w with ⟨b1, b2⟩ | ⟨b1, Nx, b2, b3⟩
    · exact .inl ⟨b1, fun _ => b2⟩
    · exact .inr ⟨b1, Nx, b2, b3⟩
  · refine ⟨fun i _ H => i = 0 ∧ H = upd H1 D (.lst []), ⟨0, rfl, rfl⟩, ?_⟩
    rintro i m H ⟨rfl, rfl⟩
    rcases j.one D _ hD with a | a
    · exact .inl ⟨a, fun nk => absurd (nok_upd nk) hs⟩
    · refine .inr ⟨a, fun _ => False, fun H' z => z.elim, fun x H' y nk => ?_⟩
      have e := j.same _ _ _ _ y D _ upd_same
      rw [nk D hs] at e
      cases e
theorem dcL_kp {so : Addr → Option HO} {cur : Hp → List Itm → Prop} {n : Nat} {g : TG} {tt : TT} {tk tv : TE} {D : Addr} {σ : St} {R : Hp → Prop} : ∀ {m : Nat} {H : Hp}, dcL so cur n g tt tk tv D σ m H R → nowK cur n H
  | 0, _, h => h.1
  | _ + 1, _, ⟨its, _, h1, h2, _⟩ => ⟨its, h1, h2⟩
theorem dc_gen {so : Addr → Option HO} {J : It} {cur : Hp → List Itm → Prop} {n : Nat} {g g' : TG} {tt : TT} {tk tv : TE} {vs : List Nat} {σ : St} {H0 : Hp} {D : Addr} {Qd : Hp → Prop} (j : Jok J n cur)
    (hg : ∀ x H Q, g x (wipe σ vs) H Q → g' x (wipe σ vs) H fun σ2 H2 => wipe σ2 vs = wipe σ vs ∧ Q σ2 H2) (h : dcL so cur n g tt tk tv D (wipe σ vs) n H0 Qd) :
    ∃ W : Nat → Nat → Hp → Prop, (∃ m, W 0 m H0) ∧ ∀ i m H, W i m H →
      (J.stop i H ∧ Qd H) ∨ (J.go i H ∧ ∃ Nx : Hp → Prop, (∀ H', Nx H' → ∃ m', m' < m ∧ W (i + 1) m' H') ∧ ∀ x H', J.yld i H x H' → NoK so H' → g' x (wipe σ vs) H' fun σ2 H2 => wipe σ2 vs = wipe σ vs ∧ tt σ2 H2 fun b H3 =>
        if b = true then tk σ2 H3 fun y H4 => tv σ2 H4 fun z H5 => ∃ kvs k, y = kV k ∧ H5 D = some (.dK kvs) ∧ kvs.length < sizeLine ∧ Nx (upd H5 D (.dK (putK kvs k z))) else Nx H3) := by
  refine ⟨fun i m H => m = n - i ∧ i ≤ n ∧ dcL so cur n g tt tk tv D (wipe σ vs) (n - i) H Qd, ⟨n, by simp, Nat.zero_le _, h⟩, ?_⟩
  rintro i m H ⟨rfl, hi, p⟩
  have kq := dcL_kp p
  by_cases hlt : i < n
  · refine .inr ⟨j.go i H kq hlt, fun H' => dcL so cur n g tt tk tv D (wipe σ vs) (n - (i + 1)) H' Qd, fun H' p' => ⟨n - (i + 1), by omega, rfl, hlt, p'⟩, fun x H' y nk => ?_⟩
    have ed : n - i = (n - (i + 1)) + 1 := by omega
    rw [ed] at p
    obtain ⟨its, it, c1, c2, c3, c4⟩ := p
    have c3 : its[i]? = some it := by rw [show n - (n - (i + 1) + 1) = i by omega] at c3; exact c3
    have gv := j.yld i H x H' its it c1 c2 c3 y
    exact hg _ _ _ (ylK_of c4 gv nk)
  · have e : i = n := by omega
    subst e
    rw [Nat.sub_self] at p
    exact .inl ⟨j.stop H kq, p.2⟩
theorem dc_gen2 {so : Addr → Option HO} {J : It} {cur : Hp → List Itm → Prop} {n : Nat} {g g' : TG} {tt : TT} {tk tv : TE} {vs : List Nat} {σ : St} {H1 : Hp} {D : Addr} {Qd : Hp → Prop} (j : JokH J n cur H1) (hD : H1 D = none)
    (hg : ∀ x H Q, g x (wipe σ vs) H Q → g' x (wipe σ vs) H fun σ2 H2 => wipe σ2 vs = wipe σ vs ∧ Q σ2 H2) (h : so D = none → dcL so cur n g tt tk tv D (wipe σ vs) n (upd H1 D (.dK [])) Qd) :
    ∃ W : Nat → Nat → Hp → Prop, (∃ m, W 0 m (upd H1 D (.dK []))) ∧ ∀ i m H, W i m H →
      (J.stop i H ∧ (NoK so H → Qd H)) ∨ (J.go i H ∧ ∃ Nx : Hp → Prop, (∀ H', Nx H' → ∃ m', m' < m ∧ W (i + 1) m' H') ∧ ∀ x H', J.yld i H x H' → NoK so H' → g' x (wipe σ vs) H' fun σ2 H2 => wipe σ2 vs = wipe σ vs ∧ tt σ2 H2 fun b H3 =>
        if b = true then tk σ2 H3 fun y H4 => tv σ2 H4 fun z H5 => ∃ kvs k, y = kV k ∧ H5 D = some (.dK kvs) ∧ kvs.length < sizeLine ∧ Nx (upd H5 D (.dK (putK kvs k z))) else Nx H3) := by
  by_cases hs : so D = none
  · obtain ⟨W, a, b⟩ := dc_gen (so := so) j.j hg (h hs)
    refine ⟨W, a, fun i m H w => ?_⟩
    rcases b i m H w with ⟨b1, b2⟩ | ⟨b1, Nx, b2, b3⟩
    · exact .inl ⟨b1, fun _ => b2⟩
    · exact .inr ⟨b1, Nx, b2, b3⟩
  · refine ⟨fun i _ H => i = 0 ∧ H = upd H1 D (.dK []), ⟨0, rfl, rfl⟩, ?_⟩
    rintro i m H ⟨rfl, rfl⟩
    rcases j.one D _ hD with a | a
    · exact .inl ⟨a, fun nk => absurd (nok_upd nk) hs⟩
    · refine .inr ⟨a, fun _ => False, fun H' z => z.elim, fun x H' y nk => ?_⟩
      have e := j.same _ _ _ _ y D _ upd_same
      rw [nk D hs] at e
      cases e
theorem PG.nok {X : Cx} {so : Addr → Option HO} (S : SoOk X.K so) {e : Expr} {g : TG} (h : PG X e g) : PG X e (fun v σ H Q => NoK so H → g v σ H Q) := ⟨fun pins s σ H v u Q I r z => h.run pins s σ H v u Q I r (z (nok_of S I))⟩
theorem bltOf_eq {X : Cx} {S : Stat} {F : Sm} {k : Nat} {C : CI} {W : WX} (O : OkE X S F k C W) {nm : Str} {e : Expr} {as : List Expr} (hn : nm = "enumerate" ∨ nm = "zip") (h : bltOf C nm e = some as) : ∃ p q, e = .Call (.Name nm p) as [] q ∧ Gl X nm ∧ X.mg nm = none := by
  cases e with
  | Call f bs ks q =>
    obtain ⟨h1, h2⟩ := if_some h
    cases h2
    split at h1
    · rename_i x e
      rw [nmOf_eq e]
      simp only [Bool.and_eq_true, beq_iff_eq] at h1
      obtain ⟨⟨h1, h2⟩, h3⟩ := h1
      rw [h1] at h2 h3 ⊢
      exact ⟨_, _, rfl, O.gl h2, O.G.fre nm hn h3⟩
    · cases h1
  | _ => cases h
theorem zstOf_eq {X : Cx} {S : Stat} {F : Sm} {k : Nat} {C : CI} {W : WX} (O : OkE X S F k C W) {e : Expr} {as : List Expr} (h : zstOf C e = some as) : ∃ p q ck cp kp, e = .Call (.Name "zip" p) as [⟨some "strict", .Constant (.bool true) ck cp, kp⟩] q ∧ Gl X "zip" ∧ X.mg "zip" = none := by
  cases e with
  | Call f bs ks q =>
    obtain ⟨h1, h2⟩ := if_some h
    cases h2
    split at h1
    · rename_i x e
      rw [nmOf_eq e]
      simp only [Bool.and_eq_true, beq_iff_eq] at h1
      obtain ⟨⟨⟨h1, h2⟩, h3⟩, h4⟩ := h1
      rw [h1] at h2 h3 ⊢
      unfold isStr1 at h4
      split at h4
      · rename_i k c1 c2 c3
        have : k = "strict" := by simpa using h4
        subst this
        exact ⟨_, _, _, _, _, rfl, O.gl h2, O.G.fre "zip" (.inr rfl) h3⟩
      · cases h4
    · cases h1
  | _ => cases h
/-- a source, as the library's rules want it -/
def wiOf (S : Stat) (F : Sm) (W : WX) (K : PySem.W.Frag) : Sr → TI
  | .rng lo hi => fun σ H R => wE S F W lo σ H fun x H1 => wE S F W hi σ H1 fun y H2 => ∃ i j : Int, [x, y] = [V.int i, V.int j] ∧ R (Itr i (j - i).toNat) H2
  | .val e => iSeq K (wE S F W e)
  | .enm e => fun σ H R => wE S F W e σ H fun x H1 => ∃ a xs, [x] = [V.ref a] ∧ SqL K H1 a xs ∧ R (Ite K a) H1
  | .zip a b => fun σ H R => wE S F W a σ H fun x H1 => wE S F W b σ H1 fun y H2 => ∃ a b xs ys, [x, y] = [V.ref a, V.ref b] ∧ SqL K H2 a xs ∧ SqL K H2 b ys ∧ R (Itz K a b) H2
  | .zst a b => fun σ H R => wE S F W a σ H fun x H1 => wE S F W b σ H1 fun y H2 => ∃ a xs z, [x, y] = [V.ref a, .str z] ∧ SqL K H2 a xs ∧ asciiB z = true ∧ R (Itzs K a z) H2
theorem wi_of {X : Cx} {S : Stat} {F : Sm} {k : Nat} {C : CI} {W : WX} (O : OkE X S F k C W) (M : SmMono F) (s : Sr) : ∀ σ H (R : It → Hp → Prop), wI S F W s σ H (fun n cur H1 => ∀ J, JokH J n cur H1 → R J H1) → wiOf S F W X.K s σ H R := by
  intro σ H R z
  cases s with
  | rng lo hi =>
    unfold wI at z
    refine wE_mono M lo (fun x H1 z1 => wE_mono M hi (fun y H2 z2 => ?_) z1) z
    unfold intK at z2
    split at z2
    · split at z2
      · exact ⟨_, _, rfl, z2 _ (jokH_rng _ _ _)⟩
      · exact z2.elim
    · exact z2.elim
  | val c =>
    unfold wI at z
    refine wE_mono M c (fun x H1 z1 => ?_) z
    unfold seqK at z1
    split at z1
    · split at z1
      · rename_i q
        exact ⟨_, rfl, .inl ⟨⟨_, rd_lst O.G.so q⟩, z1 _ (jokH_lst O.G.so q)⟩⟩
      · rename_i q
        exact ⟨_, rfl, .inr ⟨⟨_, rd_tup O.G.so q⟩, z1 _ (jokH_tup O.G.so q)⟩⟩
      · exact z1.elim
    · exact z1.elim
  | enm c =>
    unfold wI at z
    refine wE_mono M c (fun x H1 z1 => ?_) z
    unfold lsqK at z1
    split at z1
    · split at z1
      · rename_i r
        exact ⟨_, _, rfl, rd_lst O.G.so r, z1 _ (jokH_enum O.G.so r)⟩
      · exact z1.elim
    · exact z1.elim
  | zip c d =>
    unfold wI at z
    refine wE_mono M c (fun x H1 z1 => wE_mono M d (fun y H2 z2 => ?_) z1) z
    unfold lsqK at z2
    split at z2
    · split at z2
      · rename_i r
        split at z2
        · split at z2
          · rename_i r2
            exact ⟨_, _, _, _, rfl, rd_lst O.G.so r, rd_lst O.G.so r2, z2 _ (jokH_zip O.G.so r r2)⟩
          · exact z2.elim
        · exact z2.elim
      · exact z2.elim
    · exact z2.elim
  | zst c d =>
    unfold wI at z
    refine wE_mono M c (fun x H1 z1 => wE_mono M d (fun y H2 z2 => ?_) z1) z
    unfold zstK at z2
    split at z2
    · split at z2
      · rename_i r
        exact ⟨_, _, _, rfl, rd_lst O.G.so r, z2.2.1, z2.2.2 _ (jokH_zst O.G.so r z2.1)⟩
      · exact z2.elim
    · exact z2.elim
end QL
set_option Elab.async false
set_option linter.all false
set_option maxRecDepth 100000
set_option maxHeartbeats 4000000
/-! Q8: the turned expressions keep what is asked: the whole induction. -/
namespace QL
open PySem PySem.Spec L2
open PyProof.Rows hiding St
def lenX : Exs → Nat
  | .nil => 0
  | .cons _ es => lenX es + 1
section
variable {X : Cx} {S : Stat} {F : Sm} {k : Nat} {C : CI} {W : WX} (O : OkE X S F k C W) (M : SmMono F)
include O M
theorem idx_ok {n : Nat} {o i : Expr} {p : Pos} {c : Ex} (iE : ∀ e c, cE C n e = some c → PE X e (wE S F W c)) (hi : notSlice i = true) (h : two (cE C n o) (cE C n i) Ex.idx = some c) : PE X (.Subscript o i p) (wE S F W c) := by
  obtain ⟨o', i', h1, h2, rfl⟩ := two_some h
  refine PE.imp (pe_ix (ix_idxV O.G.so O.hu1) (iE o o' h1) (iE i i' h2) (slice_ok hi)) fun σ H Q z => ?_
  unfold wE at z
  exact z
theorem val_ok {n : Nat} {e : Expr} {c : Te} (iE : ∀ e c, cE C n e = some c → PE X e (wE S F W c)) (hp : plainTest e = true) (h : (cE C n e).map Te.val = some c) : PT X e (wT S F W c) := by
  obtain ⟨e', h1, rfl⟩ := map_some h
  refine PT.imp (pt_truth (iE e e' h1) (test_ok hp)) fun σ H Q z => ?_
  unfold wT at z
  exact wE_mono M e' (fun x H1 z1 => tru_ex (B := fun k => Q k H1) O.G.so z1) z
omit O in
theorem nCE_app {f : Expr → Option Ex} : ∀ {as bs : List Expr} {c : Exs}, nCE f (as ++ bs) = some c → ∃ c1 c2, nCE f as = some c1 ∧ nCE f bs = some c2 ∧ ∀ σ H (Q : List V → Hp → Prop), wA S F W c σ H Q → wA S F W c1 σ H fun vs H1 => wA S F W c2 σ H1 fun ws H2 => Q (vs ++ ws) H2
  | [], bs, c, h => ⟨.nil, c, rfl, h, fun σ H Q z => by unfold wA; exact z⟩
  | a :: as, bs, c, h => by
    obtain ⟨x, y, h1, h2, rfl⟩ := nCE_cons (f := f) h
    obtain ⟨c1, c2, g1, g2, g3⟩ := nCE_app h2
    refine ⟨.cons x c1, c2, ?_, g2, fun σ H Q z => ?_⟩
    · unfold nCE
      rw [h1, g1]
    · rw [wA] at z ⊢
      exact wE_mono M x (fun v H1 z1 => wA_mono M c1 (fun vs H2 z2 => wA_mono M c2 (fun ws H3 z3 => z3) z2) (g3 σ H1 _ z1)) z
omit O in
theorem wA_len : ∀ (c : Exs) {σ : St} {H : Hp} {Q : List V → Hp → Prop}, wA S F W c σ H Q → wA S F W c σ H fun vs H1 => vs.length = lenX c ∧ Q vs H1
  | .nil, σ, H, Q, z => by
    rw [wA] at z ⊢
    exact ⟨rfl, z⟩
  | .cons e es, σ, H, Q, z => by
    rw [wA] at z ⊢
    exact wE_mono M e (fun x H1 z1 => wA_mono M es (fun xs H2 z2 => ⟨by rw [List.length_cons, z2.1]; rfl, z2.2⟩) (wA_len es z1)) z
omit O M in
theorem nCE_len {f : Expr → Option Ex} : ∀ {as : List Expr} {c : Exs}, nCE f as = some c → lenX c = as.length
  | [], c, h => by cases h; rfl
  | a :: as, c, h => by
    obtain ⟨x, y, h1, h2, rfl⟩ := nCE_cons (f := f) h
    show lenX y + 1 = _
    rw [nCE_len h2]
    rfl
omit O M in
theorem kws_pk {n : Nat} (iE : ∀ e c, cE C n e = some c → PE X e (wE S F W c)) : ∀ {ks : List Keyword} {kk : List (Str × Expr)} {c : Exs}, kwsOf ks = some kk → nCE (cE C n) (kk.map (·.2)) = some c →
    PK X ks (wA S F W c) ∧ ∀ pos : Pos, (backToKw pos (keywordEach ks X.env)).all (·.1.isSome) = true ∧ (backToKw pos (keywordEach ks X.env)).filterMap (·.1) = kk.map (·.1) ∧ (backToKw pos (keywordEach ks X.env)).any (·.1.isNone) = false
  | [], kk, c, h, hc => by
    cases h
    cases hc
    refine ⟨?_, fun pos => ⟨rfl, rfl, rfl⟩⟩
    unfold wA
    exact pk_nil
  | ⟨nm, e, kp⟩ :: ks, kk, c, h, hc => by
    obtain ⟨a, b, h1, h2, rfl⟩ := two_some (f := fun a b => a :: b) h
    unfold kwOf at h1
    obtain ⟨y, h3, rfl⟩ := map_some h1
    simp only at h3
    subst h3
    obtain ⟨x, z, g1, g2, rfl⟩ := nCE_cons hc
    obtain ⟨P, q⟩ := kws_pk iE h2 g2
    refine ⟨?_, fun pos => ?_⟩
    · unfold wA
      exact pk_cons (iE _ _ g1) P
    · obtain ⟨q1, q2, q3⟩ := q pos
      have ee : backToKw pos (keywordEach (⟨some y, e, kp⟩ :: ks) X.env) = (some y, do let v ← eval e X.env; standAt pos; pure v) :: backToKw pos (keywordEach ks X.env) := rfl
      rw [ee]
      refine ⟨?_, ?_, ?_⟩
      · rw [List.all_cons, q1]; rfl
      · rw [List.filterMap_cons, q2]; rfl
      · rw [List.any_cons, q3]; rfl
theorem mkCk_ok {n : Nat} (iE : ∀ e c, cE C n e = some c → PE X e (wE S F W c)) {x : Str} {q p : Pos} {a : Expr} {as : List Expr} {k : Keyword} {ks : List Keyword} {kk : List (Str × Expr)} {c : Ex} (hg : Gl X x) (h1 : kwsOf (k :: ks) = some kk) (h2 : cMkC C (cE C n) x (a :: as) kk = some c) :
    PE X (.Call (.Name x q) (a :: as) (k :: ks) p) (wE S F W c) := by
  unfold cMkC at h2
  cases e : C.gl x with
  | ocl =>
    rw [e] at h2
    obtain ⟨es, h3, rfl⟩ := map_some h2
    obtain ⟨c1, c2, g1, g2, g3⟩ := nCE_app (S := S) (F := F) (W := W) M h3
    have PAs := nCE_pa iE g1
    have st := nCE_star g1
    obtain ⟨P, hk⟩ := kws_pk (X := X) iE h1 g2
    obtain ⟨k1, k2, k3⟩ := hk p
    refine ⟨fun pins s σ H Q I z => ?_⟩
    unfold wE at z
    have z := wA_mono M c1 (fun vs H1 z1 => wA_len M c2 z1) (g3 σ H _ z)
    obtain ⟨D, hdb, hm, hkp⟩ := O.G.own x (.inr e)
    refine wpAny_Call_Name_kw (ld_glob I hg hm ?_ hdb)
    refine PySem.W.callWith_KW (h₀ := X.base) I.ok.mod.kin hkp k1 (thn (PAs.run p pins s σ H _ I z) fun us s1 ⟨vs, H1, I1, r, q1⟩ => ?_) ?_ (star_one (st a (List.mem_cons_self ..)))
    · refine thn (P.run p pins s1 σ H1 _ I1 q1) fun ws s2 ⟨zs, H2, I2, rz, hzl, q2⟩ => ⟨I2.kIn, ?_⟩
      rw [k2]
      have hl : (kk.map (·.1)).length = zs.length := by
        rw [hzl, nCE_len g2, List.length_map, List.length_map]
      · have q3 := mk_run O M e hm I2 (r.append rz) rfl q2
        have e1 : (vs ++ zs).length - (kk.map (·.1)).length = us.length := by
          rw [List.length_append, hl, r.length]
          omega
        rw [e1, List.take_left, List.drop_left] at q3
        exact q3
    · have s1 := star_no (env := X.env) (pos := p) st
      rw [s1, k3]
      rfl
  | _ => rw [e] at h2; cases h2
theorem met_ok {n : Nat} {o : Expr} {m : Str} {ap p : Pos} {as : List Expr} {o' : Ex} {es : Exs} (hp : plainBase o = true) (hl : (ap.endLine == p.line) = true) (hf : as.length < 20) (ho : PE X o (wE S F W o')) (ha : nCE (cE C n) as = some es) (iE : ∀ e c, cE C n e = some c → PE X e (wE S F W c)) :
    PE X (.Call (.Attribute o m ap) as [] p) (wE S F W (.met o' m es)) := by
  have st := nCE_star ha
  have PAs := nCE_pa iE ha
  refine ⟨fun pins s σ H Q I z => ?_⟩
  unfold wE at z
  refine PySem.W.methodCall_KW (thn (ho.run pins s σ H _ I z) fun u s1 ⟨x, H1, I1, rx, q⟩ => ?_) (meth_eval hp st hf hl)
  change metK S m x H1 _ at q
  unfold metK at q
  cases x with
  | ref a =>
    obtain rfl : u = Value.ref a := rx
    simp only at q
    split at q
    · rename_i D dx fs ea
      obtain ⟨hlk, q⟩ := q
      split at q
      · rename_i g eg
        obtain ⟨cl, f, fd, ps, hm, Fn, hb⟩ := O.G.mt D m g eg
        refine getmeth_ok I1 ea cl hm hlk ?_
        cases as with
        | nil =>
          cases ha
          unfold wA at q
          refine PySem.W.callWith_K0 (first := [.ref a]) I1.kIn hm.kp (run_g (us := [.ref a]) (full := [.ref a]) (vs := [.ref a]) Fn O.gd (O.rm.mono (Nat.le_succ _)) O.tk I1 ?_ (.cons rfl .nil) q)
          have hlen := Fn.len _ _ _ _ q
          have := hb s1 [.ref a] I1.kIn (by simpa using hlen)
          rwa [List.append_nil] at this
        | cons e es' =>
          refine PySem.W.callWith_K (first := [.ref a]) (h₀ := X.base) I.ok.mod.kin hm.kp (thn (PAs.run p pins s1 σ H1 _ I1 q) fun us s2 ⟨vs, H2, I2, r, q2⟩ => ⟨I2.kIn, ?_⟩) (star_one (st e (List.mem_cons_self ..))) (star_no fun e he => st e (List.mem_cons_of_mem _ he))
          refine run_g (us := .ref a :: us) (full := .ref a :: us) (vs := .ref a :: vs) Fn O.gd (O.rm.mono (Nat.le_succ _)) O.tk I2 ?_ (.cons rfl r) q2
          have hlen := Fn.len _ _ _ _ q2
          have := hb s2 (.ref a :: us) I2.kIn (by simpa [← r.length] using hlen)
          rwa [List.append_nil] at this
      · exact q.elim
    · exact q.elim
  | _ => exact q.elim
omit M in
theorem bm_ty {m : Bm} {x : V} {H : Hp} (h : bmTyK S m x H) : tyV X.K (bmTy m) x H := by
  unfold bmTyK at h
  split at h
  · rename_i hm
    split at h
    · split at h
      · rename_i e
        refine .inr (.inr (.inl ⟨(by cases m <;> first | rfl | cases hm), .inl ⟨_, e⟩⟩))
      · exact h.elim
    · exact h.elim
  · rename_i hm
    split at h
    · split at h
      · rename_i e
        refine .inl ⟨(by cases m <;> first | rfl | cases hm), _, rd_lst O.G.so e⟩
      · exact h.elim
    · exact h.elim
def bmI : Bm → String
  | .count => "list.count" | .append => "list.append" | .insert => "list.insert" | .remove => "list.remove" | .extend => "list.extend" | .dpop1 => "dict.pop" | .dpop2 => "dict.pop" | .dget1 => "dict.get" | .dget2 => "dict.get"
omit M in
theorem bm_mt : ∀ m : Bm, MtR X (bmI m) (bmV S m)
  | .count => fun pins s σ H x xs v us Q I rx rxs h => mt_count pins s σ H x xs v us Q I rx rxs (by
    change mCount S x xs H Q at h
    unfold mCount at h
    split at h
    · split at h
      · rename_i e
        exact ⟨_, _, _, rfl, rfl, rd_lst O.G.so e, h.1, h.2.1, h.2.2⟩
      · exact h.elim
    · exact h.elim)
  | .append => fun pins s σ H x xs v us Q I rx rxs h => mt_append pins s σ H x xs v us Q I rx rxs (by
    change mAppend x xs H Q at h
    unfold mAppend at h
    split at h
    · split at h
      · rename_i e
        exact ⟨_, _, _, rfl, rfl, e, h.1, h.2⟩
      · exact h.elim
    · exact h.elim)
  | .insert => fun pins s σ H x xs v us Q I rx rxs h => mt_insert pins s σ H x xs v us Q I rx rxs (by
    change mInsert x xs H Q at h
    unfold mInsert at h
    split at h
    · split at h
      · rename_i e
        obtain ⟨rfl, h2, h3⟩ := h
        exact ⟨_, _, _, _, rfl, rfl, e, h2, Int.le_refl _, by decide, by simpa using h3⟩
      · exact h.elim
    · exact h.elim)
  | .remove => fun pins s σ H x xs v us Q I rx rxs h => mt_remove pins s σ H x xs v us Q I rx rxs (by
    change mRemove x xs H Q at h
    unfold mRemove at h
    split at h
    · obtain ⟨ns, j, h1, h2, h3, h4⟩ := h
      exact ⟨_, ns, _, j, rfl, rfl, h1, h2, h3, h4⟩
    · exact h.elim)
  | .extend => fun pins s σ H x xs v us Q I rx rxs h => mt_extend pins s σ H x xs v us Q I rx rxs (by
    change mExtend x xs H Q at h
    unfold mExtend at h
    split at h
    · obtain ⟨ns, j, h1, h2, h3, h4⟩ := h
      exact ⟨_, _, ns, j, rfl, rfl, h1, h2, h3, h4⟩
    · exact h.elim)
  | .dpop1 => fun pins s σ H x xs v us Q I rx rxs h => by
    change mDPop1 x xs H Q at h
    unfold mDPop1 at h
    split at h
    · obtain ⟨kvs, k, w, h1, rfl, h3, h4⟩ := h
      cases rx
      obtain ⟨u, rfl, ru⟩ := vals1 rxs
      exact d_pop I h1 ru h3 (.inl rfl) fun w' s3 I3 rw' => ⟨w, _, I3, rw', h4⟩
    · exact h.elim
  | .dpop2 => fun pins s σ H x xs v us Q I rx rxs h => by
    change mDPop2 x xs H Q at h
    unfold mDPop2 at h
    split at h
    · obtain ⟨kvs, k, h1, rfl, h4⟩ := h
      cases rx
      obtain ⟨u, u2, rfl, ru, ru2⟩ := vals2 rxs
      split at h4
      · rename_i w l
        exact d_pop I h1 ru l (.inr ⟨u2, rfl⟩) fun w' s3 I3 rw' => ⟨w, _, I3, rw', h4⟩
      · rename_i l
        exact d_popD I h1 ru l fun s3 I3 => ⟨_, _, I3, ru2, h4⟩
    · exact h.elim
  | .dget1 => fun pins s σ H x xs v us Q I rx rxs h => by
    change mDGet1 x xs H Q at h
    unfold mDGet1 at h
    split at h
    · obtain ⟨kvs, k, h1, rfl, h4⟩ := h
      cases rx
      obtain ⟨u, rfl, ru⟩ := vals1 rxs
      exact d_get1 O.hu1 I (DGet.k h1) ru fun w' s3 I3 rw' => ⟨_, _, I3, rw', h4⟩
    · exact h.elim
  | .dget2 => fun pins s σ H x xs v us Q I rx rxs h => by
    change mDGet2 x xs H Q at h
    unfold mDGet2 at h
    split at h
    · obtain ⟨kvs, k, h1, rfl, h4⟩ := h
      cases rx
      obtain ⟨u, u2, rfl, ru, ru2⟩ := vals2 rxs
      exact d_get2 O.hu1 I (DGet.k h1) ru ru2 fun w' s3 I3 rw' => ⟨_, _, I3, rw', h4⟩
    · exact h.elim
omit M in
theorem bm_pe {m : Bm} {o e : Expr} {es : List Expr} {to : TE} {t : TA} {apos cpos : Pos} (ho : PE X o to) (ha : PA X (e :: es) t) (hbase : attributeBase o (bmN m) X.env (eval o X.env) = eval o X.env)
    (hfew : ((backTo cpos (starEach (e :: es) X.env)).all (fun x => !x.1) && (backToKw cpos (keywordEach [] X.env)).all (fun x => x.1.isSome)
      && decide ((e :: es).length + ([] : List Keyword).length + (if ([] : List Keyword).isEmpty then 0 else 1) < 30)) = true)
    (hline : (apos.endLine == cpos.line) = true) (hs : starEach (e :: es) X.env = (false, eval e X.env) :: starEach es X.env) (hplain : (backTo cpos (starEach es X.env)).any (·.1) = false) :
    PE X (.Call (.Attribute o (bmN m) apos) (e :: es) [] cpos) (tBM X.K (bmTy m) (bmV S m) to t) := by
  cases m with
  | count => exact pe_bm PySem.F.plainAttrs_list PySem.F.slot_list_count PySem.F.type_list_count (bm_mt O .count) ho ha hbase hfew hline hs hplain
  | append => exact pe_bm PySem.F.plainAttrs_list PySem.F.slot_list_append PySem.F.type_list_append (bm_mt O .append) ho ha hbase hfew hline hs hplain
  | insert => exact pe_bm PySem.F.plainAttrs_list PySem.F.slot_list_insert PySem.F.type_list_insert (bm_mt O .insert) ho ha hbase hfew hline hs hplain
  | remove => exact pe_bm PySem.F.plainAttrs_list PySem.F.slot_list_remove PySem.F.type_list_remove (bm_mt O .remove) ho ha hbase hfew hline hs hplain
  | extend => exact pe_bm PySem.F.plainAttrs_list PySem.F.slot_list_extend PySem.F.type_list_extend (bm_mt O .extend) ho ha hbase hfew hline hs hplain
  | dpop1 => exact pe_bm PySem.F.plainAttrs_dict PySem.F.slot_dict_pop PySem.F.type_dict_pop (bm_mt O .dpop1) ho ha hbase hfew hline hs hplain
  | dpop2 => exact pe_bm PySem.F.plainAttrs_dict PySem.F.slot_dict_pop PySem.F.type_dict_pop (bm_mt O .dpop2) ho ha hbase hfew hline hs hplain
  | dget1 => exact pe_bm PySem.F.plainAttrs_dict PySem.F.slot_dict_get PySem.F.type_dict_get (bm_mt O .dget1) ho ha hbase hfew hline hs hplain
  | dget2 => exact pe_bm PySem.F.plainAttrs_dict PySem.F.slot_dict_get PySem.F.type_dict_get (bm_mt O .dget2) ho ha hbase hfew hline hs hplain
omit O M in
theorem bmOf_name {m : Str} {k : Nat} {b : Bm} (h : bmOf m k = some b) : m = bmN b := by
  have key : ∀ (l : List ((Str × Nat) × Bm)), (∀ e ∈ l, e.1.1 = bmN e.2) → l.lookup (m, k) = some b → m = bmN b := by
    intro l
    induction l with
    | nil => intro _ h; cases h
    | cons e r ih =>
      intro a h
      obtain ⟨p, c⟩ := e
      rw [List.lookup_cons] at h
      split at h
      · rename_i q
        cases h
        have e1 : (m, k) = p := by simpa using q
        have := a (p, b) (List.mem_cons_self ..)
        rw [← e1] at this
        exact this
      · exact ih (fun e he => a e (List.mem_cons_of_mem _ he)) h
  exact key bms (by decide) h
theorem bm_ok {n : Nat} {o : Expr} {m : Str} {b : Bm} {ap p : Pos} {as : List Expr} {o' : Ex} {es : Exs} {bk : Nat} (hne : (!(as.length == 0)) = true) (hb : bmOf m bk = some b) (hp : plainBase o = true) (hl : (ap.endLine == p.line) = true) (hf : as.length < 20) (ho : PE X o (wE S F W o')) (ha : nCE (cE C n) as = some es) (iE : ∀ e c, cE C n e = some c → PE X e (wE S F W c)) :
    PE X (.Call (.Attribute o m ap) as [] p) (wE S F W (.bm b o' es)) := by
  have st := nCE_star ha
  have PAs := nCE_pa iE ha
  cases as with
  | nil => cases hne
  | cons e es' =>
    have em := bmOf_name hb
    subst em
    have h1 := star_no (env := X.env) (pos := p) st
    have h2 : (backTo p (starEach (e :: es') X.env)).all (fun x => !x.1) = true := by
      rw [List.all_eq_true]
      intro x hx
      rw [List.any_eq_false] at h1
      simpa using h1 x hx
    refine PE.imp (bm_pe O ho PAs (base_ok hp) ?_ hl (star_one (st e (List.mem_cons_self ..))) (star_no fun e he => st e (List.mem_cons_of_mem _ he))) fun σ H Q z => ?_
    · rw [h2]
      show (true && true && decide ((e :: es').length + 0 + 0 < 30)) = true
      simp at hf ⊢
      omega
    · unfold wE at z
      exact wE_mono M o' (fun x H1 z1 => ⟨bm_ty O z1.1, z1.2⟩) z
omit M in
theorem src_pi {n : Nat} (M : SmMono F) {tg it : Expr} {s : Sr} (iE : ∀ e c, cE C n e = some c → PE X e (wE S F W c)) (h : cSr C (cE C n) tg it = some s) :
    PI X tg it (wiOf S F W X.K s) ∧ ∀ env x, foldedSetIterable it env x = pure x := by
  unfold cSr at h
  cases e : rngOf C it with
  | none =>
    simp only [e] at h
    cases e2 : bltOf C "enumerate" it with
    | some as =>
      simp only [e2] at h
      obtain ⟨p, q, rfl, hg, hm⟩ := bltOf_eq O (.inl rfl) e2
      match as, h with
      | [a], h =>
        obtain ⟨ht, h⟩ := if_some h
        obtain ⟨c, h1, rfl⟩ := map_some h
        cases tg with
        | Tuple elts kk tpos => exact ⟨pi_enum (p := p) (pos := q) (tpos := tpos) (elts := elts) (kk := kk) hg hm (pa_cons (iE a c h1) pa_nil (star_one (cE_star h1))) (star_one (cE_star h1)), fun _ _ => rfl⟩
        | _ => cases ht
    | none =>
      simp only [e2] at h
      cases e3 : bltOf C "zip" it with
      | some as =>
        simp only [e3] at h
        obtain ⟨p, q, rfl, hg, hm⟩ := bltOf_eq O (.inr rfl) e3
        match as, h with
        | [a, b], h =>
          obtain ⟨ht, h⟩ := if_some h
          obtain ⟨c, d, h1, h2, rfl⟩ := two_some (f := Sr.zip) h
          cases tg with
          | Tuple elts kk tpos =>
            exact ⟨pi_zip (p := p) (pos := q) (tpos := tpos) (elts := elts) (kk := kk) hg hm (pa_cons (iE a c h1) (pa_cons (iE b d h2) pa_nil (star_one (cE_star h2))) (star_one (cE_star h1))) (star_one (cE_star h1)) (star_no fun e he => by
              have : e = b := by simpa using he
              rw [this]
              exact cE_star h2), fun _ _ => rfl⟩
          | _ => cases ht
      | none =>
        simp only [e3] at h
        cases e4 : zstOf C it with
        | some as =>
          simp only [e4] at h
          obtain ⟨p, q, ck, cp, kp, rfl, hg, hm⟩ := zstOf_eq O e4
          match as, h with
          | [a, b], h =>
            obtain ⟨ht, h⟩ := if_some h
            obtain ⟨c, d, h1, h2, rfl⟩ := two_some (f := Sr.zst) h
            cases tg with
            | Tuple elts kk tpos =>
              exact ⟨pi_zs (p := p) (pos := q) (tpos := tpos) (elts := elts) (kk := kk) hg hm (pa_cons (iE a c h1) (pa_cons (iE b d h2) pa_nil (star_one (cE_star h2))) (star_one (cE_star h1))) (star_one (cE_star h1)) (star_no fun e he => by
                have : e = b := by simpa using he
                rw [this]
                exact cE_star h2), fun _ _ => rfl⟩
            | _ => cases ht
        | none =>
          simp only [e4] at h
          obtain ⟨hw, h⟩ := if_some h
          obtain ⟨c, h1, rfl⟩ := map_some h
          refine ⟨pi_seq (iE it c h1), ?_⟩
          intro env x
          cases it <;> first | rfl | cases hw
  | some as =>
    simp only [e] at h
    obtain ⟨x, p, q, rfl, hr⟩ := rngOf_eq e
    obtain ⟨rfl, hg, hm⟩ := rng_name O hr
    match as, h with
    | [a], h =>
      obtain ⟨a', h1, rfl⟩ := map_some (f := Sr.rng (.lit (.int 0))) h
      refine ⟨PI.imp (pi_rng1 (tg := tg) (p := p) (pos := q) hg hm (iE a a' h1) (cE_star h1)) fun σ H R z => ?_, fun _ _ => rfl⟩
      unfold wiOf wE at z
      refine wE_mono M a' (fun x H1 z1 => ?_) z
      obtain ⟨i, j, e1, z1⟩ := z1
      cases e1
      exact ⟨_, rfl, z1⟩
    | [a, d], h =>
      obtain ⟨a', d', h1, h2, rfl⟩ := two_some (f := Sr.rng) h
      exact ⟨pi_rng2 (tg := tg) (p := p) (pos := q) hg hm (iE a a' h1) (iE d d' h2) (cE_star h1) (cE_star h2), fun _ _ => rfl⟩
omit M in
theorem src_ok {n : Nat} (M : SmMono F) {tg it : Expr} {s : Sr} (iE : ∀ e c, cE C n e = some c → PE X e (wE S F W c)) (h : cSr C (cE C n) tg it = some s) :
    ∃ wi, PI X tg it wi ∧ (∀ x, foldedSetIterable it X.env x = pure x) ∧ ∀ σ H (R : It → Hp → Prop), wI S F W s σ H (fun n cur H1 => ∀ J, JokH J n cur H1 → R J H1) → wi σ H R :=
  ⟨_, (src_pi O M iE h).1, fun x => (src_pi O M (tg := tg) iE h).2 X.env x, wi_of O M s⟩
omit M in
theorem tg_ok {scope : Scope} {tg : Expr} {u : Tg × List (Str × Nat)} (h : cTg (C.blk scope) tg = some u) (ho : ownOk scope u.2 = true) :
    ∃ g : TG, (∀ (s : Shared) (H : Hp) (Cc : Addr) (cl : List (Str × Addr)) (fp : List Addr), PG (X.blk s H scope (compEnvC scope cl Cc X.env) fp) tg g) ∧
      ∀ σ x H Q, gT S.so u.1 x (wipe σ (u.2.map (·.2))) H Q → g x (wipe σ (u.2.map (·.2))) H fun σ2 H2 => wipe σ2 (u.2.map (·.2)) = wipe σ (u.2.map (·.2)) ∧ Q σ2 H2 := by
  have ho' : ∀ p ∈ u.2, scope.names.lookup p.1 = some .local ∨ scope.names.lookup p.1 = some .cell := fun p hp => by
    have := List.all_eq_true.mp ho p hp
    split at this
    · exact .inl (by assumption)
    · exact .inr (by assumption)
    · cases this
  cases tg with
  | Name x p =>
    obtain ⟨i, h1, rfl⟩ := map_some (f := fun i => (Tg.nm i, [(x, i)])) h
    refine ⟨gName i, fun s H Cc cl fp => ?_, fun σ y H Q z => ⟨?_, z⟩⟩
    · obtain ⟨nd, l1, l2, l3⟩ := O.blk_loc s H Cc cl fp (ho' (x, i) (by simp)) h1
      exact pg_name nd l1 l2 l3
    · rw [wipe_set (by simp), wipe_idem]
  | Tuple ts kt pt =>
    obtain ⟨ns, h1, h⟩ := bind_some h
    obtain ⟨is, h2, rfl⟩ := map_some (f := fun is => (Tg.tp is, (ns.map (·.1)).zip is)) h
    have hz : ((ns.map (·.1)).zip is).map (·.2) = is := by
      rw [List.map_snd_zip]
      rw [List.length_map, slots_len h2]
      exact Nat.le_refl _
    refine ⟨gTup X.K ns.length (gL is), fun s H Cc cl fp => ?_, fun σ y H Q z => ?_⟩
    · refine tp_pgL (X := X.blk s H scope (compEnvC scope cl Cc X.env) fp) O.calm h1 h2 fun y hy i hi => ?_
      refine O.blk_loc s H Cc cl fp ?_ hi
      have key : ∀ {ns : List (Str × Pos)} {is : List Nat}, slots (C.blk scope) ns = some is → ∀ y ∈ ns, ∃ i, (y.1, i) ∈ (ns.map (·.1)).zip is := by
        intro ns
        induction ns with
        | nil => intro is _ y hy; cases hy
        | cons w ns ih =>
          intro is h y hy
          obtain ⟨i, r, g1, g2, rfl⟩ := two_some (f := fun a b => a :: b) h
          rcases List.mem_cons.mp hy with rfl | hy
          · exact ⟨i, by simp⟩
          · obtain ⟨j, hj⟩ := ih g2 y hy
            exact ⟨j, by simp [hj]⟩
      obtain ⟨j, hj⟩ := key h2 y hy
      exact ho' _ hj
    · simp only [hz] at z ⊢
      refine gT_gTup O.G.so h2 ?_
      unfold gT at z ⊢
      simp only at z ⊢
      split at z
      · split at z
        · unfold parK at z ⊢
          split at z
          · rename_i e
            exact ⟨by rw [setL_wipe (fun i hi => hi) e, wipe_idem], z⟩
          · exact z.elim
        · exact z.elim
      · exact z.elim
  | _ => cases h
omit M in
theorem tg_okV {vs : List Nat} {scope : Scope} {tg : Expr} {u : Tg × List (Str × Nat)} (h : cTg (C.blk scope) tg = some u) (ho : ownOk scope u.2 = true) (hv : ∀ i ∈ u.2.map (·.2), i ∈ vs) :
    ∃ g : TG, (∀ (s : Shared) (H : Hp) (Cc : Addr) (cl : List (Str × Addr)) (fp : List Addr), PG (X.blk s H scope (compEnvC scope cl Cc X.env) fp) tg g) ∧
      ∀ σ x H Q, gT S.so u.1 x (wipe σ vs) H Q → g x (wipe σ vs) H fun σ2 H2 => wipe σ2 vs = wipe σ vs ∧ Q σ2 H2 := by
  have ho' : ∀ p ∈ u.2, scope.names.lookup p.1 = some .local ∨ scope.names.lookup p.1 = some .cell := fun p hp => by
    have := List.all_eq_true.mp ho p hp
    split at this
    · exact .inl (by assumption)
    · exact .inr (by assumption)
    · cases this
  cases tg with
  | Name x p =>
    obtain ⟨i, h1, rfl⟩ := map_some (f := fun i => (Tg.nm i, [(x, i)])) h
    refine ⟨gName i, fun s H Cc cl fp => ?_, fun σ y H Q z => ⟨?_, z⟩⟩
    · obtain ⟨nd, l1, l2, l3⟩ := O.blk_loc s H Cc cl fp (ho' (x, i) (by simp)) h1
      exact pg_name nd l1 l2 l3
    · rw [wipe_set (hv i (by simp)), wipe_idem]
  | Tuple ts kt pt =>
    obtain ⟨ns, h1, h⟩ := bind_some h
    obtain ⟨is, h2, rfl⟩ := map_some (f := fun is => (Tg.tp is, (ns.map (·.1)).zip is)) h
    have hz : ((ns.map (·.1)).zip is).map (·.2) = is := by
      rw [List.map_snd_zip]
      rw [List.length_map, slots_len h2]
      exact Nat.le_refl _
    refine ⟨gTup X.K ns.length (gL is), fun s H Cc cl fp => ?_, fun σ y H Q z => ?_⟩
    · refine tp_pgL (X := X.blk s H scope (compEnvC scope cl Cc X.env) fp) O.calm h1 h2 fun y hy i hi => ?_
      refine O.blk_loc s H Cc cl fp ?_ hi
      have key : ∀ {ns : List (Str × Pos)} {is : List Nat}, slots (C.blk scope) ns = some is → ∀ y ∈ ns, ∃ i, (y.1, i) ∈ (ns.map (·.1)).zip is := by
        intro ns
        induction ns with
        | nil => intro is _ y hy; cases hy
        | cons w ns ih =>
          intro is h y hy
          obtain ⟨i, r, g1, g2, rfl⟩ := two_some (f := fun a b => a :: b) h
          rcases List.mem_cons.mp hy with rfl | hy
          · exact ⟨i, by simp⟩
          · obtain ⟨j, hj⟩ := ih g2 y hy
            exact ⟨j, by simp [hj]⟩
      obtain ⟨j, hj⟩ := key h2 y hy
      exact ho' _ hj
    · simp only [hz] at hv
      refine gT_gTup O.G.so h2 ?_
      unfold gT at z ⊢
      simp only at z ⊢
      split at z
      · split at z
        · unfold parK at z ⊢
          split at z
          · rename_i e
            exact ⟨by rw [setL_wipe hv e, wipe_idem], z⟩
          · exact z.elim
        · exact z.elim
      · exact z.elim
  | _ => cases h
/-- what a comprehension is made of -/
structure LcP (X : Cx) (S : Stat) (F : Sm) (W : WX) (e tg it : Expr) (ifs : List Expr) (scope : Scope) (c : Ex) (wi : TI) (g : TG) (tt : TT) (te : TE) (own : List (Str × Nat)) : Prop where
  pi : PI X tg it wi
  bk : BlkOk X.N X.env.scope scope own
  pg : ∀ (s : Shared) (H : Hp) (Cc : Addr) (cl : List (Str × Addr)) (fp : List Addr), PG (X.blk s H scope (compEnvC scope cl Cc X.env) fp) tg g
  pt : ∀ (s : Shared) (H : Hp) (Cc : Addr) (cl : List (Str × Addr)) (fp : List Addr), PTs (X.blk s H scope (compEnvC scope cl Cc X.env) fp) ifs tt
  pe : ∀ (s : Shared) (H : Hp) (Cc : Addr) (cl : List (Str × Addr)) (fp : List Addr), PE (X.blk s H scope (compEnvC scope cl Cc X.env) fp) e te
  fs : ∀ x, foldedSetIterable it X.env x = pure x
  to : ∀ σ H Q, wE S F W c σ H Q → tLc wi g tt te (own.map (·.2)) σ H (fun v H' => NoK S.so H' → Q v H')
theorem lc_parts {n : Nat} (iE : ∀ e c, cE C n e = some c → PE X e (wE S F W c)) (ih : ∀ {X : Cx} {C : CI} {W : WX}, OkE X S F k C W → (∀ e c, cE C n e = some c → PE X e (wE S F W c)) ∧ (∀ e c, cO C n e = some c → PO X e (wO S F W c)) ∧ (∀ e c, cT C n e = some c → PT X e (wT S F W c)))
    {e : Expr} {g : Comprehension} {scope : Scope} {c : Ex} (h : iff' (g.is_async == 0) (cLc C scope (cSr C (cE C n) g.target g.iter) (cTg (C.blk scope) g.target) (cIfs (cT (C.blk scope) n) g.ifs) (cE (C.blk scope) n e)) = some c) :
    g.is_async = 0 ∧ ∃ wi gg tt te own, LcP X S F W e g.target g.iter g.ifs scope c wi gg tt te own := by
  obtain ⟨ha, h⟩ := if_some h
  obtain ⟨tg, it, ifs, asy⟩ := g
  simp only at ha h
  have ha : asy = 0 := by simpa using ha
  subst ha
  unfold cLc at h
  obtain ⟨u, h1, h⟩ := bind_some h
  obtain ⟨hb, h⟩ := if_some h
  obtain ⟨s', c', e', g1, g2, g3, rfl⟩ := tri_some (f := fun s c e => Ex.lc u.1 s c e (u.2.map (·.2))) h
  simp only [Bool.and_eq_true] at hb
  obtain ⟨hb1, hb2⟩ := hb
  have bk : BlkOk X.N X.env.scope scope u.2 := blkOk_by (by
    have : blkC X.N X.env.scope scope u.2 = blkC C.N C.sc scope u.2 := by
      unfold blkC
      rw [O.N, O.sc]
    rw [this]
    exact hb1)
  obtain ⟨wi, P1, P2, P3⟩ := src_ok O M (tg := tg) iE g1
  obtain ⟨gg, G1, G2⟩ := tg_ok O h1 hb2
  have S0 := O.G.so
  have OB := fun (s : Shared) (H : Hp) (Cc : Addr) (cl : List (Str × Addr)) (fp : List Addr) => O.blk bk.kind s H Cc cl fp
  have ht : ∀ (s : Shared) (H : Hp) (Cc : Addr) (cl : List (Str × Addr)) (fp : List Addr), PTs (X.blk s H scope (compEnvC scope cl Cc X.env) fp) ifs (wT S F never c') := fun s H Cc cl fp => by
    match ifs, g2 with
    | [], g2 =>
      cases g2
      unfold wT
      exact pts_nil
    | [d], g2 => exact pts_one ((ih (OB s H Cc cl fp)).2.2 d c' g2)
    | _ :: _ :: _, g2 => cases g2
  refine ⟨rfl, wi, _, _, _, u.2, P1, bk, (fun s H Cc cl fp => PG.nok (X := X.blk s H scope (compEnvC scope cl Cc X.env) fp) (so := S.so) S0 (G1 s H Cc cl fp)), ht, (fun s H Cc cl fp => (ih (OB s H Cc cl fp)).1 e e' g3), P2, fun σ H Q z => ?_⟩
  unfold wE at z
  refine P3 σ H _ (wI_mono M s' (fun xs kp H1 z1 J hJ D hD => ?_) z)
  exact lc_gen2 (so := S.so) hJ hD (fun x H Q z => G2 σ x H Q z) fun hs => z1 D hD hs
theorem lc_ok {n : Nat} (iE : ∀ e c, cE C n e = some c → PE X e (wE S F W c)) (ih : ∀ {X : Cx} {C : CI} {W : WX}, OkE X S F k C W → (∀ e c, cE C n e = some c → PE X e (wE S F W c)) ∧ (∀ e c, cO C n e = some c → PO X e (wO S F W c)) ∧ (∀ e c, cT C n e = some c → PT X e (wT S F W c)))
    {e : Expr} {g : Comprehension} {scope : Scope} {p : Pos} {c : Ex} (h : iff' (g.is_async == 0) (cLc C scope (cSr C (cE C n) g.target g.iter) (cTg (C.blk scope) g.target) (cIfs (cT (C.blk scope) n) g.ifs) (cE (C.blk scope) n e)) = some c) :
    PE X (.ListComp e [g] scope p) (wE S F W c) := by
  obtain ⟨ha, wi, gg, tt, te, own, L⟩ := lc_parts O M iE ih h
  obtain ⟨tg, it, ifs, asy⟩ := g
  simp only at ha
  subst ha
  exact PE.imp (PE.nok O.G.so (pe_lc O.calm (by rw [O.N]; exact O.nd) L.pi L.bk L.pg L.pt L.pe L.fs)) L.to
/-- what a comprehension of two clauses is made of -/
structure LcP2 (X : Cx) (S : Stat) (F : Sm) (W : WX) (e tg it : Expr) (ifs : List Expr) (tg1 it1 : Expr) (ifs1 : List Expr) (scope : Scope) (c : Ex) (wi : TI) (g : TG) (tt : TT) (wi1 : TI) (g1 : TG) (tt1 : TT) (te : TE) (own : List (Str × Nat)) (vs1 : List Nat) : Prop where
  pi : PI X tg it wi
  bk : BlkOk X.N X.env.scope scope own
  hv : ∀ i ∈ vs1, i ∈ own.map (·.2)
  pg : ∀ (s : Shared) (H : Hp) (Cc : Addr) (cl : List (Str × Addr)) (fp : List Addr), PG (X.blk s H scope (compEnvC scope cl Cc X.env) fp) tg g
  pt : ∀ (s : Shared) (H : Hp) (Cc : Addr) (cl : List (Str × Addr)) (fp : List Addr), PTs (X.blk s H scope (compEnvC scope cl Cc X.env) fp) ifs tt
  pi1 : ∀ (s : Shared) (H : Hp) (Cc : Addr) (cl : List (Str × Addr)) (fp : List Addr), PI (X.blk s H scope (compEnvC scope cl Cc X.env) fp) tg1 it1 wi1
  pg1 : ∀ (s : Shared) (H : Hp) (Cc : Addr) (cl : List (Str × Addr)) (fp : List Addr), PG (X.blk s H scope (compEnvC scope cl Cc X.env) fp) tg1 g1
  pt1 : ∀ (s : Shared) (H : Hp) (Cc : Addr) (cl : List (Str × Addr)) (fp : List Addr), PTs (X.blk s H scope (compEnvC scope cl Cc X.env) fp) ifs1 tt1
  pe : ∀ (s : Shared) (H : Hp) (Cc : Addr) (cl : List (Str × Addr)) (fp : List Addr), PE (X.blk s H scope (compEnvC scope cl Cc X.env) fp) e te
  fs : ∀ x, foldedSetIterable it X.env x = pure x
  fs1 : ∀ env x, foldedSetIterable it1 env x = pure x
  to : ∀ σ H Q, wE S F W c σ H Q → tLc2 wi g tt wi1 g1 tt1 te (own.map (·.2)) vs1 σ H (fun v H' => NoK S.so H' → Q v H')
theorem lc2_parts {n : Nat} (s0 : Shared) (iE : ∀ e c, cE C n e = some c → PE X e (wE S F W c)) (ih : ∀ {X : Cx} {C : CI} {W : WX}, OkE X S F k C W → (∀ e c, cE C n e = some c → PE X e (wE S F W c)) ∧ (∀ e c, cO C n e = some c → PO X e (wO S F W c)) ∧ (∀ e c, cT C n e = some c → PT X e (wT S F W c)))
    {e : Expr} {g g1 : Comprehension} {scope : Scope} {c : Ex} (h : iff' (g.is_async == 0 && g1.is_async == 0) (cLc2 C scope (cSr C (cE C n) g.target g.iter) (cTg (C.blk scope) g.target) (cIfs (cT (C.blk scope) n) g.ifs) (cSr (C.blk scope) (cE (C.blk scope) n) g1.target g1.iter) (cTg (C.blk scope) g1.target) (cIfs (cT (C.blk scope) n) g1.ifs) (cE (C.blk scope) n e)) = some c) :
    (g.is_async = 0 ∧ g1.is_async = 0) ∧ ∃ wi gg tt wi1 gg1 tt1 te own vs1, LcP2 X S F W e g.target g.iter g.ifs g1.target g1.iter g1.ifs scope c wi gg tt wi1 gg1 tt1 te own vs1 := by
  obtain ⟨ha, h⟩ := if_some h
  obtain ⟨tg, it, ifs, asy⟩ := g
  obtain ⟨tg1, it1, ifs1, asy1⟩ := g1
  simp only [Bool.and_eq_true, beq_iff_eq] at ha h
  obtain ⟨rfl, rfl⟩ := ha
  unfold cLc2 at h
  obtain ⟨u, h1, h⟩ := bind_some h
  obtain ⟨u1, h2, h⟩ := bind_some h
  obtain ⟨hb, h⟩ := if_some h
  obtain ⟨a, b, k1, k2, rfl⟩ := two_some h
  obtain ⟨s', c', g1, g2, rfl⟩ := two_some k1
  obtain ⟨s1', c1', e', g3, g4, g5, rfl⟩ := tri_some k2
  simp only [Bool.and_eq_true] at hb
  obtain ⟨hb1, hb2⟩ := hb
  have ho : ownOk scope u.2 = true ∧ ownOk scope u1.2 = true := by
    unfold ownOk at hb2 ⊢
    rw [List.all_append, Bool.and_eq_true] at hb2
    exact hb2
  have bk : BlkOk X.N X.env.scope scope (u.2 ++ u1.2) := blkOk_by (by
    have : blkC X.N X.env.scope scope (u.2 ++ u1.2) = blkC C.N C.sc scope (u.2 ++ u1.2) := by
      unfold blkC
      rw [O.N, O.sc]
    rw [this]
    exact hb1)
  obtain ⟨wi, P1, P2, P3⟩ := src_ok O M (tg := tg) iE g1
  obtain ⟨gg, G1, G2⟩ := tg_okV O (vs := (u.2 ++ u1.2).map (·.2)) h1 ho.1 (fun i hi => by rw [List.map_append]; exact List.mem_append_left _ hi)
  obtain ⟨gg1, G3, G4⟩ := tg_okV O (vs := u1.2.map (·.2)) h2 ho.2 (fun i hi => hi)
  have S0 := O.G.so
  have OB := fun (s : Shared) (H : Hp) (Cc : Addr) (cl : List (Str × Addr)) (fp : List Addr) => O.blk bk.kind s H Cc cl fp
  have ht : ∀ (ifs : List Expr) (c' : Te), cIfs (cT (C.blk scope) n) ifs = some c' → ∀ (s : Shared) (H : Hp) (Cc : Addr) (cl : List (Str × Addr)) (fp : List Addr), PTs (X.blk s H scope (compEnvC scope cl Cc X.env) fp) ifs (wT S F never c') := fun ifs c' g2 s H Cc cl fp => by
    match ifs, g2 with
    | [], g2 =>
      cases g2
      unfold wT
      exact pts_nil
    | [d], g2 => exact pts_one ((ih (OB s H Cc cl fp)).2.2 d c' g2)
    | _ :: _ :: _, g2 => cases g2
  have PB := fun (s : Shared) (H : Hp) (Cc : Addr) (cl : List (Str × Addr)) (fp : List Addr) => src_pi (OB s H Cc cl fp) M (tg := tg1) (ih (OB s H Cc cl fp)).1 g3
  refine ⟨⟨rfl, rfl⟩, wi, _, _, wiOf S F never X.K s1', _, _, _, u.2 ++ u1.2, u1.2.map (·.2), P1, bk, (fun i hi => by rw [List.map_append]; exact List.mem_append_right _ hi), (fun s H Cc cl fp => PG.nok (X := X.blk s H scope (compEnvC scope cl Cc X.env) fp) (so := S.so) S0 (G1 s H Cc cl fp)), ht ifs c' g2,
    (fun s H Cc cl fp => (PB s H Cc cl fp).1), (fun s H Cc cl fp => PG.nok (X := X.blk s H scope (compEnvC scope cl Cc X.env) fp) (so := S.so) S0 (G3 s H Cc cl fp)), ht ifs1 c1' g4, (fun s H Cc cl fp => (ih (OB s H Cc cl fp)).1 e e' g5), P2, (PB s0 (fun _ => none) 0 [] []).2, fun σ H Q z => ?_⟩
  unfold wE at z
  refine P3 σ H _ (wI_mono M s' (fun xs kp H1 z1 J hJ D hD => ?_) z)
  by_cases hs : S.so D = none
  · obtain ⟨Wt, a1, a2⟩ := lcG_gen (so := S.so) (tt := wT S F never c') (vs := (u.2 ++ u1.2).map (·.2)) (σ := σ) hJ.j (fun _ _ _ _ q z => wT_mono M c' q z)
      (bd' := fun σ2 H3 R => wiOf S F never X.K s1' σ2 H3 fun J1 H4 => ∃ W1 : Nat → Nat → Hp → Prop, (∃ m, W1 0 m H4) ∧ ∀ j k H, W1 j k H →
        (J1.stop j H ∧ R H) ∨ (J1.go j H ∧ ∃ Nx1 : Hp → Prop, (∀ H', Nx1 H' → ∃ k', k' < k ∧ W1 (j + 1) k' H') ∧ ∀ x H', J1.yld j H x H' → (NoK S.so H' → gg1 x (wipe σ2 (u1.2.map (·.2))) H' fun σ3 H5 => wipe σ3 (u1.2.map (·.2)) = wipe σ2 (u1.2.map (·.2)) ∧ wT S F never c1' σ3 H5 fun b H6 =>
          if b = true then wE S F never e' σ3 H6 fun y H7 => ∃ acc, H7 D = some (.lst acc) ∧ acc.length < sizeLine ∧ Nx1 (upd H7 D (.lst (acc ++ [y]))) else Nx1 H6)))
      (fun σ2 H3 R zb => wi_of (OB s0 (fun _ => none) 0 [] []) M s1' σ2 H3 _ (wI_mono M s1' (fun ys kq H4 z4 J1 hJ1 => lc_gen (so := S.so) (vs := u1.2.map (·.2)) hJ1.j (fun x H Q z => G4 σ2 x H Q z) z4) zb))
      (fun x H Q z => G2 σ x H Q z) (z1 D hD hs)
    refine ⟨Wt, a1, fun i m H w => ?_⟩
    rcases a2 i m H w with ⟨b1, b2⟩ | ⟨b1, Nx, b2, b3⟩
    · exact .inl ⟨b1, fun _ => b2⟩
    · exact .inr ⟨b1, Nx, b2, fun x H' y nk => b3 x H' y nk⟩
  · refine ⟨fun i _ H => i = 0 ∧ H = upd H1 D (.lst []), ⟨0, rfl, rfl⟩, ?_⟩
    rintro i m H ⟨rfl, rfl⟩
    rcases hJ.one D _ hD with a | a
    · exact .inl ⟨a, fun nk => absurd (nok_upd nk) hs⟩
    · refine .inr ⟨a, fun _ => False, fun H' z => z.elim, fun x H' y nk => ?_⟩
      have ee := hJ.same _ _ _ _ y D _ upd_same
      rw [nk D hs] at ee
      cases ee
theorem lc2_ok {n : Nat} (iE : ∀ e c, cE C n e = some c → PE X e (wE S F W c)) (ih : ∀ {X : Cx} {C : CI} {W : WX}, OkE X S F k C W → (∀ e c, cE C n e = some c → PE X e (wE S F W c)) ∧ (∀ e c, cO C n e = some c → PO X e (wO S F W c)) ∧ (∀ e c, cT C n e = some c → PT X e (wT S F W c)))
    {e : Expr} {g g1 : Comprehension} {scope : Scope} {p : Pos} {c : Ex} (h : iff' (g.is_async == 0 && g1.is_async == 0) (cLc2 C scope (cSr C (cE C n) g.target g.iter) (cTg (C.blk scope) g.target) (cIfs (cT (C.blk scope) n) g.ifs) (cSr (C.blk scope) (cE (C.blk scope) n) g1.target g1.iter) (cTg (C.blk scope) g1.target) (cIfs (cT (C.blk scope) n) g1.ifs) (cE (C.blk scope) n e)) = some c) :
    PE X (.ListComp e [g, g1] scope p) (wE S F W c) := by
  refine ⟨fun pins s σ H Q I z => ?_⟩
  obtain ⟨⟨ha, ha1⟩, wi, gg, tt, wi1, gg1, tt1, te, own, vs1, L⟩ := lc2_parts O M s iE ih h
  obtain ⟨tg, it, ifs, asy⟩ := g
  obtain ⟨tg1, it1, ifs1, asy1⟩ := g1
  simp only at ha ha1
  subst ha ha1
  exact (PE.imp (PE.nok O.G.so (pe_lc2 O.calm (by rw [O.N]; exact O.nd) L.pi L.bk L.hv L.pg L.pt L.pi1 L.pg1 L.pt1 L.pe L.fs L.fs1)) L.to).run pins s σ H Q I z
end
section
variable {X : Cx} {S : Stat} {F : Sm} {k : Nat} {C : CI} {W : WX} (O : OkE X S F k C W) (M : SmMono F)
include O M
theorem call0_ok {x : Str} {q p : Pos} {c : Ex} (hg : isG C x = true) (h : cCall0 x (C.gl x) = some c) : PE X (.Call (.Name x q) [] [] p) (wE S F W c) := by
  cases e : C.gl x with
  | xcl =>
    rw [e] at h
    cases h
    exact mkx0_ok O M (O.gl hg) e
  | ocl =>
    rw [e] at h
    cases h
    refine ⟨fun pins s σ H Q I z => ?_⟩
    unfold wE wA at z
    obtain ⟨D, hdb, hm, hk⟩ := O.G.own x (.inr e)
    refine wpAny_Call_Name_kw (ld_glob I (O.gl hg) hm ?_ hdb)
    have q := mk_run (us := []) O M e hm I .nil rfl z
    exact PySem.W.callWith_K0 I.kIn hk q
  | fn =>
    rw [e] at h
    cases h
    obtain ⟨f, fd, ps, hdb, hm, hk, Fn, hb⟩ := O.G.fn x e
    refine ⟨fun pins s σ H Q I z => ?_⟩
    unfold wE wA at z
    refine wpAny_Call_Name_kw (ld_glob I (O.gl hg) hm ?_ hdb)
    refine PySem.W.callWith_K0 I.kIn hk ?_
    refine run_g (us := []) (full := []) Fn O.gd (O.rm.mono (Nat.le_succ _)) O.tk I ?_ .nil z
    have hl := Fn.len _ _ _ _ z
    have := hb s [] I.kIn (by rw [List.append_nil]; exact hl)
    rwa [List.append_nil] at this
  | dead =>
    rw [e] at h
    cases h
    exact nev_ok
  | _ => rw [e] at h; cases h
omit M in
theorem gd_ok {e : Expr} {x : Str} (h : gdOf C e = some x) : ∃ p, e = .Name x p ∧ Gl X x ∧ C.gl x = .dct ∧ (x == ("__debug__" : Str)) = false := by
  cases e with
  | Name y p =>
    obtain ⟨h1, h2⟩ := if_some h
    cases h2
    simp only [Bool.and_eq_true, beq_iff_eq] at h1
    exact ⟨p, rfl, O.gl h1.1, h1.2.1, (okN_d h1.2.2).1⟩
  | _ => cases h
theorem gdK_ex {o : Option (List (Str × V))} {y : V} {B : Option V → Prop} (h : gdK o y B) : ∃ l z, o = some l ∧ y = .str z ∧ B (l.lookup z) := by
  unfold gdK at h
  split at h
  · exact ⟨_, _, rfl, rfl, h⟩
  · exact h.elim
theorem gix_ok {o i : Expr} {x : Str} {i' : Ex} {p : Pos} (ho : gdOf C o = some x) (hs : notSlice i = true) (hi : PE X i (wE S F W i')) : PE X (.Subscript o i p) (wE S F W (.gix x i')) := by
  obtain ⟨po, rfl, g1, g2, g3⟩ := gd_ok O ho
  obtain ⟨l, d, es, m, e1, e2, K1, e3⟩ := O.G.gd x g2
  refine PE.imp (pe_ix ix_kdict (pe_glob (v := .ref d) g1 e2 rfl g3) hi (slice_ok hs)) fun σ H Q z => ?_
  unfold wE at z
  refine wE_mono M i' (fun y H1 z1 => ?_) z
  obtain ⟨l', w, e, rfl, z2⟩ := gdK_ex O M z1
  rw [e1] at e
  cases e
  obtain ⟨r, r1, r2⟩ := e3 w
  split at z2
  · rename_i v ev
    rw [ev] at r2
    cases r with
    | none => exact r2.elim
    | some u => exact ⟨d, w, v, rfl, rfl, ⟨es, m, u, K1.at_, K1.lit, r1, r2⟩, z2⟩
  · exact z2.elim
omit M in
theorem op_kd {d : Addr} {es : Array DictEntry} {m : Nat} (D : KDict X.K X.w d es m) (neg : Bool) : OpR X (compareOp (if neg then .NotIn else .In)) (fun x y H Q => ∃ (z : Str) (r : Option Value), x = .str z ∧ y = .ref d ∧ PySem.W.nsIn X.K d z = some r ∧ Q (.bl (r.isSome != neg)) H) := by
  cases neg with
  | false => exact OpR.imp (op_in_kd D) fun x y H Q ⟨z, r, h1, h2, h3, h4⟩ => ⟨z, r, h1, h2, h3, by simpa using h4⟩
  | true =>
    exact OpR.imp (op_notIn_kd D) fun x y H Q ⟨z, r, h1, h2, h3, h4⟩ => ⟨z, r, h1, h2, h3, by simpa using h4⟩
omit M in
theorem gin_of {o : CmpOp} {b : Expr} {u : Bool × Str} (h : ginOf C o b = some u) : o = (if u.1 then .NotIn else .In) ∧ gdOf C b = some u.2 := by
  unfold ginOf at h
  split at h
  · obtain ⟨x, h1, rfl⟩ := map_some h
    exact ⟨rfl, h1⟩
  · obtain ⟨x, h1, rfl⟩ := map_some h
    exact ⟨rfl, h1⟩
  · cases h
theorem gin_ok {a b : Expr} {o : CmpOp} {u : Bool × Str} {a' : Ex} {p : Pos} (hu : ginOf C o b = some u) (ha : PE X a (wE S F W a')) : PE X (.Compare a [o] [b] p) (wE S F W (.gin u.1 u.2 a')) := by
  obtain ⟨rfl, h1⟩ := gin_of O hu
  obtain ⟨po, rfl, g1, g2, g3⟩ := gd_ok O h1
  obtain ⟨l, d, es, m, e1, e2, K1, e3⟩ := O.G.gd u.2 g2
  refine PE.imp (pe_cmpR (op_kd O K1 u.1) ha (pe_glob (v := .ref d) g1 e2 rfl g3) (by cases u.1 <;> rfl)) fun σ H Q z => ?_
  unfold wE at z
  refine wE_mono M a' (fun y H1 z1 => ?_) z
  obtain ⟨l', w, e, rfl, z2⟩ := gdK_ex O M z1
  rw [e1] at e
  cases e
  obtain ⟨r, r1, r2⟩ := e3 w
  refine ⟨w, r, rfl, rfl, r1, ?_⟩
  have : r.isSome = (l.lookup w).isSome := by
    cases q : l.lookup w <;> rw [q] at r2 <;> cases r <;> first | rfl | exact r2.elim
  rw [this]
  exact z2
theorem ginT_ok {a b : Expr} {o : CmpOp} {u : Bool × Str} {a' : Ex} {p : Pos} (hu : ginOf C o b = some u) (ha : PE X a (wE S F W a')) : PT X (.Compare a [o] [b] p) (wT S F W (.gin u.1 u.2 a')) := by
  obtain ⟨rfl, h1⟩ := gin_of O hu
  obtain ⟨po, rfl, g1, g2, g3⟩ := gd_ok O h1
  obtain ⟨l, d, es, m, e1, e2, K1, e3⟩ := O.G.gd u.2 g2
  refine PT.imp (pt_cmpR (op_kd O K1 u.1) ha (pe_glob (v := .ref d) g1 e2 rfl g3) (by cases u.1 <;> rfl)) fun σ H Q z => ?_
  unfold wT at z
  refine wE_mono M a' (fun y H1 z1 => ?_) z
  obtain ⟨l', w, e, rfl, z2⟩ := gdK_ex O M z1
  rw [e1] at e
  cases e
  obtain ⟨r, r1, r2⟩ := e3 w
  refine ⟨w, r, rfl, rfl, r1, ?_⟩
  have : r.isSome = (l.lookup w).isSome := by
    cases q : l.lookup w <;> rw [q] at r2 <;> cases r <;> first | rfl | exact r2.elim
  rw [this]
  exact ⟨_, rfl, z2⟩
theorem idx_okG {n : Nat} {o i : Expr} {p : Pos} {c : Ex} (iE : ∀ e c, cE C n e = some c → PE X e (wE S F W c)) (hi : notSlice i = true) (h : (match gdOf C o with
        | some x => (cE C n i).map (.gix x)
        | none => two (cE C n o) (cE C n i) (.idx)) = some c) : PE X (.Subscript o i p) (wE S F W c) := by
  split at h
  · rename_i x hx
    obtain ⟨i', h1, rfl⟩ := map_some h
    exact gix_ok O M hx hi (iE i i' h1)
  · exact idx_ok O M iE hi h
theorem pps_of {n : Nat} (iE : ∀ e c, cE C n e = some c → PE X e (wE S F W c)) {pos : Pos} : ∀ {ks : List (Option Expr)} {vs : List Expr} {c : Prs}, nPr (cE C n) ks vs = some c → ∃ trs, PPs X pos ks vs trs ∧ ks.all (·.isSome) = true ∧ ks.length = vs.length ∧
    ∀ σ H (Q : List (V × V) → Hp → Prop), wP S F W c σ H Q → tPairs trs σ H Q
  | [], [], c, h => by
    cases h
    refine ⟨[], pps_nil, rfl, rfl, fun σ H Q z => ?_⟩
    unfold wP at z
    exact z
  | some k :: ks, v :: vs, c, h => by
    obtain ⟨k', v', r', h1, h2, h3, rfl⟩ := tri_some (f := Prs.cons) h
    obtain ⟨trs, p1, p2, p3, p4⟩ := pps_of iE (pos := pos) h3
    refine ⟨_, pps_cons (iE _ _ h1) (iE _ _ h2) p1, ?_, ?_, fun σ H Q z => ?_⟩
    · simpa using p2
    · simpa using p3
    · unfold wP at z
      exact wE_mono M k' (fun x H1 z1 => wE_mono M v' (fun y H2 z2 => p4 _ _ _ z2) z1) z
  | none :: _, _, _, h => by cases h
  | some _ :: _, [], _, h => by cases h
  | [], _ :: _, _, h => by cases h
omit M in
theorem nokIn {e : Expr} {t : TE} (h : PE X e t) : PE X e (fun σ H Q => NoK S.so H → t σ H Q) := ⟨fun pins s σ H Q I z => h.run pins s σ H Q I (z (nok_of O.G.so I))⟩
theorem dsp_ok {n : Nat} (iE : ∀ e c, cE C n e = some c → PE X e (wE S F W c)) {pos : Pos} {k : Option Expr} {ks : List (Option Expr)} {vs : List Expr} {c : Ex} (h : cDsp (cE C n) (k :: ks) vs = some c) : PE X (.Dict (k :: ks) vs pos) (wE S F W c) := by
  obtain ⟨hb, h⟩ := if_some h
  obtain ⟨ps, h1, rfl⟩ := map_some h
  simp only [Bool.and_eq_true, decide_eq_true_eq] at hb
  match k, vs, h1 with
  | some k, v :: vs, h1 =>
    obtain ⟨k', v', r', g1, g2, g3, rfl⟩ := tri_some (f := Prs.cons) h1
    obtain ⟨trs, p1, p2, p3, p4⟩ := pps_of O M iE (pos := pos) g3
    refine PE.imp (PE.nok O.G.so (pe_disp (pps_cons (nokIn O (iE _ _ g1)) (iE _ _ g2) p1) (by simpa using p2) (by simpa using p3) (fun z => by cases z) hb.1)) fun σ H Q z => ?_
    unfold wE at z
    intro p hp nk
    have z1 := z p hp (nok_upd nk)
    unfold wP at z1
    refine wE_mono M k' (fun x H1 z1 => wE_mono M v' (fun y H2 z2 => p4 _ _ _ (wP_mono M r' (fun qs H2 z2 => ?_) z2)) z1) z1
    obtain ⟨z3, kvs, z4, z5, z6⟩ := z2
    exact ⟨z3, kvs, z4, z5, fun _ => z6⟩
theorem dc_ok {n : Nat} (iE : ∀ e c, cE C n e = some c → PE X e (wE S F W c)) (ih : ∀ {X : Cx} {C : CI} {W : WX}, OkE X S F k C W → (∀ e c, cE C n e = some c → PE X e (wE S F W c)) ∧ (∀ e c, cO C n e = some c → PO X e (wO S F W c)) ∧ (∀ e c, cT C n e = some c → PT X e (wT S F W c)))
    {kx vx : Expr} {g : Comprehension} {scope : Scope} {p : Pos} {c : Ex} (h : iff' (g.is_async == 0) (cDc C scope (cSr C (cE C n) g.target g.iter) (cTg (C.blk scope) g.target) (cIfs (cT (C.blk scope) n) g.ifs) (cE (C.blk scope) n kx) (cE (C.blk scope) n vx)) = some c) :
    PE X (.DictComp kx vx [g] scope p) (wE S F W c) := by
  obtain ⟨ha, h⟩ := if_some h
  obtain ⟨tg, it, ifs, asy⟩ := g
  simp only at ha h
  have ha : asy = 0 := by simpa using ha
  subst ha
  unfold cDc at h
  obtain ⟨u, h1, h⟩ := bind_some h
  obtain ⟨hb, h⟩ := if_some h
  obtain ⟨a, b, k1, k2, rfl⟩ := two_some (f := fun (a : Sr × Te) (b : Ex × Ex) => Ex.dc u.1 a.1 a.2 b.1 b.2 (u.2.map (·.2))) h
  obtain ⟨s', c', g1, g2, rfl⟩ := two_some (f := Prod.mk) k1
  obtain ⟨k', v', g3, g4, rfl⟩ := two_some (f := Prod.mk) k2
  simp only [Bool.and_eq_true] at hb
  obtain ⟨hb1, hb2⟩ := hb
  have bk : BlkOk X.N X.env.scope scope u.2 := blkOk_by (by
    have : blkC X.N X.env.scope scope u.2 = blkC C.N C.sc scope u.2 := by
      unfold blkC
      rw [O.N, O.sc]
    rw [this]
    exact hb1)
  obtain ⟨wi, P1, P2, P3⟩ := src_ok O M (tg := tg) iE g1
  obtain ⟨gg, G1, G2⟩ := tg_ok O h1 hb2
  have S0 := O.G.so
  have OB := fun (s : Shared) (H : Hp) (Cc : Addr) (cl : List (Str × Addr)) (fp : List Addr) => O.blk bk.kind s H Cc cl fp
  have ht : ∀ (s : Shared) (H : Hp) (Cc : Addr) (cl : List (Str × Addr)) (fp : List Addr), PTs (X.blk s H scope (compEnvC scope cl Cc X.env) fp) ifs (wT S F never c') := fun s H Cc cl fp => by
    match ifs, g2 with
    | [], g2 =>
      cases g2
      unfold wT
      exact pts_nil
    | [d], g2 => exact pts_one ((ih (OB s H Cc cl fp)).2.2 d c' g2)
    | _ :: _ :: _, g2 => cases g2
  refine PE.imp (PE.nok S0 (pe_dc O.calm (by rw [O.N]; exact O.nd) P1 bk (fun s H Cc cl fp => PG.nok (X := X.blk s H scope (compEnvC scope cl Cc X.env) fp) (so := S.so) S0 (G1 s H Cc cl fp)) ht (fun s H Cc cl fp => (ih (OB s H Cc cl fp)).1 kx k' g3) (fun s H Cc cl fp => (ih (OB s H Cc cl fp)).1 vx v' g4) P2)) fun σ H Q z => ?_
  unfold wE at z
  refine P3 σ H _ (wI_mono M s' (fun xs kp H1 z1 J hJ D hD => ?_) z)
  exact dc_gen2 (so := S.so) hJ hD (fun x H Q z => G2 σ x H Q z) fun hs => z1 D hD hs
end
section
variable {S : Stat} {F : Sm} {k : Nat}
theorem cE_ok (M : SmMono F) : ∀ (n : Nat) {X : Cx} {C : CI} {W : WX} (O : OkE X S F k C W), (∀ e c, cE C n e = some c → PE X e (wE S F W c)) ∧ (∀ e c, cO C n e = some c → PO X e (wO S F W c)) ∧ (∀ e c, cT C n e = some c → PT X e (wT S F W c)) := by
  intro n
  induction n with
  | zero => intro X C W O; exact ⟨fun e c h => (by cases h), fun e c h => (by cases h), fun e c h => (by cases h)⟩
  | succ n ih =>
    intro X C W O
    obtain ⟨iE, iO, iT⟩ := ih O
    have S0 := O.G.so
    refine ⟨fun e c h => ?_, fun e c h => ?_, fun e c h => ?_⟩
    · match e, h with
      | .Constant (.int i) _ _, h => cases h; unfold wE; exact pe_int
      | .Constant (.bool b) _ _, h => cases h; unfold wE; exact pe_bl
      | .Constant .none _ _, h => cases h; unfold wE; exact pe_non
      | .Constant (.str x) _ _, h => cases h; unfold wE; exact pe_str
      | .Name x p, h =>
        change cName C x = some c at h
        unfold cName at h
        obtain ⟨hn, h⟩ := if_some h
        obtain ⟨hd, hcd⟩ := okN_d hn
        cases es : slotOf C x with
        | some i =>
          simp only [es] at h
          cases h
          obtain ⟨h1, h2⟩ := O.slot es
          refine PE.imp (pe_var h1 h2 hd hcd) fun σ H Q z => ?_
          unfold wE varK at z
          split at z
          · rename_i v ev
            exact ⟨v, ev, z⟩
          · exact z.elim
        | none =>
          simp only [es] at h
          obtain ⟨hg, h⟩ := if_some h
          cases h
          simp only [Bool.and_eq_true, beq_iff_eq] at hg
          refine ⟨fun pins s σ H Q I z => ?_⟩
          unfold wE cstK at z
          split at z
          · rename_i v ev
            obtain ⟨u, hm, r⟩ := O.G.cst x v hg.2 ev
            exact (pe_glob (O.gl hg.1) hm r hd).run pins s σ H Q I z
          · exact z.elim
      | .BinOp a o b p, h =>
        obtain ⟨a', b', h1, h2, rfl⟩ := two_some (f := Ex.op o) h
        refine PE.imp (pe_op (op_opV S0 o) (iE a a' h1) (iE b b' h2)) fun σ H Q z => ?_
        unfold wE at z
        exact z
      | .UnaryOp .USub a p, h =>
        obtain ⟨a', h1, rfl⟩ := map_some (f := Ex.neg) h
        refine PE.imp (pe_un un_neg (iE a a' h1)) fun σ H Q z => ?_
        unfold wE at z
        refine wE_mono M a' (fun x H1 z1 => ?_) z
        unfold intK at z1
        split at z1
        · exact ⟨_, rfl, z1⟩
        · exact z1.elim
      | .UnaryOp .Not a p, h =>
        obtain ⟨a', h1, rfl⟩ := map_some (f := Ex.not) h
        refine PE.imp (pe_notT (iE a a' h1)) fun σ H Q z => ?_
        unfold wE at z
        exact wE_mono M a' (fun x H1 z1 => tru_ex (B := fun k => Q (.bl (!k)) H1) S0 z1) z
      | .Compare a [o] [b] p, h =>
        change (match ginOf C o b with
          | some u => (cE C n a).map (.gin u.1 u.2)
          | none => iff' (behindOk o b) ((two (cE C n a) (cE C n b) (.cmp o)))) = some c at h
        split at h
        · rename_i u hu
          obtain ⟨a', h1, rfl⟩ := map_some h
          exact gin_ok O M hu (iE a a' h1)
        obtain ⟨hb, h⟩ := if_some h
        obtain ⟨a', b', h1, h2, rfl⟩ := two_some (f := Ex.cmp o) h
        refine PE.imp (pe_cmpR (op_cmpV S0 O.hu o) (iE a a' h1) (iE b b' h2) (marks_ok hb)) fun σ H Q z => ?_
        unfold wE at z
        exact z
      | .Compare a [o, o'] [b, d] p, h =>
        obtain ⟨hb, h⟩ := if_some h
        obtain ⟨a', b', d', h1, h2, h3, rfl⟩ := tri_some (f := Ex.chn o o') h
        simp only [Bool.and_eq_true] at hb
        refine PE.imp (pe_chain (op_cmpV S0 O.hu o) (op_cmpV S0 O.hu o') (iE a a' h1) (iE b b' h2) (iE d d' h3) (last_ok hb.2)) fun σ H Q z => ?_
        unfold wE at z
        exact wE_mono M a' (fun x H1 z1 => wE_mono M b' (fun y H2 z2 => cmpV_mono (fun v H3 z3 => boolV_ex z3) z2) z1) z
      | .BoolOp .And [a] p, h =>
        exact PE.imp (pe_one (iE a c h)) fun σ H Q z => z
      | .BoolOp .Or [a] p, h =>
        exact PE.imp (pe_one (iE a c h)) fun σ H Q z => z
      | .BoolOp .And (a :: b :: r) p, h =>
        obtain ⟨a', b', h1, h2, rfl⟩ := two_some (f := Ex.and) h
        refine PE.imp (pe_andT (iE a a' h1) (iE _ b' h2)) fun σ H Q z => ?_
        unfold wE at z
        exact wE_mono M a' (fun x H1 z1 => tru_ex (B := fun k => if k = true then wE S F W b' σ H1 Q else Q x H1) S0 z1) z
      | .BoolOp .Or (a :: b :: r) p, h =>
        obtain ⟨a', b', h1, h2, rfl⟩ := two_some (f := Ex.or) h
        refine PE.imp (pe_orT (iE a a' h1) (iE _ b' h2)) fun σ H Q z => ?_
        unfold wE at z
        exact wE_mono M a' (fun x H1 z1 => tru_ex (B := fun k => if k = true then Q x H1 else wE S F W b' σ H1 Q) S0 z1) z
      | .IfExp t a b p, h =>
        obtain ⟨t', a', b', h1, h2, h3, rfl⟩ := tri_some (f := Ex.ite) h
        refine PE.imp (pe_ifExp (iT t t' h1) (iE a a' h2) (iE b b' h3)) fun σ H Q z => ?_
        unfold wE at z
        exact z
      | .Attribute o f p, h =>
        obtain ⟨hb, h⟩ := if_some h
        obtain ⟨o', h1, rfl⟩ := map_some (f := (Ex.fld · f)) h
        refine ⟨fun pins s σ H Q I z => ?_⟩
        unfold wE at z
        refine attr_of (base_ok hb) (thn ((iE o o' h1).run pins s σ H _ I z) fun u s1 ⟨x, H1, I1, rx, z1⟩ => ?_)
        change fldV S f x H1 Q at z1
        unfold fldV at z1
        cases x with
        | ref a =>
          obtain rfl : u = Value.ref a := rx
          simp only at z1
          split at z1
          · rename_i Cc dx fs ea
            obtain ⟨z2, z3⟩ := z1
            split at z3
            · rename_i v ev
              obtain ⟨q1, q2⟩ := O.G.fl _ _ z2
              exact getattr_ok I1 ea q1 q2 ev fun u' s2 I2 ru => ⟨v, H1, I2, ru, z3⟩
            · exact z3.elim
          · rename_i φ ea
            obtain ⟨Cc, fs, v, h1, h2, h3, h4⟩ := z1
            obtain ⟨q1, q2⟩ := O.G.xf _ _ h2
            exact xf_get I1 h1 q1 q2 h3 h4
          · exact z1.elim
        | _ => exact z1.elim
      | .List es p, h =>
        obtain ⟨es', h1, rfl⟩ := map_some (f := Ex.lst) h
        refine PE.imp (PE.nok S0 (pe_lst (nCE_pa iE h1))) fun σ H Q z => ?_
        unfold wE at z
        exact wA_mono M es' (fun xs H1 z1 => ⟨z1.1, fun p hp nk => z1.2 p hp (nok_upd nk)⟩) z
      | .Tuple es q p, h =>
        obtain ⟨es', h1, rfl⟩ := map_some (f := Ex.tup) h
        refine PE.imp (PE.nok S0 (pe_tup (nCE_pa iE h1))) fun σ H Q z => ?_
        unfold wE at z
        exact wA_mono M es' (fun xs H1 z1 => ⟨z1.1, fun p hp nk => z1.2 p hp (nok_upd nk)⟩) z
      | .Call (.Name x q) (a :: as) [] p, h => exact call_ok O M iE h
      | .Call (.Name x q) [] [] p, h =>
        obtain ⟨hg, h⟩ := if_some h
        exact call0_ok O M hg h
      | .Dict [] [] p, h =>
        cases h
        refine PE.imp (PE.nok S0 pe_dnewK) fun σ H Q z => ?_
        unfold wE at z
        exact fun d hd nk => z d hd (nok_upd nk)
      | .Dict (k :: ks) vs p, h => exact dsp_ok O M iE h
      | .DictComp kx vx [g] scope p, h => exact dc_ok O M iE (fun O => ih O) h
      | .ListComp e [g] scope p, h => exact lc_ok O M iE (fun O => ih O) h
      | .ListComp e [g, g1] scope p, h => exact lc2_ok O M iE (fun O => ih O) h
      | .Call (.Name x q) (a :: as) (k :: ks) p, h =>
        obtain ⟨hg, h⟩ := if_some h
        obtain ⟨kk, h1, h2⟩ := bind_some h
        exact mkCk_ok O M iE (O.gl hg) h1 h2
      | .Call (.Attribute o m ap) as [] p, h =>
        obtain ⟨hb, h⟩ := if_some h
        simp only [Bool.and_eq_true, decide_eq_true_eq] at hb
        obtain ⟨⟨b1, b2⟩, b3⟩ := hb
        unfold cMet at h
        split at h
        · rename_i b eb
          obtain ⟨hne, h⟩ := if_some h
          obtain ⟨o', es, h1, h2, rfl⟩ := two_some (f := Ex.bm b) h
          exact bm_ok O M hne eb b1 b2 b3 (iE o o' h1) h2 iE
        · obtain ⟨o', es, h1, h2, rfl⟩ := two_some (f := fun o es => Ex.met o m es) h
          exact met_ok O M b1 b2 b3 (iE o o' h1) h2 iE
      | .Subscript o i p, h =>
        cases i with
        | Slice lo hi d q =>
          cases d with
          | none =>
            obtain ⟨o', lo', hi', h1, h2, h3, rfl⟩ := tri_some (f := Ex.slc) h
            refine PE.imp (pe_slice (sl_slcV S0) (iE o o' h1) (iO lo lo' h2) (iO hi hi' h3)) fun σ H Q z => ?_
            unfold wE at z
            exact z
          | some d => cases h
        | _ => exact idx_okG O M iE rfl h
    · cases e with
      | none =>
        cases h
        unfold wO
        exact po_none
      | some e =>
        obtain ⟨e', h1, rfl⟩ := map_some (f := Ox.some) h
        refine ⟨fun pins s σ H Q I z => (po_some (iE e e' h1)).run pins s σ H Q I ?_⟩
        unfold wO at z
        refine wE_mono M e' (fun x H1 z1 => ?_) z
        unfold intK at z1
        split at z1
        · exact ⟨_, rfl, z1⟩
        · exact z1.elim
    · cases e with
      | UnaryOp op a p =>
        cases op with
        | Not =>
          obtain ⟨a', h1, rfl⟩ := map_some (f := Te.not) h
          refine PT.imp (pt_not (iT a a' h1)) fun σ H Q z => ?_
          unfold wT at z
          exact z
        | _ => exact val_ok O M iE rfl h
      | BoolOp op vs p =>
        match op, vs, h with
        | .And, [], h => cases h
        | .Or, [], h => cases h
        | .And, [a], h => exact (pw_and1 (iT a c h)).pt
        | .Or, [a], h => exact (pw_or1 (iT a c h)).pt
        | .And, a :: b :: r, h =>
          obtain ⟨a', b', h1, h2, rfl⟩ := two_some (f := Te.and) h
          refine PT.imp (pw_and (iT a a' h1) (pw_of (iT _ b' h2))).pt fun σ H Q z => ?_
          unfold wT at z
          exact z
        | .Or, a :: b :: r, h =>
          obtain ⟨a', b', h1, h2, rfl⟩ := two_some (f := Te.or) h
          refine PT.imp (pw_or (iT a a' h1) (pw_of (iT _ b' h2))).pt fun σ H Q z => ?_
          unfold wT at z
          exact z
      | IfExp t a b p => cases h
      | Compare a os bs p =>
        match os, bs, h with
        | [o], [b], h =>
          change (match ginOf C o b with
            | some u => (cE C n a).map (.gin u.1 u.2)
            | none => iff' (behindOk o b) ((two (cE C n a) (cE C n b) (.cmp o)))) = some c at h
          split at h
          · rename_i u hu
            obtain ⟨a', h1, rfl⟩ := map_some h
            exact ginT_ok O M hu (iE a a' h1)
          obtain ⟨hb, h⟩ := if_some h
          obtain ⟨a', b', h1, h2, rfl⟩ := two_some (f := Te.cmp o) h
          refine PT.imp (pt_cmpR (op_cmpV S0 O.hu o) (iE a a' h1) (iE b b' h2) (marks_ok hb)) fun σ H Q z => ?_
          unfold wT at z
          exact wE_mono M a' (fun x H1 z1 => wE_mono M b' (fun y H2 z2 => cmpV_mono (fun v H3 z3 => boolV_ex z3) z2) z1) z
        | [o, o'], [b, d], h =>
          obtain ⟨hb, h⟩ := if_some h
          obtain ⟨a', b', d', h1, h2, h3, rfl⟩ := tri_some (f := Te.chn o o') h
          simp only [Bool.and_eq_true] at hb
          refine PT.imp (pt_chain (op_cmpV S0 O.hu o) (op_cmpV S0 O.hu o') (iE a a' h1) (iE b b' h2) (iE d d' h3) (last_ok hb.2)) fun σ H Q z => ?_
          unfold wT at z
          refine wE_mono M a' (fun x H1 z1 => wE_mono M b' (fun y H2 z2 => cmpV_mono (fun v H3 z3 => ?_) z2) z1) z
          obtain ⟨k, rfl, z3⟩ := boolV_ex z3
          refine ⟨k, rfl, ?_⟩
          cases k with
          | true => exact wE_mono M d' (fun y H4 z4 => cmpV_mono (fun v H5 z5 => boolV_ex z5) z4) z3
          | false => exact ⟨false, rfl, z3⟩
      | _ => exact val_ok O M iE rfl h
end
end QL
set_option Elab.async false
set_option linter.all false
set_option maxRecDepth 100000
set_option maxHeartbeats 4000000
/-! QD: targets: attributes, a star at the end. -/
namespace QL
open PySem PySem.Spec L2
open PyProof.Rows hiding St
theorem obj_there {P : Program} {w : World} {H : Hp} {h : Heap} {a : Addr} {o : HO} (x : ObjOk P w H h a o) : ∃ u, h.get? a = some u := by
  cases o with
  | lst xs => obtain ⟨_, _, _, _, e⟩ := x; exact ⟨_, e⟩
  | tup xs => obtain ⟨_, _, _, ob, e, _⟩ := x; exact ⟨_, e⟩
  | dK kvs => obtain ⟨_, _, _, _, o, _, _, e, _⟩ := x; exact ⟨_, e⟩
  | dT kvs => obtain ⟨_, _, _, _, o, _, _, e, _⟩ := x; exact ⟨_, e⟩
  | set S n => obtain ⟨o, _, _, _, e, _⟩ := x; exact ⟨_, e⟩
  | ins C dx fs => obtain ⟨_, _, _, e, _⟩ := x; exact ⟨_, e⟩
  | own y => exact x
  | xd fs => obtain ⟨_, ⟨_, _, _, e, _⟩, _⟩ := x; exact ⟨_, e⟩
  | rng lo hi => obtain ⟨_, _, _, e⟩ := x; exact ⟨_, e⟩
  | frz ob u => obtain ⟨e, _⟩ := x; exact ⟨_, e⟩
  | tbl ps => exact ⟨_, x⟩
  | met f y => exact ⟨_, x⟩
  | ext φ => exact x.2.1
section
variable {X : Cx} {pins : List (Addr × Obj)} {σ : St} {H : Hp} {s : Shared} {h' : Heap} {D : Addr} {its : List Value} {ys : List V} {m : Str → Option Value}
/-- a new list D, all else as it was (the own frame by its map) -/
theorem inv_news {t' : Nat} (I : Inv X pins σ H s) (F : Fr X.base X.env.locals s.heap m) (F' : Fr X.base X.env.locals h' m) (N' : News X.base X.env.locals h' ((D, { cls := .type "list", data := .seq its.toArray 0 }) :: allNews X.base s.heap X.env.locals))
    (hlt : ∀ p ∈ allNews X.base s.heap X.env.locals, p.1 < D) (r : Vals ys its) (hz : ys.length ≤ sizeLine) : H D = none ∧ Inv X pins σ (upd H D (.lst ys)) { s with heap := h', toks := t' } := by
  obtain ⟨d1, d2, d3⟩ := N' _ (List.mem_cons_self ..)
  have old : ∀ b o, b ≠ X.env.locals → s.heap.get? b = some o → h'.get? b = some o ∧ b ≠ D := fun b o nl e => by
    cases q : X.base.get? b with
    | some u =>
      have z := F.keep b u q
      rw [e] at z
      cases z
      exact ⟨F'.keep b _ q, fun z => by subst z; rw [d3] at q; cases q⟩
    | none =>
      have hm := mem_allNews nl q e
      exact ⟨(N' _ (List.mem_cons_of_mem _ hm)).1, Nat.ne_of_lt (hlt _ hm)⟩
  have hD : H D = none := by
    cases q : H D with
    | none => rfl
    | some u =>
      obtain ⟨o, ho⟩ : ∃ o, s.heap.get? D = some o := by
        exact obj_there (I.hok D u q)
      exact absurd rfl (old D o d2 ho).2
  have up : ∀ b u, H b = some u → upd H D (.lst ys) b = some u := fun b u e => by rw [upd_ne (fun z => by rw [z, hD] at e; cases e)]; exact e
  have nl : ∀ b u, H b = some u → b ≠ X.env.locals := fun b u e z => by rw [z, I.free] at e; cases e
  refine ⟨hD, ?_⟩
  refine I.step (g' := s.gens) (d' := s.drawn) (ch := []) (fun _ z => nomatch z) (fun b o hb _ _ e _ => (old b o hb e).1) (fun b o hb _ _ e _ => ⟨o.slots, (old b o hb e).1⟩) (fun b o _ e n => ?_) (fun b o _ e => ?_)
    (fun b _ e => up b _ e) (fun b _ _ e => up b _ e) (fun b ps e => ⟨#[], by rw [up b _ e]; simp⟩) (fun m' hm => ?_) (fun b u e => ?_) I.bare
  · by_cases hb : b = X.env.locals
    · rw [upd_ne (fun z => d2 (by rw [← z, hb]))]
      exact n
    · rw [upd_ne (old b o hb e).2]
      exact n
  · by_cases hb : b = X.env.locals
    · subst hb
      obtain ⟨o', _, _, z, _⟩ := F'.ns
      exact ⟨o', z⟩
    · exact ⟨o, (old b o hb e).1⟩
  · have := F'.ns
    rw [SlX.ns_only hm F.ns]
    exact this
  · by_cases hb : b = D
    · subst hb
      rw [upd_same] at e
      cases e
      exact ⟨hz, its, 0, r, d1⟩
    · rw [upd_ne hb] at e
      refine (I.hok b u e).stay (fun c v hc q => ?_) (fun c q => up c _ q) fun c _ q => up c _ q
      refine (old c v ?_ q).1
      rcases hc with z | z
      · rw [z]
        exact nl b u e
      · exact nl c _ z
/-- o.f = .. as a target -/
def gFld (S : Stat) (to : TE) (f : Str) : TG := fun v σ H Q => to σ H fun x H1 => match x with
  | .ref a => (match H1 a with
    | some (.ins C dx fs) => S.fl C f ∧ fs.length < 1000 ∧ Q σ (upd H1 a (.ins C dx (putF f v fs)))
    | _ => False)
  | _ => False
theorem pg_fldQ {S : Stat} {F : Sm} {k : Nat} {C : CI} {W : WX} (O : OkE X S F k C W) {o : Expr} {f : Str} {p : Pos} {to : TE} (ho : PE X o to) : PG X (.Attribute o f p) (gFld S to f) := by
  refine ⟨fun pins s σ H v u Q I r z => ?_⟩
  rw [assign_Attribute]
  refine wpAny_bind (wpAny_holding (thn (ho.run pins s σ H _ I z) fun ov s1 ⟨x, H1, I1, rx, q⟩ => ?_))
  refine wpAny_bind (wpAny_standAt (wpAny_bind (wpAny_holding ?_)))
  cases x with
  | ref a =>
    obtain rfl : ov = Value.ref a := rx
    simp only at q
    split at q
    · rename_i ea
      obtain ⟨q1, q2⟩ := O.G.fl _ _ q.1
      exact setattr_ok I1 ea q1 q2 q.2.1 r fun s3 I3 => wpAny_release ⟨σ, _, I3, q.2.2⟩
    · exact q.elim
  | _ => exact q.elim
/-- (a, .., *r) = a tuple or list -/
def gStar (so : Addr → Option HO) (n : Nat) (t : TGs) : TG := fun v σ H Q => match v with
  | .ref a => (match rd so H a with
    | some (.tup xs) => n ≤ xs.length ∧ xs.length ≤ 16384 ∧ ∀ D, H D = none → so D = none → t (xs.take n ++ [.ref D]) σ (upd H D (.lst (xs.drop n))) Q
    | some (.lst xs) => n ≤ xs.length ∧ xs.length ≤ 16384 ∧ ∀ D, H D = none → so D = none → t (xs.take n ++ [.ref D]) σ (upd H D (.lst (xs.drop n))) Q
    | _ => False)
  | _ => False
theorem pg_star {so : Addr → Option HO} (S0 : SoOk X.K so) {es : List Expr} {k : Nat} {pos : Pos} {t : TGs} {n : Nat} (hc : X.calm = true) (h : PGs X es t)
    (hn : (assignEach es X.env).length = n + 1) (hst : (assignEach es X.env).findIdx? (·.1) = some n) : PG X (.Tuple es k pos) (gStar so n t) := by
  refine ⟨fun pins s σ H v u Q I r hw => ?_⟩
  cases v with
  | ref a =>
    obtain rfl : u = Value.ref a := r
    obtain ⟨m, F⟩ := I.fr
    have fin : ∀ (xs : List V) (its : List Value), Vals xs its → n ≤ xs.length → xs.length ≤ 16384 → (∀ D, H D = none → so D = none → t (xs.take n ++ [.ref D]) σ (upd H D (.lst (xs.drop n))) Q) →
        ∀ D h' tk, Fr X.base X.env.locals h' m → News X.base X.env.locals h' ((D, PySem.W.listOf (its.drop n).toArray 0) :: allNews X.base s.heap X.env.locals) → (∀ p ∈ allNews X.base s.heap X.env.locals, p.1 < D) →
        wpAny (model X.prog X.w) X.A (assignInOrder ((assignEach es X.env).map (·.2)) (its.take n ++ [.ref D] ++ [])) (fun _ s' => ∃ σ' H', Inv X pins σ' H' s' ∧ Q σ' H') X.xe { s with heap := h', toks := tk } := by
      intro xs its rv h1 h2 q D h' tk F' N' hlt
      obtain ⟨hD, I'⟩ := inv_news (t' := tk) I F F' N' hlt (rv.drop n) (by rw [List.length_drop, sizeLine_eq]; omega)
      rw [List.append_nil]
      exact h.run pins _ σ _ _ _ Q I' ((rv.take n).append (.cons (show L2.RelV (.ref D) (Value.ref D) from rfl) .nil)) (q D hD (nok_upd (nok_of S0 I')))
    simp only [gStar] at hw
    split at hw
    · rename_i xs e
      obtain ⟨its, rv, ht, hz⟩ := I.tuple (rd_tup S0 e)
      have hl : its.toArray.size = xs.length := by rw [List.size_toArray]; exact rv.length.symm
      exact PySem.W.kun_assignT F news_all ht (I.ok.hd hc) hn hst (Nat.lt_succ_self _) (by rw [hl]; omega) (by rw [hl]; exact hw.2.1) rfl rfl rfl (by
        have e1 : (its.toArray.toList.drop n).take (its.toArray.size + 1 - (n + 1)) = its.drop n := by
          rw [List.take_of_length_le]
          rw [List.length_drop, List.size_toArray]
          show its.length - n ≤ _
          omega
        have e2 : (its.toArray.toList.drop n).drop (its.toArray.size + 1 - (n + 1)) = [] := by
          rw [List.drop_eq_nil_iff, List.length_drop, List.size_toArray]
          show its.length - n ≤ _
          omega
        rw [e1, e2]
        exact fin xs its rv hw.1 hw.2.1 hw.2.2)
    · rename_i xs e
      obtain ⟨its, rv, ht, hz⟩ := I.list (rd_lst S0 e)
      have hl : its.toArray.size = xs.length := by rw [List.size_toArray]; exact rv.length.symm
      obtain ⟨ob, nb, b1, b2, b3, b4⟩ := ht
      exact PySem.W.kun_assignL F news_all ⟨ob, b1, b2, nb, b4⟩ (I.ok.hd hc) hn hst (Nat.lt_succ_self _) (by rw [hl]; omega) (by rw [hl]; exact hw.2.1) rfl rfl rfl (by
        have e1 : (its.toArray.toList.drop n).take (its.toArray.size + 1 - (n + 1)) = its.drop n := by
          rw [List.take_of_length_le]
          rw [List.length_drop, List.size_toArray]
          show its.length - n ≤ _
          omega
        have e2 : (its.toArray.toList.drop n).drop (its.toArray.size + 1 - (n + 1)) = [] := by
          rw [List.drop_eq_nil_iff, List.length_drop, List.size_toArray]
          show its.length - n ≤ _
          omega
        rw [e1, e2]
        exact fin xs its rv hw.1 hw.2.1 hw.2.2)
    · exact hw.elim
  | _ => exact hw.elim
end
end QL
set_option Elab.async false
set_option linter.all false
set_option maxRecDepth 100000
set_option maxHeartbeats 4000000
/-! Q9: statements: the small language, what its terms ask, how Python's are turned. -/
namespace QL
open PySem PySem.Spec L2
open PyProof.Rows hiding St
/-- targets of an assignment -/
inductive Lv where
  | nm (i : Nat)
  | sub (o i : Ex)
  | fld (o : Ex) (f : Str)
mutual
inductive Sx where
  | asg (i : Nat) (e : Ex)
  | setI (o i e : Ex)
  | setF (o : Ex) (f : Str) (e : Ex)
  | par (is : List Nat) (es : Exs)
  | exp (e : Ex)
  | ret (e : Ex)
  | retN
  | ifs (t : Te) (a b : Sxs)
  | rng (i : Nat) (lo hi : Ex) (b : Sxs)
  | forL (t : Tg) (e : Ex) (b : Sxs)
  | forS (t : Tg) (s : Sr) (b : Sxs)
  | whl (t : Te) (b : Sxs)
  | pass
  | never
  | rai (c : Str) (es : Exs)
  | trx (b : Sxs) (cs : List Str) (i j : Nat)
  | unp (is : List Nat) (e : Ex)
  | aug (i : Nat) (o : Operator) (e : Ex)
  | augF (o : Ex) (f : Str) (op : Operator) (e : Ex)
  | augI (o i : Ex) (op : Operator) (e : Ex)
  | asgT (ts : List Lv) (e : Ex)
  | unpS (is : List Nat) (r : Nat) (e : Ex)
inductive Sxs where
  | nil
  | cons (s : Sx) (r : Sxs)
end
/-- a for over m ints from i on -/
def lpR (g : TG) (tb : TS) (D : Ends) : Nat → Int → St → Hp → Prop
  | 0, _, σ, H => D.nx σ H
  | m + 1, i, σ, H => g (.int i) σ H fun σ2 H2 => tb { D with nx := lpR g tb D m (i + 1), ct := lpR g tb D m (i + 1), bk := D.nx } σ2 H2
/-- a for over the list at a, which stays -/
def lpL (so : Addr → Option HO) (a : Addr) (xs : List V) (g : TG) (tb : TS) (D : Ends) : List V → St → Hp → Prop
  | [], σ, H => rd so H a = some (.lst xs) ∧ D.nx σ H
  | x :: r, σ, H => rd so H a = some (.lst xs) ∧ g x σ H fun σ2 H2 => tb { D with nx := lpL so a xs g tb D r, ct := lpL so a xs g tb D r, bk := D.nx } σ2 H2
/-- a for over a source that stays -/
def lpS (so : Addr → Option HO) (cur : Hp → List Itm → Prop) (n : Nat) (g : TG) (tb : TS) (D : Ends) : Nat → St → Hp → Prop
  | 0, σ, H => nowK cur n H ∧ D.nx σ H
  | m + 1, σ, H => atK cur n (n - (m + 1)) H fun x => ylK so x H fun v H1 => g v σ H1 fun σ2 H2 => tb { D with nx := lpS so cur n g tb D m, ct := lpS so cur n g tb D m, bk := D.nx } σ2 H2
/-- a while, of at most m turns -/
def lpW (t : TT) (tb : TS) (D : Ends) : Nat → St → Hp → Prop
  | 0, _, _ => False
  | m + 1, σ, H => t σ H fun k H1 => if k = true then tb { D with nx := lpW t tb D m, ct := lpW t tb D m, bk := D.nx } σ H1 else D.nx σ H1
def setFV (S : Stat) (f : Str) (x y : V) (H : Hp) (Q : Hp → Prop) : Prop := match x with
  | .ref a => (match H a with
    | some (.ins C dx fs) => S.fl C f ∧ fs.length < 1000 ∧ Q (upd H a (.ins C dx (putF f y fs)))
    | _ => False)
  | _ => False
def lstK (so : Addr → Option HO) (x : V) (H : Hp) (B : Addr → List V → Prop) : Prop := match x with
  | .ref a => (match rd so H a with
    | some (.lst xs) => B a xs
    | _ => False)
  | _ => False
def augV (o : Operator) (v x : V) (H : Hp) (Q : VK) : Prop := match o, v, x with
  | .Add, .int i, .int j => Q (.int (i + j)) H
  | .Sub, .int i, .int j => Q (.int (i - j)) H
  | _, _, _ => False
/-- a class under one of these -/
def isaAny (S : Stat) (C : Addr) : List Str → Option Bool
  | [] => some false
  | c :: r => match S.isa C c, isaAny S C r with
    | some b, some d => some (b || d)
    | _, _ => none
/-- what a try that keeps the exception wishes of it -/
def trW (S : Stat) (cs : List Str) (i j : Nat) (D : Ends) : WX := fun cls d σ H => ∃ C, cls = .ref C ∧ isaAny S C cs = some true ∧ ∀ a, H a = none → S.so a = none → D.nx ((σ.set j (some (.ref a))).set i none) (upd H a (exV a C d))
def wLv (S : Stat) (F : Sm) (W : WX) : Lv → TG
  | .nm i => gName i
  | .sub o i => fun v σ H Q => wE S F W o σ H fun y H1 => wE S F W i σ H1 fun z H2 => setV y z v H2 fun H3 => Q σ H3
  | .fld o f => gFld S (wE S F W o) f
def wLvs (S : Stat) (F : Sm) (W : WX) : List Lv → List V → St → Hp → (St → Hp → Prop) → Prop
  | [], vs, σ, H, Q => vs = [] ∧ Q σ H
  | t :: ts, vs, σ, H, Q => ∃ v r, vs = v :: r ∧ wLv S F W t v σ H fun σ' H' => wLvs S F W ts r σ' H' Q
/-- the items of a tuple or list -/
def itmK (so : Addr → Option HO) (x : V) (H : Hp) (B : List V → Prop) : Prop := match x with
  | .ref a => (match rd so H a with
    | some (.tup xs) => B xs
    | some (.lst xs) => B xs
    | _ => False)
  | _ => False
/-- o.f op= .. -/
def augFK (S : Stat) (f : Str) (x : V) (H : Hp) (B : Addr → Addr → V → Prop) : Prop := match x with
  | .ref a => (match H a with
    | some (.ins C dx fs) => S.fl C f ∧ (match fs.lookup f with
      | some v => B a C v
      | none => False)
    | _ => False)
  | _ => False
def augFS (a C : Addr) (f : Str) (z : V) (H : Hp) (Q : Hp → Prop) : Prop := match H a with
  | some (.ins C' dx fs) => C' = C ∧ fs.length < 1000 ∧ Q (upd H a (.ins C dx (putF f z fs)))
  | _ => False
/-- xs[i] op= .. -/
def augIK (x y : V) (H : Hp) (B : Addr → Int → V → Prop) : Prop := match x, y with
  | .ref a, .int i => (match H a with
    | some (.lst xs) => 0 ≤ i ∧ (match xs[i.toNat]? with
      | some v => B a i v
      | none => False)
    | _ => False)
  | _, _ => False
section
variable (S : Stat) (F : Sm)
mutual
def wS (W : WX) : Sx → TS
  | .asg i e => fun D σ H => wE S F W e σ H fun x H1 => D.nx (σ.set i (some x)) H1
  | .setI o i e => fun D σ H => wE S F W e σ H fun x H1 => wE S F W o σ H1 fun y H2 => wE S F W i σ H2 fun z H3 => setV y z x H3 fun H4 => D.nx σ H4
  | .setF o f e => fun D σ H => wE S F W e σ H fun y H1 => wE S F W o σ H1 fun x H2 => setFV S f x y H2 fun H3 => D.nx σ H3
  | .par is es => fun D σ H => wA S F W es σ H fun vs H1 => parK (setL is vs σ) fun σ' => D.nx σ' H1
  | .exp e => fun D σ H => wE S F W e σ H fun _ H1 => D.nx σ H1
  | .ret e => fun D σ H => wE S F W e σ H D.rt
  | .retN => fun D _ H => D.rt .non H
  | .ifs t a b => fun D σ H => wT S F W t σ H fun k H1 => if k = true then wSs W a D σ H1 else wSs W b D σ H1
  | .rng i lo hi b => fun D σ H => wE S F W lo σ H fun x H1 => wE S F W hi σ H1 fun y H2 => intK x fun l => intK y fun h => lpR (gName i) (wSs W b) D (h - l).toNat l σ H2
  | .forL t e b => fun D σ H => wE S F W e σ H fun x H1 => lsqK S.so x H1 fun xs cur => lpS S.so (fun H' its => ∃ ys, cur H' ys ∧ its = ys.map .v) xs.length (gT S.so t) (wSs W b) D xs.length σ H1
  | .forS t s b => fun D σ H => wI S F W s σ H fun n cur H1 => lpS S.so cur n (gT S.so t) (wSs W b) D n σ H1
  | .whl t b => fun D σ H => ∃ m, lpW (wT S F W t) (wSs W b) D m σ H
  | .pass => fun D σ H => D.nx σ H
  | .never => fun _ _ _ => False
  | .rai c es => fun _ σ H => wA S F W es σ H fun vs H1 => raiV S c vs H1 fun c d H' => W c d σ H'
  | .trx b cs i j => fun D σ H => wSs (trW S cs i j D) b D σ H
  | .unp is e => fun D σ H => wE S F W e σ H fun x H1 => gT S.so (.tp is) x σ H1 D.nx
  | .aug i o e => fun D σ H => varK σ[i]? fun v => wE S F W e σ H fun x H1 => augV o v x H1 fun y H2 => D.nx (σ.set i (some y)) H2
  | .augF o f op e => fun D σ H => wE S F W o σ H fun x H1 => augFK S f x H1 fun a C v => wE S F W e σ H1 fun y H2 => augV op v y H2 fun z H3 => augFS a C f z H3 fun H4 => D.nx σ H4
  | .augI o i op e => fun D σ H => wE S F W o σ H fun x H1 => wE S F W i σ H1 fun y H2 => augIK x y H2 fun a k v => wE S F W e σ H2 fun u H3 => augV op v u H3 fun z H4 => setV (.ref a) (.int k) z H4 fun H5 => D.nx σ H5
  | .asgT ts e => fun D σ H => wE S F W e σ H fun x H1 => itmK S.so x H1 fun xs => xs.length = ts.length ∧ wLvs S F W ts xs σ H1 D.nx
  | .unpS is r e => fun D σ H => wE S F W e σ H fun x H1 => gStar S.so is.length (fun vs σ' H' Q => parK (setL (is ++ [r]) vs σ') fun σ2 => Q σ2 H') x σ H1 D.nx
def wSs (W : WX) : Sxs → TS
  | .nil => fun D σ H => D.nx σ H
  | .cons s r => fun D σ H => wS W s { D with nx := wSs W r D } σ H
end
end
/-! ### turning -/
def notComp : Expr → Bool
  | .ListComp _ _ _ _ => false
  | .SetComp _ _ _ _ => false
  | .DictComp _ _ _ _ _ => false
  | _ => true
/-- what a name may be set to -/
def asgComp : Expr → Bool
  | .ListComp _ _ _ _ => true
  | e => notComp e
/-- a target that is no plain name -/
def cLv (C : CI) (n : Nat) : Expr → Option Lv
  | .Name x _ => (locOf C x).map .nm
  | .Subscript o i _ => iff' (notSlice i) (two (cE C n o) (cE C n i) .sub)
  | .Attribute o f _ => (cE C n o).map (.fld · f)
  | _ => none
def cLvs (C : CI) (n : Nat) : List Expr → Option (List Lv)
  | [] => some []
  | t :: ts => two (cLv C n t) (cLvs C n ts) fun a b => a :: b
def notNm (C : CI) : Expr → Bool
  | .Name x _ => !(C.sc.names.lookup x == some .local)
  | _ => true
/-- the stores are no swapped ones -/
def noSwap (C : CI) (ts : List Expr) (e : Expr) : Bool := match tupOf e with
  | some _ => !(ts.length == 2 || ts.length == 3) || ts.any (notNm C)
  | none => true
/-- names, and a starred one at the end -/
def starOf : Expr → Option (List (Str × Pos) × Str)
  | .Starred (.Name x _) _ => some ([], x)
  | _ => none
def starNms : List Expr → Option (List (Str × Pos) × Str)
  | [] => none
  | [e] => starOf e
  | e :: f :: es => two (nmOf e) (starNms (f :: es)) fun a b => (a :: b.1, b.2)
/-- a local name's slot -/
def nCS : (Stmt → Option Sx) → List Stmt → Option Sxs
  | _, [] => some .nil
  | f, e :: es => two (f e) (nCS f es) .cons
def cPar2 (C : CI) (n : Nat) (x : Str) (px : Pos) (y : Str) (py : Pos) (a b : Expr) : Option Sx :=
  iff' (px.line == py.line && !(x == y) && !([a, b].all (foldedForSure 8)) && !([a, b].all (constantsAlone 8)))
    (tri (loc1 C x) (loc1 C y) (nCE (cE C n) [a, b]) fun i j es => .par [i, j] es)
def cPar3 (C : CI) (n : Nat) (x : Str) (px : Pos) (y : Str) (py : Pos) (z : Str) (pz : Pos) (a b c : Expr) : Option Sx :=
  iff' (px.line == py.line && px.line == pz.line && !(x == y) && !(x == z) && !(y == z) && !([a, b, c].all (foldedForSure 8)) && !([a, b, c].all (constantsAlone 8)))
    (two (tri (loc1 C x) (loc1 C y) (loc1 C z) fun i j l => [i, j, l]) (nCE (cE C n) [a, b, c]) .par)
def cPar (C : CI) (n : Nat) (ns : List (Str × Pos)) (vs : List Expr) : Option Sx := match ns, vs with
  | [x, y], [a, b] => cPar2 C n x.1 x.2 y.1 y.2 a b
  | [x, y, z], [a, b, c] => cPar3 C n x.1 x.2 y.1 y.2 z.1 z.2 a b c
  | _, _ => none
/-- names alone -/
def cTup0 (C : CI) (n : Nat) (ts : List Expr) (e : Expr) : Option Sx := match tupOf e with
  | some vs => (nms ts).bind fun u => cPar C n u vs
  | none => iff' (notComp e) (two ((nms ts).bind (slots C)) (cE C n e) .unp)
def cAsg1 (C : CI) (n : Nat) (t e : Expr) : Option Sx := match t with
  | .Name x _ => iff' (asgComp e) (two (locOf C x) (cE C n e) .asg)
  | .Subscript o i _ => iff' (notSlice i) (tri (cE C n o) (cE C n i) (cE C n e) .setI)
  | .Attribute o f _ => two (cE C n o) (cE C n e) fun o e => .setF o f e
  | .Tuple ts _ _ => (match starNms ts with
    | some u => iff' (notComp e && (tupOf e).isNone) (two (two (slots C u.1) (locOf C u.2) Prod.mk) (cE C n e) fun a e => .unpS a.1 a.2 e)
    | none => (match cTup0 C n ts e with
      | some c => some c
      | none => iff' (notComp e && noSwap C ts e) (two (cLvs C n ts) (cE C n e) .asgT)))
  | _ => none
def cAsg (C : CI) (n : Nat) (ts : List Expr) (e : Expr) : Option Sx := match ts with
  | [t] => cAsg1 C n t e
  | _ => none
def cRng (C : CI) (n : Nat) (i : Option Nat) (as : List Expr) (b : Option Sxs) : Option Sx := match as with
  | [a] => tri i (cE C n a) b fun i a b => .rng i (.lit (.int 0)) a b
  | [a, c] => two (two i (cE C n a) Prod.mk) (two (cE C n c) b Prod.mk) fun u v => .rng u.1 u.2 v.1 v.2
  | _ => none
def cFor0 (C : CI) (n : Nat) (t : Expr) (it : Expr) (b : Option Sxs) : Option Sx := match nmOf t with
  | some x => (match rngOf C it with
    | some as => cRng C n (locOf C x.1) as b
    | none => iff' (walkL it) (tri (locOf C x.1) (cE C n it) b fun i e b => .forL (.nm i) e b))
  | none => iff' (walkL it) (tri (((tupOf t).bind nms).bind (slots C)) (cE C n it) b fun is e b => .forL (.tp is) e b)
/-- a for over another source -/
def cForS (C : CI) (n : Nat) (t it : Expr) (b : Option Sxs) : Option Sx := tri (cTg C t) (cSr C (cE C n) t it) b fun u s b => .forS u.1 s b
def cFor (C : CI) (n : Nat) (t : Expr) (it : Expr) (b : Option Sxs) : Option Sx := match iff' (rngOf C it).isSome (cFor0 C n t it b) with
  | some c => some c
  | none => cForS C n t it b
/-- the classes that an except clause names -/
def clsNm (C : CI) : Expr → Option Str
  | .Name x _ => iff' (isG C x && (C.gl x == .xcl || C.gl x == .ocl || C.gl x == .bxc)) (some x)
  | _ => none
def clsNms (C : CI) : Expr → Option (List Str)
  | .Name x p => (clsNm C (.Name x p)).map fun x => [x]
  | .Tuple [a, b] _ _ => two (clsNm C a) (clsNm C b) fun x y => [x, y]
  | .Tuple [a, b, c] _ _ => tri (clsNm C a) (clsNm C b) (clsNm C c) fun x y z => [x, y, z]
  | _ => none
/-- y = n, by names -/
def asgNm : List Stmt → Option (Str × Str)
  | [.Assign [.Name y _] (.Name n _) _] => some (y, n)
  | _ => none
def cTry (C : CI) (b : Option Sxs) : List ExceptHandler → Option Sx
  | [.ExceptHandler (some T) (some n) su _] => (asgNm su).bind fun u => iff' (u.2 == n && !(u.1 == n) && okN n) (two (two b (clsNms C T) Prod.mk) (two (loc1 C n) (loc1 C u.1) Prod.mk) fun a s => .trx a.1 a.2 s.1 s.2)
  | _ => none
def cRai (C : CI) (n : Nat) : Option Expr → Option Expr → Option Sx
  | some (.Call (.Name x _) (a :: as) [] _), none => (match C.gl x with
    | .xcl => iff' (isG C x) ((nCE (cE C n) (a :: as)).map (.rai x))
    | _ => some .never)
  | _, _ => some .never
def cAug (C : CI) (n : Nat) (t : Expr) (o : Operator) (e : Expr) : Option Sx := match t with
  | .Name x _ => iff' (o == .Add || o == .Sub) (two (locOf C x) (cE C n e) fun i e => .aug i o e)
  | .Attribute b f _ => iff' (o == .Add || o == .Sub) (two (cE C n b) (cE C n e) fun b e => .augF b f o e)
  | .Subscript b i _ => iff' ((o == .Add || o == .Sub) && notSlice i) (tri (cE C n b) (cE C n i) (cE C n e) fun b i e => .augI b i o e)
  | _ => none
def cS (C : CI) : Nat → Stmt → Option Sx
  | 0, _ => none
  | n + 1, st => match st with
    | .Assign ts e _ => cAsg C n ts e
    | .Expr e _ => iff' (notComp e) ((cE C n e).map .exp)
    | .Return v _ => (match v with
      | some e => (cE C n e).map .ret
      | none => some .retN)
    | .If t a b _ => tri (cT C n t) (nCS (cS C n) a) (nCS (cS C n) b) .ifs
    | .For t it b o _ => iff' o.isEmpty (cFor C n t it (nCS (cS C n) b))
    | .While t b o _ => iff' o.isEmpty (two (cT C n t) (nCS (cS C n) b) .whl)
    | .Pass _ => some .pass
    | .Raise a b _ => cRai C n a b
    | .Try b hs o f _ => iff' (o.isEmpty && f.isEmpty) (cTry C (nCS (cS C n) b) hs)
    | .AugAssign t o e _ => cAug C n t o e
    | _ => none
end QL
set_option Elab.async false
set_option linter.all false
set_option maxRecDepth 100000
set_option maxHeartbeats 4000000
/-! Q10: the turned statements keep what is asked. -/
namespace QL
open PySem PySem.Spec L2
open PyProof.Rows hiding St
structure Le (D D' : Ends) : Prop where
  nx : ∀ σ H, D.nx σ H → D'.nx σ H
  rt : ∀ v H, D.rt v H → D'.rt v H
  bk : ∀ σ H, D.bk σ H → D'.bk σ H
  ct : ∀ σ H, D.ct σ H → D'.ct σ H
section
variable {S : Stat} {F : Sm} {W W' : WX}
theorem setV_mono {o i v : V} {H : Hp} {Q Q' : Hp → Prop} (q : ∀ H, Q H → Q' H) (h : setV o i v H Q) : setV o i v H Q' := by
  unfold setV at h ⊢
  split at h
  · split at h
    · split at h
      · exact q _ h
      · exact h.elim
    · exact ⟨h.1, q _ h.2⟩
    · exact h.elim
  · split at h
    · exact ⟨h.1, q _ h.2⟩
    · exact h.elim
  · exact h.elim
def TSle (t t' : TS) : Prop := ∀ D D' σ H, Le D D' → t D σ H → t' D' σ H
theorem augFS_mono {a C : Addr} {f : Str} {z : V} {H : Hp} {Q Q' : Hp → Prop} (q : ∀ H, Q H → Q' H) (h : augFS a C f z H Q) : augFS a C f z H Q' := by
  unfold augFS at h ⊢
  split at h
  · exact ⟨h.1, h.2.1, q _ h.2.2⟩
  · exact h.elim
theorem wLv_mono {S : Stat} {F : Sm} (M : SmMono F) {W W' : WX} (w : ∀ c d σ H, W c d σ H → W' c d σ H) {t : Lv} {v : V} {σ : St} {H : Hp} {Q Q' : St → Hp → Prop} (q : ∀ σ H, Q σ H → Q' σ H) (h : wLv S F W t v σ H Q) : wLv S F W' t v σ H Q' := by
  cases t with
  | nm i => exact q _ _ h
  | sub o i => exact wE_mono2 M w o (fun y H1 z1 => wE_mono2 M w i (fun z H2 z2 => setV_mono (fun H z => q _ _ z) z2) z1) h
  | fld o f =>
    refine wE_mono2 M w o (fun x H1 z1 => ?_) h
    cases x with
    | ref a =>
      simp only at z1 ⊢
      split at z1
      · exact ⟨z1.1, z1.2.1, q _ _ z1.2.2⟩
      · exact z1.elim
    | _ => exact z1.elim
theorem wLvs_mono {S : Stat} {F : Sm} (M : SmMono F) {W W' : WX} (w : ∀ c d σ H, W c d σ H → W' c d σ H) {Q Q' : St → Hp → Prop} (q : ∀ σ H, Q σ H → Q' σ H) : ∀ (ts : List Lv) (vs : List V) (σ : St) (H : Hp), wLvs S F W ts vs σ H Q → wLvs S F W' ts vs σ H Q'
  | [], _, _, _, h => ⟨h.1, q _ _ h.2⟩
  | _ :: ts, _, _, _, h => by
    obtain ⟨v, r, e, h⟩ := h
    exact ⟨v, r, e, wLv_mono M w (fun σ H z => wLvs_mono M w q ts _ _ _ z) h⟩
theorem lpR_mono {tb tb' : TS} {i0 : Nat} (m : TSle tb tb') {D D' : Ends} (l : Le D D') : ∀ (n : Nat) (i : Int) (σ : St) (H : Hp), lpR (gName i0) tb D n i σ H → lpR (gName i0) tb' D' n i σ H
  | 0, i, σ, H, h => l.nx _ _ h
  | n + 1, i, σ, H, h => by
    refine m _ _ _ _ ?_ h
    exact ⟨fun σ H z => lpR_mono m l n (i + 1) σ H z, l.rt, l.nx, fun σ H z => lpR_mono m l n (i + 1) σ H z⟩
theorem lpS_mono {so : Addr → Option HO} {cur : Hp → List Itm → Prop} {n : Nat} {tb tb' : TS} {t : Tg} (m : TSle tb tb') {D D' : Ends} (l : Le D D') : ∀ (r : Nat) (σ : St) (H : Hp), lpS so cur n (gT so t) tb D r σ H → lpS so cur n (gT so t) tb' D' r σ H
  | 0, σ, H, h => ⟨h.1, l.nx _ _ h.2⟩
  | r + 1, σ, H, h => by
    refine atK_mono (fun x z0 => ylK_mono (fun v H1 z1 => gT_mono (fun σ2 H2 z => ?_) z1) z0) h
    refine m _ _ _ _ ?_ z
    exact ⟨fun σ H z => lpS_mono m l r σ H z, l.rt, l.nx, fun σ H z => lpS_mono m l r σ H z⟩
variable (M : SmMono F)
include M
theorem lpW_mono {t : Te} {W W' : WX} (w : ∀ c d σ H, W c d σ H → W' c d σ H) {tb tb' : TS} (m : TSle tb tb') {D D' : Ends} (l : Le D D') : ∀ (n : Nat) (σ : St) (H : Hp), lpW (wT S F W t) tb D n σ H → lpW (wT S F W' t) tb' D' n σ H
  | 0, σ, H, h => h.elim
  | n + 1, σ, H, h => by
    unfold lpW at h ⊢
    refine wT_mono2 M w t (fun k H1 z => ?_) h
    cases k with
    | true =>
      refine m _ _ _ _ ?_ z
      exact ⟨fun σ H z => lpW_mono w m l n σ H z, l.rt, l.nx, fun σ H z => lpW_mono w m l n σ H z⟩
    | false => exact l.nx _ _ z
mutual
theorem wS_mono : ∀ (c : Sx) {W W' : WX} (w : ∀ c d σ H, W c d σ H → W' c d σ H) (D D' : Ends) (σ : St) (H : Hp), Le D D' → wS S F W c D σ H → wS S F W' c D' σ H
  | .asg i e, W, W', w, D, D', σ, H, l, h => by
    rw [wS] at h ⊢
    exact wE_mono2 M w e (fun x H1 z => l.nx _ _ z) h
  | .setI o i e, W, W', w, D, D', σ, H, l, h => by
    rw [wS] at h ⊢
    exact wE_mono2 M w e (fun x H1 z1 => wE_mono2 M w o (fun y H2 z2 => wE_mono2 M w i (fun z H3 z3 => setV_mono (fun H4 z4 => l.nx _ _ z4) z3) z2) z1) h
  | .setF o f e, W, W', w, D, D', σ, H, l, h => by
    rw [wS] at h ⊢
    refine wE_mono2 M w e (fun x H1 z1 => wE_mono2 M w o (fun y H2 z2 => ?_) z1) h
    unfold setFV at z2 ⊢
    split at z2
    · split at z2
      · exact ⟨z2.1, z2.2.1, l.nx _ _ z2.2.2⟩
      · exact z2.elim
    · exact z2.elim
  | .par is es, W, W', w, D, D', σ, H, l, h => by
    rw [wS] at h ⊢
    refine wA_mono2 M w es (fun vs H1 z => ?_) h
    unfold parK at z ⊢
    split at z
    · exact l.nx _ _ z
    · exact z.elim
  | .exp e, W, W', w, D, D', σ, H, l, h => by
    rw [wS] at h ⊢
    exact wE_mono2 M w e (fun x H1 z => l.nx _ _ z) h
  | .ret e, W, W', w, D, D', σ, H, l, h => by
    rw [wS] at h ⊢
    exact wE_mono2 M w e l.rt h
  | .retN, W, W', w, D, D', σ, H, l, h => by
    rw [wS] at h ⊢
    exact l.rt _ _ h
  | .ifs t a b, W, W', w, D, D', σ, H, l, h => by
    rw [wS] at h ⊢
    refine wT_mono2 M w t (fun k H1 z => ?_) h
    cases k with
    | true => exact wSs_mono a w _ _ _ _ l z
    | false => exact wSs_mono b w _ _ _ _ l z
  | .rng i lo hi b, W, W', w, D, D', σ, H, l, h => by
    rw [wS] at h ⊢
    refine wE_mono2 M w lo (fun x H1 z1 => wE_mono2 M w hi (fun y H2 z2 => ?_) z1) h
    unfold intK at z2 ⊢
    split at z2
    · split at z2
      · exact lpR_mono (fun D D' σ H l z => wSs_mono b w D D' σ H l z) l _ _ _ _ z2
      · exact z2.elim
    · exact z2.elim
  | .forS t s b, W, W', w, D, D', σ, H, l, h => by
    rw [wS] at h ⊢
    exact wI_mono2 M w s (fun xs kp H1 h1 => lpS_mono (fun D D' σ H l z => wSs_mono b w D D' σ H l z) l xs σ H1 h1) h
  | .forL t e b, W, W', w, D, D', σ, H, l, h => by
    rw [wS] at h ⊢
    exact wE_mono2 M w e (fun x H1 z1 => lsqK_mono (fun xs cur z => lpS_mono (fun D D' σ H l z => wSs_mono b w D D' σ H l z) l _ _ _ z) z1) h
  | .whl t b, W, W', w, D, D', σ, H, l, h => by
    rw [wS] at h ⊢
    obtain ⟨m, z⟩ := h
    exact ⟨m, lpW_mono M w (fun D D' σ H l z => wSs_mono b w D D' σ H l z) l m _ _ z⟩
  | .pass, W, W', w, D, D', σ, H, l, h => by
    rw [wS] at h ⊢
    exact l.nx _ _ h
  | .never, W, W', w, D, D', σ, H, l, h => by
    rw [wS] at h
    exact h.elim
  | .rai c es, W, W', w, D, D', σ, H, l, h => by
    rw [wS] at h ⊢
    exact wA_mono2 M w es (fun vs H1 z => raiV_mono (fun c d H' z => w c d σ H' z) z) h
  | .trx b cs i j, W, W', w, D, D', σ, H, l, h => by
    rw [wS] at h ⊢
    exact wSs_mono b (fun cls d σ H ⟨C, e, h1, h2⟩ => ⟨C, e, h1, fun a h3 h4 => l.nx _ _ (h2 a h3 h4)⟩) _ _ _ _ l h
  | .unp is e, W, W', w, D, D', σ, H, l, h => by
    rw [wS] at h ⊢
    exact wE_mono2 M w e (fun x H1 z => gT_mono l.nx z) h
  | .aug i o e, W, W', w, D, D', σ, H, l, h => by
    rw [wS] at h ⊢
    unfold varK at h ⊢
    split at h
    · rename_i v ev
      simp only [ev]
      refine wE_mono2 M w e (fun x H1 z => ?_) h
      unfold augV at z ⊢
      split at z
      · exact l.nx _ _ z
      · exact l.nx _ _ z
      · exact z.elim
    · exact h.elim
  | .augF o f op e, W, W', w, D, D', σ, H, l, h => by
    rw [wS] at h ⊢
    refine wE_mono2 M w o (fun x H1 h1 => ?_) h
    unfold augFK at h1 ⊢
    split at h1
    · split at h1
      · refine ⟨h1.1, ?_⟩
        have h2 := h1.2
        split at h2
        · refine wE_mono2 M w e (fun y H2 h2 => ?_) h2
          unfold augV at h2 ⊢
          split at h2
          · exact augFS_mono (fun H z => l.nx _ _ z) h2
          · exact augFS_mono (fun H z => l.nx _ _ z) h2
          · exact h2.elim
        · exact h2.elim
      · exact h1.elim
    · exact h1.elim
  | .augI o i op e, W, W', w, D, D', σ, H, l, h => by
    rw [wS] at h ⊢
    refine wE_mono2 M w o (fun x H1 h1 => wE_mono2 M w i (fun y H2 h2 => ?_) h1) h
    unfold augIK at h2 ⊢
    split at h2
    · split at h2
      · refine ⟨h2.1, ?_⟩
        have h3 := h2.2
        split at h3
        · refine wE_mono2 M w e (fun y H2 h2 => ?_) h3
          unfold augV at h2 ⊢
          split at h2
          · exact setV_mono (fun H z => l.nx _ _ z) h2
          · exact setV_mono (fun H z => l.nx _ _ z) h2
          · exact h2.elim
        · exact h3.elim
      · exact h2.elim
    · exact h2.elim
  | .asgT ts e, W, W', w, D, D', σ, H, l, h => by
    rw [wS] at h ⊢
    refine wE_mono2 M w e (fun x H1 h1 => ?_) h
    unfold itmK at h1 ⊢
    split at h1
    · split at h1
      · exact ⟨h1.1, wLvs_mono M w (fun σ H z => l.nx _ _ z) _ _ _ _ h1.2⟩
      · exact ⟨h1.1, wLvs_mono M w (fun σ H z => l.nx _ _ z) _ _ _ _ h1.2⟩
      · exact h1.elim
    · exact h1.elim
  | .unpS is r e, W, W', w, D, D', σ, H, l, h => by
    rw [wS] at h ⊢
    refine wE_mono2 M w e (fun x H1 h1 => ?_) h
    unfold gStar at h1 ⊢
    have pk : ∀ {o : Option St} {H : Hp}, parK o (fun σ2 => D.nx σ2 H) → parK o (fun σ2 => D'.nx σ2 H) := fun {o H} z => by
      unfold parK at z ⊢
      split at z
      · exact l.nx _ _ z
      · exact z.elim
    split at h1
    · split at h1
      · exact ⟨h1.1, h1.2.1, fun Dd a b => pk (h1.2.2 Dd a b)⟩
      · exact ⟨h1.1, h1.2.1, fun Dd a b => pk (h1.2.2 Dd a b)⟩
      · exact h1.elim
    · exact h1.elim
theorem wSs_mono : ∀ (c : Sxs) {W W' : WX} (w : ∀ c d σ H, W c d σ H → W' c d σ H) (D D' : Ends) (σ : St) (H : Hp), Le D D' → wSs S F W c D σ H → wSs S F W' c D' σ H
  | .nil, W, W', w, D, D', σ, H, l, h => by
    rw [wSs] at h ⊢
    exact l.nx _ _ h
  | .cons s r, W, W', w, D, D', σ, H, l, h => by
    rw [wSs] at h ⊢
    refine wS_mono s w _ _ _ _ ?_ h
    exact ⟨fun σ H z => wSs_mono r w _ _ _ _ l z, l.rt, l.bk, l.ct⟩
end
end
section
variable {X : Cx} {tg : Expr}
/-- the turns of a range -/
theorem for_rng {lo : Int} {n : Nat} {g : TG} {tb : TS} {D : Ends} {σ : St} {H : Hp} (h : lpR g tb D n lo σ H) :
    ∃ W : Nat → Nat → St → Hp → Prop, (∃ m, W 0 m σ H) ∧ ∀ i m σ H, W i m σ H →
      ((Itr lo n).stop i H ∧ D.nx σ H) ∨ ((Itr lo n).go i H ∧ ∃ N : St → Hp → Prop, (∀ σ' H', N σ' H' → ∃ m', m' < m ∧ W (i + 1) m' σ' H') ∧ ∀ x H', (Itr lo n).yld i H x H' → g x σ H' fun σ2 H2 => tb { D with nx := N, ct := N, bk := D.nx } σ2 H2) := by
  refine ⟨fun i m σ H => m = n - i ∧ i ≤ n ∧ lpR g tb D m (lo + i) σ H, ⟨n, by simp, Nat.zero_le _, by simpa using h⟩, ?_⟩
  rintro i m σ H ⟨e, hi, z⟩
  cases m with
  | zero => exact .inl ⟨by show n ≤ i; omega, z⟩
  | succ m =>
    refine .inr ⟨by show i < n; omega, lpR g tb D m (lo + i + 1), fun σ' H' z' => ⟨m, by omega, by omega, by omega, ?_⟩, ?_⟩
    · have : lo + ((i + 1 : Nat) : Int) = lo + i + 1 := by push_cast; omega
      rw [this]
      exact z'
    · rintro x H' ⟨rfl, rfl⟩
      exact z
theorem lpS_kp {so : Addr → Option HO} {cur : Hp → List Itm → Prop} {n : Nat} {g : TG} {tb : TS} {D : Ends} : ∀ {r : Nat} {σ : St} {H : Hp}, lpS so cur n g tb D r σ H → nowK cur n H
  | 0, _, _, h => h.1
  | _ + 1, _, _, ⟨its, _, h1, h2, _⟩ => ⟨its, h1, h2⟩
/-- the turns of a source -/
theorem for_src {so : Addr → Option HO} {J : It} {cur : Hp → List Itm → Prop} {n : Nat} (j : Jok J n cur) {g g' : TG} (hg : ∀ x σ H Q, g x σ H Q → g' x σ H Q) {tb : TS} {D : Ends} {σ : St} {H : Hp} (h : lpS so cur n g tb D n σ H) :
    ∃ W : Nat → Nat → St → Hp → Prop, (∃ m, W 0 m σ H) ∧ ∀ i m σ H, W i m σ H →
      (J.stop i H ∧ D.nx σ H) ∨ (J.go i H ∧ ∃ N : St → Hp → Prop, (∀ σ' H', N σ' H' → ∃ m', m' < m ∧ W (i + 1) m' σ' H') ∧ ∀ x H', J.yld i H x H' → NoK so H' → g' x σ H' fun σ2 H2 => tb { D with nx := N, ct := N, bk := D.nx } σ2 H2) := by
  refine ⟨fun i m σ H => m = n - i ∧ i ≤ n ∧ lpS so cur n g tb D (n - i) σ H, ⟨n, by simp, Nat.zero_le _, h⟩, ?_⟩
  rintro i m σ H ⟨rfl, hi, p⟩
  have kq := lpS_kp p
  by_cases hlt : i < n
  · refine .inr ⟨j.go i H kq hlt, lpS so cur n g tb D (n - (i + 1)), fun σ' H' p' => ⟨n - (i + 1), by omega, rfl, hlt, p'⟩, fun x H' y nk => ?_⟩
    have ed : n - i = (n - (i + 1)) + 1 := by omega
    rw [ed] at p
    obtain ⟨its, it, c1, c2, c3, c4⟩ := p
    have c3 : its[i]? = some it := by rw [show n - (n - (i + 1) + 1) = i by omega] at c3; exact c3
    exact hg _ _ _ _ (ylK_of c4 (j.yld i H x H' its it c1 c2 c3 y) nk)
  · have e : i = n := by omega
    subst e
    rw [Nat.sub_self] at p
    exact .inl ⟨j.stop H kq, p.2⟩
theorem PS.imp {st : Stmt} {t t' : TS} (h : PS X st t) (q : ∀ D σ H, t' D σ H → t D σ H) : PS X st t' := ⟨fun pins s σ H D I z => h.run pins s σ H D I (q D σ H z)⟩
end
section
variable {env : Env}
theorem swaps_no {e : Expr} {t : Option Expr} {l : Nat} (h : notComp e = true) : swapsWith e t l env = pure false := by
  cases e <;> first | rfl | cases h
theorem swp2 {x y : Str} {px py pt pt2 : Pos} {kt k2 : Nat} {a b : Expr} (hk : env.scope.kind = .function) (hx : env.scope.names.lookup x = some .local) (hy : env.scope.names.lookup y = some .local) (hl : px.line = py.line) (hxy : x ≠ y)
    (sa : notStar a = true) (sb : notStar b = true) (h1 : [a, b].all (foldedForSure 8) = false) (h2 : [a, b].all (constantsAlone 8) = false) :
    swappedStores [.Tuple [.Name x px, .Name y py] kt pt] (.Tuple [a, b] k2 pt2) env = pure (some [x, y]) := by
  have hbk : env.blockKind = .function := by
    unfold Env.blockKind
    rw [hk]
    rfl
  have k1 : env.kindOf x = some .local := hx
  have k2' : env.kindOf y = some .local := hy
  have hn : ([x, y] : List Str).eraseDups.length = 2 := by
    have : (y == x) = false := by simpa using fun e => hxy e.symm
    simp [List.eraseDups, List.eraseDupsBy, List.eraseDupsBy.loop, this]
  unfold swappedStores
  simp only [h1, h2, hbk, k1, k2', List.filterMap, Expr.pos, hl, List.head?, Option.map, Option.getD]
  have e0 : (some NameKind.local == some NameKind.local && py.line == py.line) = true := by simp
  simp only [e0, if_true, List.length_cons, List.length_nil, hn, List.any_cons, List.any_nil]
  refine (if_neg (by decide)).trans ((if_neg (fun h => ?_)).trans ?_)
  · rw [Bool.or_eq_true, Bool.or_eq_true] at h
    rcases h with h | h | h
    · cases a <;> first | exact absurd h Bool.false_ne_true | exact absurd sa Bool.false_ne_true
    · cases b <;> first | exact absurd h Bool.false_ne_true | exact absurd sb Bool.false_ne_true
    · exact absurd h Bool.false_ne_true
  · rfl
theorem swp3 {x y z : Str} {px py pz pt pt2 : Pos} {kt k2 : Nat} {a b c : Expr} (hk : env.scope.kind = .function) (hx : env.scope.names.lookup x = some .local) (hy : env.scope.names.lookup y = some .local) (hz : env.scope.names.lookup z = some .local)
    (hl : px.line = py.line) (hl2 : px.line = pz.line) (hxy : x ≠ y) (hxz : x ≠ z) (hyz : y ≠ z)
    (sa : notStar a = true) (sb : notStar b = true) (sc : notStar c = true) (h1 : [a, b, c].all (foldedForSure 8) = false) (h2 : [a, b, c].all (constantsAlone 8) = false) :
    swappedStores [.Tuple [.Name x px, .Name y py, .Name z pz] kt pt] (.Tuple [a, b, c] k2 pt2) env = pure (some [x, y, z]) := by
  have hbk : env.blockKind = .function := by
    unfold Env.blockKind
    rw [hk]
    rfl
  have k1 : env.kindOf x = some .local := hx
  have k2' : env.kindOf y = some .local := hy
  have k3 : env.kindOf z = some .local := hz
  have hn : ([x, y, z] : List Str).eraseDups.length = 3 := by
    have e1 : (y == x) = false := by simpa using fun e => hxy e.symm
    have e2 : (z == x) = false := by simpa using fun e => hxz e.symm
    have e3 : (z == y) = false := by simpa using fun e => hyz e.symm
    simp [List.eraseDups, List.eraseDupsBy, List.eraseDupsBy.loop, e1, e2, e3]
  unfold swappedStores
  simp only [h1, h2, hbk, k1, k2', k3, List.filterMap, Expr.pos, ← hl, ← hl2, List.head?, Option.map, Option.getD]
  have e0 : (some NameKind.local == some NameKind.local && px.line == px.line) = true := by simp
  simp only [e0, if_true, List.length_cons, List.length_nil, hn, List.any_cons, List.any_nil]
  refine (if_neg (by decide)).trans ((if_neg (fun h => ?_)).trans ?_)
  · rw [Bool.or_eq_true, Bool.or_eq_true, Bool.or_eq_true] at h
    rcases h with h | h | h | h
    · cases a <;> first | exact absurd h Bool.false_ne_true | exact absurd sa Bool.false_ne_true
    · cases b <;> first | exact absurd h Bool.false_ne_true | exact absurd sb Bool.false_ne_true
    · cases c <;> first | exact absurd h Bool.false_ne_true | exact absurd sc Bool.false_ne_true
    · exact absurd h Bool.false_ne_true
  · rfl
theorem swn {o i e : Expr} {p : Pos} : swappedStores [.Subscript o i p] e env = pure none := by
  unfold swappedStores
  rfl
theorem ase {o i : Expr} {p : Pos} : (assignEach [.Subscript o i p] env).map (·.2) = [assign (.Subscript o i p) env] := rfl
theorem asg {o i : Expr} {p : Pos} (hs : notSlice i = true) (v : Value) : assign (.Subscript o i p) env v = (do
      let ov ← holding [v] (eval o env)
      let iv ← holding [v, ov] (eval i env)
      standAt p
      holding [v, ov, iv] (setItem ov iv v)
      release [v, ov, iv] []) := by cases i <;> first | rfl | cases hs
end
end QL
set_option Elab.async false
set_option linter.all false
set_option maxRecDepth 100000
set_option maxHeartbeats 4000000
/-! Q11: the turned statements keep what is asked: the induction; defs. -/
namespace QL
open PySem PySem.Spec L2
open PyProof.Rows hiding St
section
variable {X : Cx} {S : Stat} {F : Sm} {k : Nat} {C : CI} {W : WX}
theorem Ok.loc (O : Ok X S F k C W) {x : Str} {i : Nat} (h : locOf C x = some i) : X.N.Nodup ∧ X.N[i]? = some x ∧ Loc X.env.scope x ∧ (X.fn x = true ∨ X.env.scope.names.lookup x = some .local) := by
  unfold locOf at h
  have nd : X.N.Nodup := by rw [O.N]; exact O.nd
  split at h
  · rename_i e
    rw [← O.sc] at e
    exact ⟨nd, by rw [O.N]; exact idxOf_get h, .inl e, .inr e⟩
  · rename_i e
    have e' := e
    rw [← O.sc] at e
    exact ⟨nd, by rw [O.N]; exact idxOf_get h, .inr e, .inl (O.cf _ e')⟩
  · cases h
theorem Ok.loc1 (O : Ok X S F k C W) {x : Str} {i : Nat} (h : QL.loc1 C x = some i) : X.N[i]? = some x ∧ X.env.scope.names.lookup x = some .local := by
  unfold QL.loc1 at h
  split at h
  · rename_i e
    rw [← O.sc] at e
    exact ⟨by rw [O.N]; exact idxOf_get h, e⟩
  · cases h
theorem sole_no {env : Env} {e t : Expr} {l : Nat} (h : notComp e = true) : swapsWithSole [t] e l env = pure false := by
  cases e <;> first | rfl | cases h
theorem nd_ne {α : Type} {l : List α} {i j : Nat} {x y : α} (hi : l[i]? = some x) (hj : l[j]? = some y) (h : x ≠ y) : i ≠ j := by
  rintro rfl
  rw [hi] at hj
  exact h (Option.some.inj hj)
variable (O : Ok X S F k C W) (M : SmMono F)
include O M
theorem nCS_ok {n : Nat} (iS : ∀ st c, cS C n st = some c → PS X st (wS S F W c)) : ∀ {b : List Stmt} {c : Sxs}, nCS (cS C n) b = some c → PSs X b (wSs S F W c)
  | [], c, h => by
    cases h
    refine ⟨fun pins s σ H D I z => ?_⟩
    unfold wSs at z
    exact pss_nil.run pins s σ H D I z
  | st :: b, c, h => by
    obtain ⟨s', b', h1, h2, rfl⟩ := two_some (f := Sxs.cons) h
    have p := pss_cons (iS st s' h1) (nCS_ok iS h2)
    refine ⟨fun pins s σ H D I z => ?_⟩
    unfold wSs at z
    exact p.run pins s σ H D I z
theorem set_ok {i : Nat} {x : Str} {p q : Pos} {e : Expr} {e' : Ex} (hc : notComp e = true) (hi : locOf C x = some i) (he : PE X e (wE S F W e')) : PS X (.Assign [.Name x p] e q) (wS S F W (.asg i e')) := by
  obtain ⟨nd, h1, h2, h3⟩ := O.loc hi
  refine PS.imp (ps_set nd h1 h2 he (swaps_no hc) h3) fun D σ H z => ?_
  rw [wS] at z
  exact z
omit O M in
theorem PS.nokA {X : Cx} {so : Addr → Option HO} (S0 : SoOk X.K so) {st : Stmt} {t : TE} {i : Nat} (h : PS X st (tAsg t (gName i))) : PS X st (fun D σ H => t σ H fun x H1 => NoK so H1 → D.nx (σ.set i (some x)) H1) := ⟨fun pins s σ H D I z =>
  thn (h.run pins s σ H { D with nx := fun σ H => NoK so H → D.nx σ H } I z) fun f s' q => by
    cases f with
    | next =>
      obtain ⟨σ', H', I', q⟩ := q
      exact ⟨σ', H', I', q (nok_of S0 I')⟩
    | brk => exact q
    | cont => exact q
    | ret u => exact q⟩
omit O M in
theorem sw_eq {elt : Expr} {gs : List Comprehension} {scope : Scope} {pos py : Pos} {y : Str} {l : Nat} {env : Env} : swapsWith (.ListComp elt gs scope pos) (some (.Name y py)) l env = pure (env.blockKind == .function && env.kindOf y == some .local && py.line == pos.line && !(scope.names.any fun (n, k) => n == y && (k == .local || k == .cell))) := by
  unfold swapsWith
  simp only [Expr.pos]
theorem setLc_ok {n i : Nat} (iE : ∀ e c, cE C n e = some c → PE X e (wE S F W c)) {x : Str} {p q pos : Pos} {e : Expr} {gs : List Comprehension} {scope : Scope} {e' : Ex} (hi : locOf C x = some i) (he : cE C n (.ListComp e gs scope pos) = some e') : PS X (.Assign [.Name x p] (.ListComp e gs scope pos) q) (wS S F W (.asg i e')) := by
  obtain ⟨nd, h1, h2, h3⟩ := O.loc hi
  cases hb : (X.env.blockKind == .function && X.env.kindOf x == some .local && p.line == pos.line && !(scope.names.any fun (n, k) => n == x && (k == .local || k == .cell))) with
  | false =>
    refine PS.imp (ps_set nd h1 h2 (iE _ e' he) (by rw [sw_eq, hb]) h3) fun D σ H z => ?_
    rw [wS] at z
    exact z
  | true =>
    have hb' := hb
    simp only [Bool.and_eq_true] at hb'
    have hyl : X.env.scope.names.lookup x = some .local := by
      have q : X.env.kindOf x = some .local := by simpa using hb'.1.1.2
      exact q
    match n, gs, he with
    | n + 1, [g], he =>
      obtain ⟨ha, wi, gg, tt, te, own, L⟩ := lc_parts O.toOkE M ((cE_ok M n O.toOkE).1) (fun O => cE_ok M n O) he
      obtain ⟨tg, it, ifs, asy⟩ := g
      simp only at ha
      subst ha
      refine PS.imp (PS.nokA O.G.so (ps_setLc (spos := q) O.calm nd h1 hyl (by rw [sw_eq, hb]) L.pi L.bk L.pg L.pt L.pe L.fs)) fun D σ H z => ?_
      rw [wS] at z
      exact L.to σ H _ z
    | n + 1, [g, g1], he =>
      refine ⟨fun pins s σ H D I z => ?_⟩
      obtain ⟨⟨ha, ha1⟩, wi, gg, tt, wi1, gg1, tt1, te, own, vs1, L⟩ := lc2_parts O.toOkE M s ((cE_ok M n O.toOkE).1) (fun O => cE_ok M n O) he
      obtain ⟨tg, it, ifs, asy⟩ := g
      obtain ⟨tg1, it1, ifs1, asy1⟩ := g1
      simp only at ha ha1
      subst ha ha1
      refine (PS.nokA O.G.so (ps_setLc2 (spos := q) O.calm nd h1 hyl (by rw [sw_eq, hb]) L.pi L.bk L.hv L.pg L.pt L.pi1 L.pg1 L.pt1 L.pe L.fs L.fs1)).run pins s σ H D I ?_
      rw [wS] at z
      exact L.to σ H _ z
    | n + 1, [], he => cases he
    | n + 1, _ :: _ :: _ :: _, he => cases he
    | 0, _, he => cases he
omit O M in
theorem sole_sub {env : Env} {e o i : Expr} {p : Pos} {l : Nat} : swapsWithSole [.Subscript o i p] e l env = pure false := by
  cases e <;> rfl
omit O M in
theorem sole_fld {env : Env} {e o : Expr} {f : Str} {p : Pos} {l : Nat} : swapsWith e (some (.Attribute o f p)) l env = pure false := by
  cases e <;> rfl
theorem setI_ok {o i e : Expr} {o' i' e' : Ex} {p q : Pos} (hs : notSlice i = true) (ho : PE X o (wE S F W o')) (hi : PE X i (wE S F W i')) (he : PE X e (wE S F W e')) : PS X (.Assign [.Subscript o i p] e q) (wS S F W (.setI o' i' e')) := by
  refine PS.imp (ps_asg he (pg_sub ho hi (set_setV O.hu1) (asg hs)) sole_sub swn ase) fun D σ H z => ?_
  rw [wS] at z
  exact z
theorem setF_ok {o e : Expr} {f : Str} {o' e' : Ex} {p q : Pos} (ho : PE X o (wE S F W o')) (he : PE X e (wE S F W e')) : PS X (.Assign [.Attribute o f p] e q) (wS S F W (.setF o' f e')) := by
  refine PS.imp (ps_fld ho he sole_fld) fun D σ H z => ?_
  rw [wS] at z
  refine wE_mono M e' (fun y H1 z1 => wE_mono M o' (fun x H2 z2 => ?_) z1) z
  unfold setFV at z2
  split at z2
  · split at z2
    · rename_i ea
      obtain ⟨q1, q2⟩ := O.G.fl _ _ z2.1
      exact ⟨_, _, _, _, rfl, ea, q1, q2, z2.2.1, z2.2.2⟩
    · exact z2.elim
  · exact z2.elim
theorem par2_ok {n : Nat} (iE : ∀ e c, cE C n e = some c → PE X e (wE S F W c)) {x y : Str} {px py pt pt2 q : Pos} {kt k2 : Nat} {a b : Expr} {c : Sx} (h : cPar2 C n x px y py a b = some c) :
    PS X (.Assign [.Tuple [.Name x px, .Name y py] kt pt] (.Tuple [a, b] k2 pt2) q) (wS S F W c) := by
  obtain ⟨hb, h⟩ := if_some h
  obtain ⟨i, j, es, h1, h2, h3, rfl⟩ := tri_some (f := fun i j es => Sx.par [i, j] es) h
  simp only [Bool.and_eq_true, beq_iff_eq, Bool.not_eq_true', beq_eq_false_iff_ne] at hb
  obtain ⟨⟨⟨hl, hxy⟩, b1⟩, b2⟩ := hb
  obtain ⟨i1, i2⟩ := O.loc1 h1
  obtain ⟨j1, j2⟩ := O.loc1 h2
  have st := nCE_star h3
  have nd : X.N.Nodup := by rw [O.N]; exact O.nd
  have sa := st a (List.Mem.head _)
  have sb := st b (List.Mem.tail _ (List.Mem.head _))
  have hw := swp2 (pt := pt) (pt2 := pt2) (kt := kt) (k2 := k2) O.kd i2 j2 hl hxy sa sb b1 b2
  have hpa := nCE_pa iE h3
  have hsole : swapsWithSole [.Tuple [.Name x px, .Name y py] kt pt] (.Tuple [a, b] k2 pt2) q.line X.env = pure false := sole_no rfl
  have hp := ps_par O.calm nd i1 j1 (nd_ne i1 j1 hxy) i2 j2 hpa hw hsole
  refine PS.imp hp fun D σ H z => ?_
  rw [wS] at z
  refine wA_mono M es (fun vs H1 z1 => ?_) z
  match vs, z1 with
  | [v, w'], z1 => exact ⟨v, w', rfl, z1⟩
theorem par3_ok {n : Nat} (iE : ∀ e c, cE C n e = some c → PE X e (wE S F W c)) {x y z : Str} {px py pz pt pt2 q : Pos} {kt k2 : Nat} {a b d : Expr} {c : Sx} (h : cPar3 C n x px y py z pz a b d = some c) :
    PS X (.Assign [.Tuple [.Name x px, .Name y py, .Name z pz] kt pt] (.Tuple [a, b, d] k2 pt2) q) (wS S F W c) := by
  obtain ⟨hb, h⟩ := if_some h
  obtain ⟨is, es, h0, h3, rfl⟩ := two_some (f := Sx.par) h
  obtain ⟨i, j, l, h1, h2, h4, rfl⟩ := tri_some (f := fun i j l => [i, j, l]) h0
  simp only [Bool.and_eq_true, beq_iff_eq, Bool.not_eq_true', beq_eq_false_iff_ne] at hb
  obtain ⟨⟨⟨⟨⟨⟨hl, hl2⟩, hxy⟩, hxz⟩, hyz⟩, b1⟩, b2⟩ := hb
  obtain ⟨i1, i2⟩ := O.loc1 h1
  obtain ⟨j1, j2⟩ := O.loc1 h2
  obtain ⟨l1, l2⟩ := O.loc1 h4
  have st := nCE_star h3
  have nd : X.N.Nodup := by rw [O.N]; exact O.nd
  have sa := st a (List.Mem.head _)
  have sb := st b (List.Mem.tail _ (List.Mem.head _))
  have sd := st d (List.Mem.tail _ (List.Mem.tail _ (List.Mem.head _)))
  have hw := swp3 (pt := pt) (pt2 := pt2) (kt := kt) (k2 := k2) O.kd i2 j2 l2 hl hl2 hxy hxz hyz sa sb sd b1 b2
  have hpa := nCE_pa iE h3
  have hsole : swapsWithSole [.Tuple [.Name x px, .Name y py, .Name z pz] kt pt] (.Tuple [a, b, d] k2 pt2) q.line X.env = pure false := sole_no rfl
  have hp := ps_par3 O.calm nd i1 j1 l1 (nd_ne i1 j1 hxy) (nd_ne i1 l1 hxz) (nd_ne j1 l1 hyz) i2 j2 l2 hpa hw hsole
  refine PS.imp hp fun D σ H z => ?_
  rw [wS] at z
  refine wA_mono M es (fun vs H1 z1 => ?_) z
  match vs, z1 with
  | [v, w', u], z1 => exact ⟨v, w', u, rfl, z1⟩
omit M in
theorem tp_pg {ts : List Expr} {ns : List (Str × Pos)} {is : List Nat} {kt : Nat} {pt : Pos} (h1 : nms ts = some ns) (h2 : slots C ns = some is) : ∃ g : TG, PG X (.Tuple ts kt pt) g ∧ ∀ x σ H Q, gT S.so (.tp is) x σ H Q → g x σ H Q :=
  ⟨_, tp_pgL O.calm h1 h2 fun y _ i h => O.loc h, fun x σ H Q z => gT_gTup O.G.so h2 z⟩
theorem forT_ok {g : TG} {tg : Tg} {t : Expr} {q : Pos} {it : Expr} {b : List Stmt} {e' : Ex} {b' : Sxs} (hg : PG X t g) (hgi : ∀ x σ H Q, gT S.so tg x σ H Q → g x σ H Q) (he : PE X it (wE S F W e')) (hb : PSs X b (wSs S F W b')) (hs : ∀ x, foldedSetIterable it X.env x = pure x) :
    PS X (.For t it b [] q) (wS S F W (.forL tg e' b')) := by
  have S0 := O.G.so
  refine PS.imp (ps_for O.po O.calm (pi_list he) (PG.nok (so := S.so) S0 hg) hb hs) fun D σ H z => ?_
  rw [wS] at z
  refine wE_mono M e' (fun v H1 z1 => ?_) z
  unfold lsqK at z1
  split at z1
  · split at z1
    · rename_i e
      exact ⟨_, rfl, ⟨_, rd_lst S0 e⟩, for_src (jok_lst S0 _ _) hgi z1⟩
    · exact z1.elim
  · exact z1.elim
theorem forL_ok {i : Nat} {x : Str} {p q : Pos} {it : Expr} {b : List Stmt} {e' : Ex} {b' : Sxs} (hi : locOf C x = some i) (he : PE X it (wE S F W e')) (hb : PSs X b (wSs S F W b')) (hs : ∀ x, foldedSetIterable it X.env x = pure x) :
    PS X (.For (.Name x p) it b [] q) (wS S F W (.forL (.nm i) e' b')) := by
  obtain ⟨nd, h1, h2, h3⟩ := O.loc hi
  exact forT_ok O M (pg_name nd h1 h2 h3) (fun _ _ _ _ z => z) he hb hs
omit O M in
theorem tupOf_eq {e : Expr} {vs : List Expr} (h : tupOf e = some vs) : ∃ k p, e = .Tuple vs k p := by
  cases e <;> cases h
  exact ⟨_, _, rfl⟩
theorem rng_ok {n : Nat} (iE : ∀ e c, cE C n e = some c → PE X e (wE S F W c)) {x y : Str} {p py pc q : Pos} {as : List Expr} {b : List Stmt} {bo : Option Sxs} {c : Sx} (hb : ∀ b', bo = some b' → PSs X b (wSs S F W b')) (hr : isRange C y = true)
    (h : cRng C n (locOf C x) as bo = some c) : PS X (.For (.Name x p) (.Call (.Name y py) as [] pc) b [] q) (wS S F W c) := by
  obtain ⟨rfl, hg, hm⟩ := rng_name O.toOkE hr
  match as, h with
  | [a], h =>
    obtain ⟨i, a', b', h1, h2, h3, rfl⟩ := tri_some (f := fun i a b => Sx.rng i (.lit (.int 0)) a b) h
    obtain ⟨nd, l1, l2, l3⟩ := O.loc h1
    have hpg : PG X (.Name x p) (gName i) := pg_name nd l1 l2 l3
    have hpi := pi_rng1 (tg := .Name x p) (p := py) (pos := pc) hg hm (iE a a' h2) (cE_star h2)
    have hfs : ∀ u, foldedSetIterable (.Call (.Name "range" py) [a] [] pc) X.env u = pure u := fun _ => rfl
    have hf := ps_for (pos := q) O.po O.calm hpi hpg (hb b' h3) hfs
    refine PS.imp hf fun D σ H z => ?_
    rw [wS] at z
    unfold wE at z
    refine wE_mono M a' (fun v H1 z1 => ?_) z
    unfold intK at z1
    simp only at z1
    split at z1
    · exact ⟨_, rfl, for_rng z1⟩
    · exact z1.elim
  | [a, d], h =>
    obtain ⟨u, v, h0, h0', rfl⟩ := two_some (f := fun (u : Nat × Ex) (v : Ex × Sxs) => Sx.rng u.1 u.2 v.1 v.2) h
    obtain ⟨i, a', h1, h2, rfl⟩ := two_some (f := Prod.mk) h0
    obtain ⟨d', b', h3, h4, rfl⟩ := two_some (f := Prod.mk) h0'
    obtain ⟨nd, l1, l2, l3⟩ := O.loc h1
    have hpg : PG X (.Name x p) (gName i) := pg_name nd l1 l2 l3
    have hpi := pi_rng2 (tg := .Name x p) (p := py) (pos := pc) hg hm (iE a a' h2) (iE d d' h3) (cE_star h2) (cE_star h3)
    have hfs : ∀ u, foldedSetIterable (.Call (.Name "range" py) [a, d] [] pc) X.env u = pure u := fun _ => rfl
    have hf := ps_for (pos := q) O.po O.calm hpi hpg (hb b' h4) hfs
    refine PS.imp hf fun D σ H z => ?_
    rw [wS] at z
    refine wE_mono M a' (fun v H1 z1 => wE_mono M d' (fun w' H2 z2 => ?_) z1) z
    unfold intK at z2
    split at z2
    · split at z2
      · exact ⟨_, _, rfl, for_rng z2⟩
      · exact z2.elim
    · exact z2.elim
theorem for0_ok {n : Nat} (iE : ∀ e c, cE C n e = some c → PE X e (wE S F W c)) {q : Pos} {t it : Expr} {b : List Stmt} {bo : Option Sxs} {c : Sx} (hb : ∀ b', bo = some b' → PSs X b (wSs S F W b')) (h : cFor0 C n t it bo = some c) :
    PS X (.For t it b [] q) (wS S F W c) := by
  unfold cFor0 at h
  cases e1 : nmOf t with
  | none =>
    rw [e1] at h
    simp only at h
    obtain ⟨hw, h⟩ := if_some h
    obtain ⟨is, e', b', h1, h2, h3, rfl⟩ := tri_some (f := fun is e b => Sx.forL (.tp is) e b) h
    obtain ⟨ns, h4, h5⟩ := bind_some h1
    obtain ⟨ts, h6, h7⟩ := bind_some h4
    obtain ⟨kt, pt, rfl⟩ := tupOf_eq h6
    obtain ⟨g, hg, hgi⟩ := tp_pg (kt := kt) (pt := pt) O h7 h5
    refine forT_ok O M hg hgi (iE _ _ h2) (hb b' h3) ?_
    cases it <;> first | exact fun _ => rfl | cases hw
  | some x =>
    rw [e1] at h
    rw [nmOf_eq e1]
    cases e2 : rngOf C it with
    | some as =>
      simp only [e2] at h
      obtain ⟨y, py, pc, rfl, hr⟩ := rngOf_eq e2
      exact rng_ok O M iE hb hr h
    | none =>
      simp only [e2] at h
      obtain ⟨hw, h⟩ := if_some h
      obtain ⟨i, e', b', h1, h2, h3, rfl⟩ := tri_some (f := fun i e b => Sx.forL (.nm i) e b) h
      refine forL_ok O M h1 (iE _ _ h2) (hb b' h3) ?_
      cases it <;> first | exact fun _ => rfl | cases hw
theorem forS_ok {n : Nat} (iE : ∀ e c, cE C n e = some c → PE X e (wE S F W c)) {q : Pos} {t it : Expr} {b : List Stmt} {bo : Option Sxs} {c : Sx} (hb : ∀ b', bo = some b' → PSs X b (wSs S F W b')) (h : cForS C n t it bo = some c) :
    PS X (.For t it b [] q) (wS S F W c) := by
  obtain ⟨u, s, b', h1, h2, h3, rfl⟩ := tri_some (f := fun (u : Tg × List (Str × Nat)) s b => Sx.forS u.1 s b) h
  obtain ⟨wi, P1, P2, P3⟩ := src_ok O.toOkE M (tg := t) iE h2
  have S0 := O.G.so
  have tg : ∃ g : TG, PG X t g ∧ ∀ x σ H Q, gT S.so u.1 x σ H Q → g x σ H Q := by
    cases t with
    | Name x p =>
      obtain ⟨i, g1, rfl⟩ := map_some (f := fun i => (Tg.nm i, [(x, i)])) h1
      obtain ⟨nd, l1, l2, l3⟩ := O.loc g1
      exact ⟨gName i, pg_name nd l1 l2 l3, fun _ _ _ _ z => z⟩
    | Tuple ts kt pt =>
      obtain ⟨ns, g1, g2⟩ := bind_some h1
      obtain ⟨is, g3, rfl⟩ := map_some (f := fun is => (Tg.tp is, (ns.map (·.1)).zip is)) g2
      exact tp_pg O g1 g3
    | _ => cases h1
  obtain ⟨g, G1, G2⟩ := tg
  refine PS.imp (ps_for O.po O.calm P1 (PG.nok (so := S.so) S0 G1) (hb b' h3) P2) fun D σ H z => ?_
  rw [wS] at z
  refine P3 σ H _ (wI_mono M s (fun xs kp H1 z1 J hJ => ?_) z)
  exact for_src hJ.j G2 z1
theorem for_ok {n : Nat} (iE : ∀ e c, cE C n e = some c → PE X e (wE S F W c)) {q : Pos} {t it : Expr} {b : List Stmt} {bo : Option Sxs} {c : Sx} (hb : ∀ b', bo = some b' → PSs X b (wSs S F W b')) (h : cFor C n t it bo = some c) :
    PS X (.For t it b [] q) (wS S F W c) := by
  unfold cFor at h
  split at h
  · rename_i e
    cases h
    exact for0_ok O M iE hb (if_some e).2
  · exact forS_ok O M iE hb h
omit O M in
theorem star_shape : ∀ {ts : List Expr} {u : List (Str × Pos) × Str}, starNms ts = some u → ∃ p q, ts = u.1.map (fun x => .Name x.1 x.2) ++ [.Starred (.Name u.2 p) q]
  | [], _, h => by cases h
  | [e], u, h => by
    cases e with
    | Starred v q =>
      cases v with
      | Name x p => cases h; exact ⟨p, q, rfl⟩
      | _ => cases h
    | _ => cases h
  | e :: f :: es, u, h => by
    obtain ⟨a, b, h1, h2, rfl⟩ := two_some (f := fun (a : Str × Pos) (b : List (Str × Pos) × Str) => (a :: b.1, b.2)) h
    obtain ⟨p, q, e2⟩ := star_shape h2
    rw [e2, nmOf_eq h1]
    exact ⟨p, q, rfl⟩
omit M in
theorem unp_pgs : ∀ {ns : List (Str × Pos)} {is : List Nat} {x : Str} {r : Nat} {p q : Pos}, slots C ns = some is → locOf C x = some r →
    PGs X (ns.map (fun y => .Name y.1 y.2) ++ [.Starred (.Name x p) q]) (fun vs σ H Q => parK (setL (is ++ [r]) vs σ) fun σ2 => Q σ2 H) ∧ (assignEach (ns.map (fun y => Expr.Name y.1 y.2) ++ [.Starred (.Name x p) q]) X.env).length = is.length + 1 ∧ (assignEach (ns.map (fun y => Expr.Name y.1 y.2) ++ [.Starred (.Name x p) q]) X.env).findIdx? (·.1) = some is.length
  | [], is, x, r, p, q, h, h' => by
    cases h
    obtain ⟨nd, l1, l2, l3⟩ := O.loc h'
    refine ⟨⟨fun pins s σ H vs us Q I rv z => ?_⟩, rfl, rfl⟩
    unfold parK at z
    match vs, rv, z with
    | [v], rv, z =>
      refine (pgs_cons (X := X) (e := .Name x p) (pg_name nd l1 l2 l3) pgs_nil rfl).run pins s σ H [v] us Q I rv ⟨v, [], rfl, rfl, ?_⟩
      exact z
  | y :: ns, is, x, r, p, q, h, h' => by
    obtain ⟨i, is', h1, h2, rfl⟩ := two_some (f := fun a b => a :: b) h
    obtain ⟨nd, l1, l2, l3⟩ := O.loc h1
    obtain ⟨p1, e1, e2⟩ := unp_pgs (p := p) (q := q) h2 h'
    refine ⟨⟨fun pins s σ H vs us Q I rv z => ?_⟩, ?_, ?_⟩
    · unfold parK at z
      match vs, rv, z with
      | v :: vs, rv, z =>
        refine (pgs_cons (X := X) (e := .Name y.1 y.2) (pg_name nd l1 l2 l3) p1 rfl).run pins s σ H (v :: vs) us Q I rv ⟨v, vs, rfl, ?_⟩
        exact z
    · show (_ :: assignEach (ns.map (fun y => Expr.Name y.1 y.2) ++ [.Starred (.Name x p) q]) X.env).length = _
      rw [List.length_cons, e1]
      rfl
    · show (_ :: assignEach (ns.map (fun y => Expr.Name y.1 y.2) ++ [.Starred (.Name x p) q]) X.env).findIdx? (·.1) = _
      rw [List.findIdx?_cons, e2]
      rfl
theorem unpS_ok {q : Pos} {ts : List Expr} {kt : Nat} {pt : Pos} {e : Expr} {e' : Ex} {u : List (Str × Pos) × Str} {is : List Nat} {r : Nat} (hc : notComp e = true) (ht : (tupOf e).isNone = true) (hu : starNms ts = some u) (h1 : slots C u.1 = some is) (h2 : locOf C u.2 = some r) (he : PE X e (wE S F W e')) :
    PS X (.Assign [.Tuple ts kt pt] e q) (wS S F W (.unpS is r e')) := by
  obtain ⟨p, q2, rfl⟩ := star_shape hu
  obtain ⟨p1, e1, e2⟩ := unp_pgs O (p := p) (q := q2) h1 h2
  refine PS.imp (ps_asg he (pg_star O.G.so O.calm p1 e1 e2) (sole_no hc) (by cases e <;> first | rfl | cases ht) rfl) fun D σ H z => ?_
  rw [wS] at z
  exact z
theorem tup0_ok {n : Nat} (iE : ∀ e c, cE C n e = some c → PE X e (wE S F W c)) {q : Pos} {ts : List Expr} {kt : Nat} {pt : Pos} {e : Expr} {c : Sx} (h : cTup0 C n ts e = some c) : PS X (.Assign [.Tuple ts kt pt] e q) (wS S F W c) := by
  unfold cTup0 at h
  cases h4 : tupOf e with
  | none =>
    rw [h4] at h
    simp only at h
    obtain ⟨hc, h⟩ := if_some h
    obtain ⟨is, e', h1, h2, rfl⟩ := two_some (f := Sx.unp) h
    obtain ⟨ns, h5, h6⟩ := bind_some h1
    obtain ⟨g, hg, hgi⟩ := tp_pg (kt := kt) (pt := pt) O h5 h6
    have hsw : swappedStores [.Tuple ts kt pt] e X.env = pure none := by cases e <;> first | rfl | cases h4
    refine PS.imp (ps_asg (iE e e' h2) hg (sole_no hc) hsw rfl) fun D σ H z => ?_
    rw [wS] at z
    exact wE_mono M e' (fun x H1 z1 => hgi _ _ _ _ z1) z
  | some vs =>
  rw [h4] at h
  simp only at h
  obtain ⟨ns, h3, h2⟩ := bind_some h
  obtain ⟨k2, p2, rfl⟩ := tupOf_eq h4
  have one : ∀ {ts : List Expr} {x : Str × Pos} {r : List (Str × Pos)}, nms ts = some (x :: r) → ∃ (t : Expr) (ts' : List Expr), ts = .Name x.1 x.2 :: ts' ∧ nms ts' = some r := by
    intro ts x r hh
    cases ts with
    | nil => cases hh
    | cons a as =>
      obtain ⟨y, z, g1, g2, g3⟩ := two_some (f := fun a b => a :: b) hh
      cases g3
      rw [nmOf_eq g1]
      exact ⟨a, as, rfl, g2⟩
  have nil : ∀ {ts : List Expr}, nms ts = some [] → ts = [] := by
    intro ts hh
    cases ts with
    | nil => rfl
    | cons a as =>
      obtain ⟨y, z, g1, g2, g3⟩ := two_some (f := fun a b => a :: b) hh
      cases g3
  match ns, vs, h2, h3 with
  | [x, y], [a, b], h2, h3 =>
    obtain ⟨_, t1, e1, g1⟩ := one h3
    obtain ⟨_, t2, e2, g2⟩ := one g1
    rw [e1, e2, nil g2]
    exact par2_ok O M iE h2
  | [x, y, z], [a, b, d], h2, h3 =>
    obtain ⟨_, t1, e1, g1⟩ := one h3
    obtain ⟨_, t2, e2, g2⟩ := one g1
    obtain ⟨_, t3, e3, g3⟩ := one g2
    rw [e1, e2, e3, nil g3]
    exact par3_ok O M iE h2
omit M in
theorem lv_ok {n : Nat} (iE : ∀ e c, cE C n e = some c → PE X e (wE S F W c)) {t : Expr} {c : Lv} (h : cLv C n t = some c) : PG X t (wLv S F W c) ∧ ∀ es, assignEach (t :: es) X.env = (false, assign t X.env) :: assignEach es X.env := by
  cases t with
  | Name x p =>
    obtain ⟨i, h1, rfl⟩ := map_some h
    obtain ⟨nd, l1, l2, l3⟩ := O.loc h1
    exact ⟨pg_name nd l1 l2 l3, fun _ => rfl⟩
  | Subscript o i p =>
    obtain ⟨hs, h⟩ := if_some h
    obtain ⟨o', i', h1, h2, rfl⟩ := two_some (f := Lv.sub) h
    exact ⟨pg_sub (iE _ _ h1) (iE _ _ h2) (set_setV O.hu1) (asg hs), fun _ => rfl⟩
  | Attribute o f p =>
    obtain ⟨o', h1, rfl⟩ := map_some h
    exact ⟨pg_fldQ O.toOkE (iE _ _ h1), fun _ => rfl⟩
  | _ => cases h
omit M in
theorem lvs_ok {n : Nat} (iE : ∀ e c, cE C n e = some c → PE X e (wE S F W c)) : ∀ {ts : List Expr} {c : List Lv}, cLvs C n ts = some c → PGs X ts (fun vs σ H Q => wLvs S F W c vs σ H Q) ∧ (assignEach ts X.env).length = c.length ∧ (assignEach ts X.env).findIdx? (·.1) = none
  | [], c, h => by
    cases h
    exact ⟨pgs_nil, rfl, rfl⟩
  | t :: ts, c, h => by
    obtain ⟨a, b, h1, h2, rfl⟩ := two_some (f := fun (a : Lv) b => a :: b) h
    obtain ⟨p1, e1⟩ := lv_ok O iE h1
    obtain ⟨p2, e2, e3⟩ := lvs_ok iE h2
    refine ⟨pgs_cons p1 p2 (by rw [e1]; rfl), by rw [e1, List.length_cons, e2, List.length_cons], ?_⟩
    rw [e1, List.findIdx?_cons, e3]
    rfl
omit O M in
theorem wLvs_len {S : Stat} {F : Sm} {W : WX} : ∀ {ts : List Lv} {vs : List V} {σ : St} {H : Hp} {Q : St → Hp → Prop}, wLvs S F W ts vs σ H Q → True := fun _ => trivial
omit O M in
theorem nm_short {C : CI} {ts : List Expr} {f : Expr → Option Str} (hf : ∀ e, notNm C e = true → f e = none) (h : ts.any (notNm C) = true) : (ts.filterMap f).length < ts.length := by
  induction ts with
  | nil => cases h
  | cons t r ih =>
    rw [List.any_cons, Bool.or_eq_true] at h
    rcases h with h | h
    · rw [List.filterMap_cons_none (hf t h), List.length_cons]
      exact Nat.lt_succ_of_le (List.length_filterMap_le _ _)
    · have := ih h
      cases q : f t with
      | none => rw [List.filterMap_cons_none q, List.length_cons]; omega
      | some x => rw [List.filterMap_cons_some q, List.length_cons, List.length_cons]; omega
omit O M in
theorem noswap_ok {C : CI} {env : Env} (hsc : env.scope.names = C.sc.names) {ts : List Expr} {kt : Nat} {pt : Pos} {e : Expr} (h : noSwap C ts e = true) : swappedStores [.Tuple ts kt pt] e env = pure none := by
  cases e with
  | Tuple vs k2 p2 =>
    unfold noSwap at h
    simp only [tupOf, Bool.or_eq_true] at h
    unfold swappedStores
    simp only [pure_bind]
    split
    · rfl
    · rename_i hc
      split
      · rfl
      · split
        · rfl
        · rename_i hd
          exfalso
          rcases h with h | h
          · rw [h] at hc
            simp at hc
          · apply hd
            rw [Bool.or_eq_true]
            refine .inl ?_
            rw [bne_iff_ne]
            refine Nat.ne_of_lt (nm_short (fun e he => ?_) h)
            cases e with
            | Name x p =>
              have he : (!(C.sc.names.lookup x == some .local)) = true := he
              rw [Bool.not_eq_true'] at he
              have : (env.kindOf x == some .local) = false := by
                unfold Env.kindOf
                rw [hsc]
                exact he
              simp only [this, Bool.false_and]
              rfl
            | _ => rfl
  | _ => rfl
theorem asgT_ok {n : Nat} (iE : ∀ e c, cE C n e = some c → PE X e (wE S F W c)) {q : Pos} {ts : List Expr} {kt : Nat} {pt : Pos} {e : Expr} {e' : Ex} {c : List Lv} (hc : notComp e = true) (hs : noSwap C ts e = true) (h1 : cLvs C n ts = some c) (h2 : cE C n e = some e') :
    PS X (.Assign [.Tuple ts kt pt] e q) (wS S F W (.asgT c e')) := by
  obtain ⟨p, e1, e2⟩ := lvs_ok O iE h1
  have S0 := O.G.so
  have pg : PG X (.Tuple ts kt pt) (fun v σ H Q => itmK S.so v H fun xs => xs.length = c.length ∧ wLvs S F W c xs σ H Q) := ⟨fun pins s σ H v u Q I r hw => by
    unfold itmK at hw
    split at hw
    · split at hw
      · rename_i e
        exact (pg_tup O.calm p e1 e2).run pins s σ H _ u Q I r ⟨_, _, rfl, rd_tup S0 e, hw.1, hw.2⟩
      · rename_i e
        exact (pg_unl O.calm p e1 e2).run pins s σ H _ u Q I r ⟨_, _, rfl, rd_lst S0 e, hw.1, hw.2⟩
      · exact hw.elim
    · exact hw.elim⟩
  refine PS.imp (ps_asg (iE _ _ h2) pg (sole_no hc) (noswap_ok O.sc hs) rfl) fun D σ H z => ?_
  rw [wS] at z
  exact z
theorem asg1_ok {n : Nat} (iE : ∀ e c, cE C n e = some c → PE X e (wE S F W c)) {q : Pos} {t e : Expr} {c : Sx} (h : cAsg1 C n t e = some c) : PS X (.Assign [t] e q) (wS S F W c) := by
  cases t with
  | Name x p =>
    obtain ⟨hc, h⟩ := if_some h
    obtain ⟨i, e', h1, h2, rfl⟩ := two_some (f := Sx.asg) h
    cases hn : notComp e with
    | true => exact set_ok O M hn h1 (iE e e' h2)
    | false =>
      cases e with
      | ListComp elt gs scope pos => exact setLc_ok O M iE h1 h2
      | _ => first | exact absurd hc Bool.false_ne_true | exact absurd hn.symm Bool.false_ne_true
  | Subscript o i p =>
    obtain ⟨hc, h⟩ := if_some h
    obtain ⟨o', i', e', h1, h2, h3, rfl⟩ := tri_some (f := Sx.setI) h
    exact setI_ok O M hc (iE o o' h1) (iE i i' h2) (iE e e' h3)
  | Attribute o f p =>
    obtain ⟨o', e', h1, h2, rfl⟩ := two_some (f := fun o e => Sx.setF o f e) h
    exact setF_ok O M (iE o o' h1) (iE e e' h2)
  | Tuple ts kt pt =>
    change (match starNms ts with
      | some u => iff' (notComp e && (tupOf e).isNone) (two (two (slots C u.1) (locOf C u.2) Prod.mk) (cE C n e) fun a e => .unpS a.1 a.2 e)
      | none => (match cTup0 C n ts e with
        | some c => some c
        | none => iff' (notComp e && noSwap C ts e) (two (cLvs C n ts) (cE C n e) .asgT))) = some c at h
    split at h
    · rename_i u hu
      obtain ⟨hc, h⟩ := if_some h
      obtain ⟨a, e', g1, g2, rfl⟩ := two_some (f := fun (a : List Nat × Nat) e => Sx.unpS a.1 a.2 e) h
      obtain ⟨is, r, g3, g4, rfl⟩ := two_some (f := Prod.mk) g1
      simp only [Bool.and_eq_true] at hc
      exact unpS_ok O M hc.1 hc.2 hu g3 g4 (iE e e' g2)
    · split at h
      · rename_i c' hc'
        cases h
        exact tup0_ok O M iE hc'
      · obtain ⟨hc, h⟩ := if_some h
        obtain ⟨c', e', g1, g2, rfl⟩ := two_some (f := Sx.asgT) h
        simp only [Bool.and_eq_true] at hc
        exact asgT_ok O M iE hc.1 hc.2 g1 g2
  | _ => cases h
theorem rai_ok {n : Nat} (iE : ∀ e c, cE C n e = some c → PE X e (wE S F W c)) {a b : Option Expr} {p : Pos} {c : Sx} (h : cRai C n a b = some c) : PS X (.Raise a b p) (wS S F W c) := by
  have nev : c = .never → PS X (.Raise a b p) (wS S F W c) := fun e => by
    subst e
    refine ⟨fun pins s σ H D I z => ?_⟩
    rw [wS] at z
    exact z.elim
  unfold cRai at h
  split at h
  · rename_i x pn e es pc
    cases eg : C.gl x with
    | xcl =>
      rw [eg] at h
      simp only at h
      obtain ⟨hg, h⟩ := if_some h
      obtain ⟨es', h1, rfl⟩ := map_some h
      have PAs := nCE_pa iE h1
      have st := nCE_star h1
      have hx := O.gl hg
      obtain ⟨D0, hdb, hm, hk⟩ := O.G.own x (.inl eg)
      refine ⟨fun pins s σ H D I z => ?_⟩
      rw [wS] at z
      have rr := ps_raise (pos := p) (t := fun σ H Q => wA S F W es' σ H fun vs H1 => raiV S x vs H1 Q) O.calm O.tk (e := .Call (.Name x pn) (e :: es) [] pc) fun pins s σ H Q I h => by
        refine wpAny_Call_Name_kw (ld_glob I hx hm ?_ hdb)
        refine PySem.W.callWith_K (h₀ := X.base) I.ok.mod.kin hk (thn (PAs.run pc pins s σ H _ I h) fun us s1 ⟨vs, H1, I1, r1, q1⟩ => ⟨I1.kIn, ?_⟩) (star_one (st e (List.mem_cons_self ..))) (star_no fun e he => st e (List.mem_cons_of_mem _ he))
        change raiV S x vs H1 Q at q1
        unfold raiV at q1
        split at q1
        · rename_i D1 g ex
          split at q1
          · rename_i v
            have T := O.G.xc x D1 (some g) eg ex
            have eD := T.at_
            rw [hm] at eD
            cases eD
            exact mkx_raise T (O.rm.mono (by omega)) O.gd I1 r1 fun d h1 h2 => q1 d h1 (so_none O.G.so h2)
          · exact q1.elim
        · exact q1.elim
      exact rr.run pins s σ H D I z
    | _ => rw [eg] at h; cases h; exact nev rfl
  · cases h; exact nev rfl
omit O M in
theorem augV_mono {o : Operator} {v x : V} {H : Hp} {Q Q' : VK} (q : ∀ v H', Q v H' → Q' v H') (h : augV o v x H Q) : augV o v x H Q' := by
  unfold augV at h ⊢
  split at h
  · exact q _ _ h
  · exact q _ _ h
  · exact h.elim
omit O M in
theorem augst {i : Expr} (hs : notSlice i = true) (ov iv new : Value) : augStore i ov iv new = (do holding [new, ov, iv] (setItem ov iv new); release [new, ov, iv] []; pure .next) := by
  cases i <;> first | rfl | cases hs
theorem aug_ok {n : Nat} (iE : ∀ e c, cE C n e = some c → PE X e (wE S F W c)) {t e : Expr} {o : Operator} {p : Pos} {c : Sx} (h : cAug C n t o e = some c) : PS X (.AugAssign t o e p) (wS S F W c) := by
  cases t with
  | Name x px =>
    obtain ⟨ho, h⟩ := if_some h
    obtain ⟨i, e', h1, h2, rfl⟩ := two_some (f := fun i e => Sx.aug i o e) h
    obtain ⟨nd, l1, l2, l3⟩ := O.loc h1
    simp only [Bool.or_eq_true, beq_iff_eq] at ho
    rcases ho with rfl | rfl
    · refine PS.imp (ps_aug nd l1 l2 (iE e e' h2) ip_add l3) fun D σ H z => ?_
      rw [wS] at z
      unfold varK at z
      split at z
      · rename_i v ev
        refine ⟨v, ev, wE_mono M e' (fun y H1 z1 => ?_) z⟩
        unfold augV at z1
        split at z1
        · exact ⟨_, _, rfl, rfl, z1⟩
        · rename_i hh; cases hh
        · exact z1.elim
      · exact z.elim
    · refine PS.imp (ps_aug nd l1 l2 (iE e e' h2) ip_sub l3) fun D σ H z => ?_
      rw [wS] at z
      unfold varK at z
      split at z
      · rename_i v ev
        refine ⟨v, ev, wE_mono M e' (fun y H1 z1 => ?_) z⟩
        unfold augV at z1
        split at z1
        · rename_i hh; cases hh
        · exact ⟨_, _, rfl, rfl, z1⟩
        · exact z1.elim
      · exact z.elim
  | Attribute b f px =>
    obtain ⟨ho, h⟩ := if_some h
    obtain ⟨b', e', h1, h2, rfl⟩ := two_some (f := fun b e => Sx.augF b f o e) h
    simp only [Bool.or_eq_true, beq_iff_eq] at ho
    have key : ∀ {rd : V → V → Hp → VK → Prop}, InOp X o rd → (∀ v y H Q, augV o v y H Q → rd v y H Q) → PS X (.AugAssign (.Attribute b f px) o e p) (wS S F W (.augF b' f o e')) := fun {rd} hop hq => by
      refine PS.imp (ps_fldaug (iE b b' h1) (iE e e' h2) hop) fun D σ H z => ?_
      rw [wS] at z
      refine wE_mono M b' (fun x H1 z1 => ?_) z
      unfold augFK at z1
      split at z1
      · split at z1
        · rename_i ea
          obtain ⟨q1, q2⟩ := O.G.fl _ _ z1.1
          have z2 := z1.2
          split at z2
          · rename_i v ev
            refine ⟨_, _, _, _, v, rfl, ea, q1, q2, ev, wE_mono M e' (fun y H2 z3 => hq _ _ _ _ (augV_mono (fun w H3 z4 => ?_) z3)) z2⟩
            unfold augFS at z4
            split at z4
            · rename_i ea'
              obtain ⟨rfl, z5, z6⟩ := z4
              exact ⟨_, _, ea', z5, z6⟩
            · exact z4.elim
          · exact z2.elim
        · exact z1.elim
      · exact z1.elim
    rcases ho with rfl | rfl
    · exact key in_add fun v y H Q z => by
        unfold augV at z
        split at z
        · exact ⟨_, _, rfl, rfl, z⟩
        · rename_i hh; cases hh
        · exact z.elim
    · exact key in_sub fun v y H Q z => by
        unfold augV at z
        split at z
        · rename_i hh; cases hh
        · exact ⟨_, _, rfl, rfl, z⟩
        · exact z.elim
  | Subscript b i px =>
    obtain ⟨ho, h⟩ := if_some h
    obtain ⟨b', i', e', h1, h2, h3, rfl⟩ := tri_some (f := fun b i e => Sx.augI b i o e) h
    simp only [Bool.and_eq_true, Bool.or_eq_true, beq_iff_eq] at ho
    have key : ∀ {rd : V → V → Hp → VK → Prop}, InOp X o rd → (∀ v y H Q, augV o v y H Q → rd v y H Q) → PS X (.AugAssign (.Subscript b i px) o e p) (wS S F W (.augI b' i' o e')) := fun {rd} hop hq => by
      refine ⟨fun pins s σ H D I z => ?_⟩
      rw [wS] at z
      refine wpAny_AugAssign_SubscriptAny (thn ((iE b b' h1).run pins s σ H _ I z) fun ov s1 ⟨x, H1, I1, rx, q1⟩ => thn ((iE i i' h2).run pins s1 σ H1 _ I1 q1) fun iv s2 ⟨y, H2, I2, ry, q2⟩ => ?_) (augst ho.2)
      change augIK x y H2 _ at q2
      unfold augIK at q2
      split at q2
      · split at q2
        · rename_i xs ea
          obtain ⟨q3, q4⟩ := q2
          split at q4
          · rename_i v ev
            obtain rfl : ov = Value.ref _ := rx
            obtain ⟨t, rfl⟩ := ry
            obtain ⟨its, nn, r, eo, hz⟩ := I2.lst ea
            obtain ⟨u, eu, ru⟩ := r.get ev
            have hl := r.length
            have hlt : (_ : Nat) < its.length := (List.getElem?_eq_some_iff.mp eu).1
            refine wpAny_getItem_list ⟨_, eo, rfl, nn, rfl⟩ q3 (by rw [sizeLine_eq] at hz; omega) (by simpa using eu) ?_
            refine thn ((iE e e' h3).run pins s2 σ H2 _ I2 q4) fun w3 s3 ⟨z3, H3, I3, rz, q5⟩ => thn (hop pins s3 σ H3 v z3 u w3 _ I3 ru rz (hq _ _ _ _ q5)) fun w4 s4 ⟨z4, H4, I4, rz4, q6⟩ => ?_
            exact thn (set_setV O.hu1 pins s4 σ H4 (.ref _) (.int _) z4 _ _ w4 _ I4 rfl ⟨t, rfl⟩ rz4 q6) fun _ s5 ⟨H5, I5, q7⟩ => ⟨σ, H5, I5, q7⟩
          · exact q4.elim
        · exact q2.elim
      · exact q2.elim
    rcases ho.1 with rfl | rfl
    · exact key in_add fun v y H Q z => by
        unfold augV at z
        split at z
        · exact ⟨_, _, rfl, rfl, z⟩
        · rename_i hh; cases hh
        · exact z.elim
    · exact key in_sub fun v y H Q z => by
        unfold augV at z
        split at z
        · rename_i hh; cases hh
        · exact ⟨_, _, rfl, rfl, z⟩
        · exact z.elim
  | _ => cases h
omit M in
theorem cls_names {x : Str} {T : Expr} (h : clsNm C T = some x) : ∃ p u, T = .Name x p ∧ ClsN X.mg x u ∧ ∀ (a : Addr) (pn : List (Addr × Obj)), Names (X.suite a pn) x u := by
  cases T with
  | Name y p =>
    obtain ⟨hb, h⟩ := if_some h
    cases h
    simp only [Bool.and_eq_true, Bool.or_eq_true, beq_iff_eq] at hb
    obtain ⟨hg, hk⟩ := hb
    obtain ⟨u, hu⟩ := O.G.cls x (by rcases hk with (h | h) | h; exact .inl h; exact .inr (.inl h); exact .inr (.inr h))
    refine ⟨p, u, rfl, hu, fun a pn => ⟨O.gl hg, hu.1, ?_⟩⟩
    rcases hu.2 with ⟨_, h⟩ | ⟨_, h1, h2, h3⟩
    · exact .inl h
    · exact .inr ⟨h1, h2, h3⟩
  | _ => cases h
omit M in
theorem clsNms_ok {cs : List Str} {T : Expr} (h : clsNms C T = some cs) : ∃ us, (∀ (a : Addr) (pn : List (Addr × Obj)), PXt (X.suite a pn) T us) ∧ ∀ (D : Addr) (b : Bool), isaAny S D cs = some b → PySem.W.exmAny X.K (.ref D) us = some b := by
  have step : ∀ {x : Str} {u : Value} {D : Addr} {b : Bool}, ClsN X.mg x u → S.isa D x = some b → PySem.W.exmOne X.K (.ref D) u = some b := fun {x u D b} hu e => ((O.G.isa D x b e).2 u hu).2
  have cons : ∀ {x : Str} {u : Value} {D : Addr} {cs : List Str} {us : List Value}, ClsN X.mg x u → (∀ b, isaAny S D cs = some b → PySem.W.exmAny X.K (.ref D) us = some b) → ∀ b, isaAny S D (x :: cs) = some b → PySem.W.exmAny X.K (.ref D) (u :: us) = some b := fun {x u D cs us} hu ih b e => by
    unfold isaAny at e
    split at e
    · rename_i b1 d1 e1 e2
      cases e
      unfold PySem.W.exmAny
      rw [step hu e1, ih d1 e2]
    · cases e
  have nil : ∀ {D : Addr} (b : Bool), isaAny S D [] = some b → PySem.W.exmAny X.K (.ref D) [] = some b := fun {D} b e => e
  unfold clsNms at h
  split at h
  · obtain ⟨x, h1, rfl⟩ := map_some h
    obtain ⟨p, u, e1, hu, hn⟩ := cls_names O h1
    cases e1
    exact ⟨[u], fun a pn => .one (hn a pn), fun D b e => cons hu nil b e⟩
  · obtain ⟨x, y, h1, h2, rfl⟩ := two_some (f := fun x y => [x, y]) h
    obtain ⟨p, u, rfl, hu, hn⟩ := cls_names O h1
    obtain ⟨p2, u2, rfl, hu2, hn2⟩ := cls_names O h2
    exact ⟨[u, u2], fun a pn => .two (hn a pn) (hn2 a pn), fun D b e => cons hu (cons hu2 nil) b e⟩
  · obtain ⟨x, y, z, h1, h2, h3, rfl⟩ := tri_some (f := fun x y z => [x, y, z]) h
    obtain ⟨p, u, rfl, hu, hn⟩ := cls_names O h1
    obtain ⟨p2, u2, rfl, hu2, hn2⟩ := cls_names O h2
    obtain ⟨p3, u3, rfl, hu3, hn3⟩ := cls_names O h3
    exact ⟨[u, u2, u3], fun a pn => .three (hn a pn) (hn2 a pn) (hn3 a pn), fun D b e => cons hu (cons hu2 (cons hu3 nil)) b e⟩
  · cases h
omit O M in
theorem asgNm_eq {su : List Stmt} {u : Str × Str} (h : asgNm su = some u) : ∃ p q r, su = [.Assign [.Name u.1 p] (.Name u.2 q) r] := by
  unfold asgNm at h
  split at h
  · cases h
    exact ⟨_, _, _, rfl⟩
  · cases h
theorem PS.nok {st : Stmt} {t : TS} (h : PS X st t) : PS X st (fun D σ H => t { D with nx := fun σ H => NoK S.so H → D.nx σ H } σ H) := ⟨fun pins s σ H D I z =>
  wpAny_mono (h.run pins s σ H _ I z) (fun f s1 hs => by
    cases f with
    | next => obtain ⟨σ', H', J, q⟩ := hs; exact ⟨σ', H', J, q (nok_of O.G.so J)⟩
    | brk => exact hs
    | cont => exact hs
    | ret u => exact hs) fun _ _ x => x⟩
theorem try_ok {n : Nat} (ihb : ∀ {X : Cx} {W : WX}, Ok X S F k C W → ∀ st c, cS C n st = some c → PS X st (wS S F W c)) {b : List Stmt} {hs : List ExceptHandler} {p : Pos} {c : Sx} (h : cTry C (nCS (cS C n) b) hs = some c) : PS X (.Try b hs [] [] p) (wS S F W c) := by
  unfold cTry at h
  split at h
  · rename_i T nm su ph
    obtain ⟨u, h1, h2⟩ := bind_some h
    obtain ⟨p1, p2, p3, rfl⟩ := asgNm_eq h1
    obtain ⟨hb, h2⟩ := if_some h2
    simp only [Bool.and_eq_true, beq_iff_eq, Bool.not_eq_true', beq_eq_false_iff_ne] at hb
    obtain ⟨⟨e1, e2⟩, e3⟩ := hb
    obtain ⟨a, s, h3, h4, rfl⟩ := two_some (f := fun (a : Sxs × List Str) (s : Nat × Nat) => Sx.trx a.1 a.2 s.1 s.2) h2
    obtain ⟨b', cs, h5, h6, rfl⟩ := two_some (f := Prod.mk) h3
    obtain ⟨i, j, h7, h8, rfl⟩ := two_some (f := Prod.mk) h4
    obtain ⟨l1, l2⟩ := O.loc1 h7
    obtain ⟨l3, l4⟩ := O.loc1 h8
    obtain ⟨us, hT, hx⟩ := clsNms_ok O h6
    obtain ⟨d1, d2⟩ := okN_d e3
    have nd : X.N.Nodup := by rw [O.N]; exact O.nd
    rw [e1]
    have body : ∀ (W' : WX) (pn : List (Addr × Obj)) (xe : Value → Shared → Prop), Takes (X.tr pn xe) W' → PassesOwn (model X.prog X.w) X.A X.env xe → PSs (X.tr pn xe) b (wSs S F W' b') := fun W' pn xe tk po => by
      have O' : Ok (X.tr pn xe) S F k C W' := ⟨⟨O.G, O.N, O.nd, O.sc, O.calm, O.gd, O.rm, tk, O.kd⟩, po, O.cf, O.stk, O.frm, O.exn⟩
      exact nCS_ok O' M (ihb O') h5
    have t := ps_trx (py := p1) (pn' := p2) (pa := p3) (ph := ph) (pos := p) O.stk O.frm O.exn nd l1 l2 l3 l4 (nd_ne l1 l3 (Ne.symm e2)) d1 d2 hT body
    refine PS.imp (PS.nok O M t) fun D σ H z => ?_
    rw [wS] at z
    refine wSs_mono M b' (fun cls d σ' H' ⟨C', ec, g1, g2⟩ => ⟨C', ec, ?_, fun a ha nk => g2 a ha (nok_upd nk)⟩) _ _ _ _ ⟨fun _ _ z _ => z, fun _ _ z => z, fun _ _ z => z, fun _ _ z => z⟩ z
    rw [ec]
    exact hx C' true g1
  · cases h
end
section
variable {S : Stat} {F : Sm} {k : Nat} {C : CI} (M : SmMono F)
include M
theorem cS_ok : ∀ (n : Nat) {X : Cx} {W : WX}, Ok X S F k C W → ∀ (st : Stmt) (c : Sx), cS C n st = some c → PS X st (wS S F W c) := by
  intro n
  induction n with
  | zero => intro X W O st c h; cases h
  | succ n ihb =>
    intro X W O st c h
    have ih : ∀ st c, cS C n st = some c → PS X st (wS S F W c) := ihb O
    obtain ⟨iE, iO, iT⟩ := cE_ok M n O.toOkE
    cases st with
    | Assign ts e q =>
      change cAsg C n ts e = some c at h
      cases ts with
      | nil => cases h
      | cons t ts =>
        cases ts with
        | nil => exact asg1_ok O M iE h
        | cons t2 ts => cases h
    | Expr e p =>
      obtain ⟨hc, h⟩ := if_some h
      obtain ⟨e', h1, rfl⟩ := map_some (f := Sx.exp) h
      refine PS.imp (ps_expr (iE e e' h1) (swaps_no hc)) fun D σ H z => ?_
      rw [wS] at z
      exact z
    | Return v p =>
      cases v with
      | some e =>
        obtain ⟨e', h1, rfl⟩ := map_some (f := Sx.ret) h
        refine PS.imp (ps_ret (iE e e' h1)) fun D σ H z => ?_
        rw [wS] at z
        exact z
      | none =>
        cases h
        refine PS.imp ps_retN fun D σ H z => ?_
        rw [wS] at z
        exact z
    | If t a b p =>
      obtain ⟨t', a', b', h1, h2, h3, rfl⟩ := tri_some (f := Sx.ifs) h
      refine PS.imp (ps_if (iT t t' h1) (nCS_ok O M ih h2) (nCS_ok O M ih h3)) fun D σ H z => ?_
      rw [wS] at z
      exact z
    | For t it b o q =>
      obtain ⟨ho, h⟩ := if_some h
      cases o with
      | cons _ _ => cases ho
      | nil => exact for_ok O M iE (fun b' hb => nCS_ok O M ih hb) h
    | While t b o p =>
      obtain ⟨ho, h⟩ := if_some h
      cases o with
      | cons _ _ => cases ho
      | nil =>
        obtain ⟨t', b', h1, h2, rfl⟩ := two_some (f := Sx.whl) h
        refine PS.imp (ps_while O.po (iT t t' h1) (nCS_ok O M ih h2)) fun D σ H z => ?_
        rw [wS] at z
        refine ⟨fun m σ H => lpW (wT S F W t') (wSs S F W b') D m σ H, z, fun m σ H z1 => ?_⟩
        cases m with
        | zero => exact z1.elim
        | succ m =>
          refine wT_mono M t' (fun kk H1 z2 => ?_) z1
          cases kk with
          | true => exact ⟨lpW (wT S F W t') (wSs S F W b') D m, fun σ' H' z3 => ⟨m, Nat.lt_succ_self m, z3⟩, z2⟩
          | false => exact z2
    | Pass p =>
      cases h
      refine PS.imp ps_pass fun D σ H z => ?_
      rw [wS] at z
      exact z
    | Raise a b p => exact rai_ok O M iE h
    | AugAssign t o e p => exact aug_ok O M iE h
    | Try b hs o f p =>
      obtain ⟨ho, h⟩ := if_some h
      simp only [Bool.and_eq_true] at ho
      cases o with
      | cons _ _ => exact absurd ho.1 Bool.false_ne_true
      | nil =>
        cases f with
        | cons _ _ => exact absurd ho.2 Bool.false_ne_true
        | nil => exact try_ok O M (fun O' => ihb O') h
    | _ => cases h
end
end QL
set_option Elab.async false
set_option linter.all false
set_option maxRecDepth 100000
set_option maxHeartbeats 4000000
/-! Q12: defs by levels, and the end of a law. -/
namespace QL
open PySem PySem.Spec L2
open PyProof.Rows hiding St
structure FnI where
  N : List Str
  np : Nat
  body : Sxs
/-- what the defs do, calls nested at most so deep -/
def sem (S : Stat) (T : Str → Option FnI) : Nat → Sm
  | 0 => ⟨fun _ _ _ _ _ => False⟩
  | n + 1 => ⟨fun f vs H Q E => match T f with
    | some fi => vs.length = fi.np ∧ wSs S (sem S T n) (fun c d _ H' => E c d H') fi.body { nx := fun _ H' => Q .non H', rt := Q } (L2.start fi.N vs) H
    | none => False⟩
theorem sem_mono (S : Stat) (T : Str → Option FnI) : ∀ n, SmMono (sem S T n)
  | 0 => fun _ _ _ _ _ _ _ _ _ h => h.elim
  | n + 1 => fun f vs H Q Q' E E' q e h => by
    unfold sem at h ⊢
    simp only at h ⊢
    split at h
    · refine ⟨h.1, wSs_mono (sem_mono S T n) _ (W := fun c d _ H' => E c d H') (fun c d σ H' z => e c d H' z) _ _ _ _ ?_ h.2⟩
      exact ⟨fun _ H' z => q _ _ z, q, fun _ _ z => z, fun _ _ z => z⟩
    · exact h.elim
/-- a def of the text, turned: its name, its qualified name -/
structure DefB (K : PySem.W.Frag) (gl : Str → Gk) (nm q : Str) (fi : FnI) (st : Stmt) (f : Addr) (fd : FuncData) (ps : List Str) : Prop where
  fn : ∃ dvs kws, FunD K nm q (defArgs st) (defBody st) (defScope st) dvs kws f fd
  sc : FnScope fi.N ps (defScope st)
  np : ps.length = fi.np
  tr : nCS (cS ⟨fi.N, defScope st, gl⟩ 60) (defBody st) = some fi.body
/-- a def of the module -/
structure Def1 (K : PySem.W.Frag) (mg : Str → Option Value) (gl : Str → Gk) (x : Str) (fi : FnI) (st : Stmt) (f : Addr) (fd : FuncData) (ps : List Str) : Prop where
  df : DefB K gl x x fi st f fd ps
  mg : mg x = some (.ref f)
  bd : Binds K fd ps []
  nm : (x == ("__debug__" : Str)) = false
/-- what a name of the module is -/
def Fact (K : PySem.W.Frag) (mg : Str → Option Value) (S : Stat) (T : Str → Option FnI) (gl : Str → Gk) (x : Str) : Gk → Prop
  | .fn => ∃ fi st f fd ps, T x = some fi ∧ Def1 K mg gl x fi st f fd ps
  | .cst => ∀ v, S.gv x = some v → ∃ u, mg x = some u ∧ RelV v u
  | .bi b => x = biN b ∧ mg x = none
  | .isi => x = "isinstance" ∧ mg x = none
  | .xcl => ∃ C, (x == ("__debug__" : Str)) = false ∧ mg x = some (.ref C) ∧ PySem.W.keepIn K (.ref C) = true
  | .ocl => ∃ C, (x == ("__debug__" : Str)) = false ∧ mg x = some (.ref C) ∧ PySem.W.keepIn K (.ref C) = true
  | .bxc => ∃ T, (x == ("__debug__" : Str)) = false ∧ mg x = none ∧ bootBuiltins x = some (.type T) ∧ x ≠ "__name__"
  | .dct => True
  | .dead => True
  | .no => True
def AllF (f : Str → Gk → Prop) : List (Str × Gk) → Prop
  | [] => True
  | (x, g) :: r => f x g ∧ AllF f r
theorem AllF.at {f : Str → Gk → Prop} {x : Str} {g : Gk} : ∀ {l : List (Str × Gk)}, AllF f l → l.lookup x = some g → f x g
  | [], _, h => by cases h
  | (y, k) :: r, a, h => by
    rw [List.lookup_cons] at h
    split at h
    · rename_i e
      cases h
      have : x = y := by simpa using e
      rw [this]
      exact a.1
    · exact a.2.at h
/-- how values come to the parameters of a def that is called with so many values, keywords among them -/
def BindK (K : PySem.W.Frag) (fd : FuncData) (ps : List Str) (n : Nat) (ks : List Str) (pm : List (Nat ⊕ V)) : Prop :=
  ∀ (vs ws : List V) (us : List Value), Vals vs us → vs.length = n → pmV pm vs = some ws → ∃ full : List Value, Vals ws full ∧ ∀ (s : Shared) (a : Value), K.In s.heap → BindsTo s fd ⟨a :: us.take (n - ks.length), ks.zip (us.drop (n - ks.length))⟩ (ps.zip (a :: full))
/-- the module behind the top -/
structure Top (w : World) (K : PySem.W.Frag) (mg : Str → Option Value) (S : Stat) (T : Str → Option FnI) (gl : Str → Gk) : Prop where
  so : SoOk K S.so
  fl : ∀ C f, S.fl C f → Cls K C ∧ NoAttr K C f
  at_ : ∀ x, Fact K mg S T gl x (gl x)
  rng : gl "range" = .no → mg "range" = none
  fre : ∀ x : Str, (x = "enumerate" ∨ x = "zip") → gl x = .no → mg x = none
  xc : ∀ x C f, gl x = .xcl → S.xc x = some (C, f) → ∀ (P : Program) (w : World) (base : Heap), Xk P w K mg base x C f
  isa : ∀ C c b, S.isa C c = some b → XvC K C ∧ ∀ u, ClsN mg c u → PySem.W.kitOne K (.ref C) u = some b ∧ PySem.W.exmOne K (.ref C) u = some b
  iso : ∀ C c b, S.iso C c = some b → OcC K C ∧ ∀ u, ClsN mg c u → PySem.W.kitOne K (.ref C) u = some b
  isb : ∀ c, S.isb c = true → ∀ u, ClsN mg c u → ∀ T ∈ bTs, PySem.W.kitOne K (.type T) u = some false
  xf : ∀ C f, S.xf C f → XvC K C ∧ PySem.W.findIn K (.ref C) f = some none
  mt : ∀ C m g, S.mt C m = some g → Cls K C ∧ ∃ fi nm q st f fd ps, T g = some fi ∧ Meth K C m f ∧ DefB K gl nm q fi st f fd ps ∧ Binds K fd ps []
  mkc : ∀ x n ks C g pm, gl x = .ocl → S.mkc x n ks = some (C, g, pm) → (x == ("__debug__" : Str)) = false ∧ mg x = some (.ref C) ∧ ∃ fi nm q st f fd ps, T g = some fi ∧ Mk K C f ∧ DefB K gl nm q fi st f fd ps ∧ BindK K fd ps n ks pm
  gd : ∀ x, gl x = .dct → ∃ l d es m, S.gd x = some l ∧ mg x = some (.ref d) ∧ KDict K w d es m ∧ ∀ z : Str, ∃ r, PySem.W.nsIn K d z = some r ∧ RelO (l.lookup z) r
section
variable {P : Program} {w : World} {K : PySem.W.Frag} {mg : Str → Option Value} {base : Heap} {S : Stat} {T : Str → Option FnI} {gl : Str → Gk}
theorem Top.fng (G : Top w K mg S T gl) : ∀ (n : Nat) (g nm q : Str) (fi : FnI) (st : Stmt) (f : Addr) (fd : FuncData) (ps : List Str), T g = some fi → DefB K gl nm q fi st f fd ps → FnG P w K mg base (2 * n + 1) f fd ps ((sem S T n).fn g)
  | 0, g, nm, q, fi, st, f, fd, ps, hx, D => ⟨fun _ _ _ _ z => z.elim, fun _ _ _ _ _ _ _ _ _ _ _ _ _ _ z => z.elim⟩
  | n + 1, g, nm, q, fi, st, f, fd, ps, hx, D => by
    obtain ⟨dvs, kws, ⟨oc, od, dV, kV, doc, pm, an, cdv, ct, osl, rfl, lk, hcd, _, _⟩, _⟩ := D.fn
    have len : ∀ vs H Q E, (sem S T (n + 1)).fn g vs H Q E → vs.length = ps.length := fun vs H Q E z => by
      unfold sem at z
      simp only [hx] at z
      rw [D.np]
      exact z.1
    refine fng_of (k := 2 * n + 2) lk hcd D.sc len fun A outer s H vs Q E hg hr z => ?_
    unfold sem at z
    simp only [hx] at z
    have GO : GOk P w K mg base S (sem S T n) n gl := {
      so := G.so
      fl := G.fl
      fn := fun y hy => by
        have q := G.at_ y
        rw [hy] at q
        obtain ⟨fi', st', f', fd', ps', h1, h2⟩ := q
        obtain ⟨_, _, hF⟩ := h2.df.fn
        exact ⟨f', fd', ps', h2.nm, h2.mg, hF.kp, Top.fng G n y _ _ fi' st' f' fd' ps' h1 h2.df, h2.bd⟩
      cst := fun y v hy => by
        have q := G.at_ y
        rw [hy] at q
        exact q v
      bi := fun y b hy => by
        have q := G.at_ y
        rw [hy] at q
        exact q
      isi := fun y hy => by
        have q := G.at_ y
        rw [hy] at q
        exact q
      rng := G.rng
      fre := G.fre
      cls := fun y hy => by
        have q := G.at_ y
        rcases hy with hy | hy | hy
        · rw [hy] at q
          obtain ⟨C, h1, h2, _⟩ := q
          exact ⟨.ref C, h1, .inl ⟨⟨C, rfl⟩, h2⟩⟩
        · rw [hy] at q
          obtain ⟨C, h1, h2, _⟩ := q
          exact ⟨.ref C, h1, .inl ⟨⟨C, rfl⟩, h2⟩⟩
        · rw [hy] at q
          obtain ⟨T, h1, h2, h3, h4⟩ := q
          exact ⟨.type T, h1, .inr ⟨⟨T, rfl⟩, h2, h3, h4⟩⟩
      own := fun y hy => by
        have q := G.at_ y
        rcases hy with hy | hy
        · rw [hy] at q
          exact q
        · rw [hy] at q
          exact q
      xc := fun x C f h1 h2 => G.xc x C f h1 h2 P w base
      isa := G.isa
      iso := G.iso
      isb := G.isb
      xf := G.xf
      mt := fun C m g' h => by
        obtain ⟨c, fi', nm', q', st', f', fd', ps', h1, h2, h3, h4⟩ := G.mt C m g' h
        exact ⟨c, f', fd', ps', h2, Top.fng G n g' nm' q' fi' st' f' fd' ps' h1 h3, h4⟩
      mkc := fun x k ks C g' pm' h h' => by
        obtain ⟨c1, c2, fi', nm', q', st', f', fd', ps', h1, h2, h3, h4⟩ := G.mkc x k ks C g' pm' h h'
        exact ⟨c1, c2, f', fd', ps', h2, Top.fng G n g' nm' q' fi' st' f' fd' ps' h1 h3, h4⟩
      gd := G.gd }
    have O : Ok (cxOf (L2.CX P w) P w K mg base fi.N q (defScope st) f cdv A outer s H E) S (sem S T n) n ⟨fi.N, defScope st, gl⟩ (fun c d _ H' => E c d H') :=
      ⟨⟨GO, rfl, D.sc.nd, rfl, rfl, hg, hr, takes_of rfl rfl rfl rfl, D.sc.kind⟩, passes_of rfl, fun _ _ => rfl, rfl, rfl, rfl⟩
    exact ⟨_, nCS_ok O (sem_mono S T n) (cS_ok (sem_mono S T n) 60 O) D.tr, z.2⟩
end
/-! ### the end of a law -/
theorem ints_vals : ∀ {vs : List Value} {ns : List Int}, IntsAre vs ns → Vals (ns.map V.int) vs
  | _, _, .nil => .nil
  | _, _, .cons n t h => .cons ⟨t, rfl⟩ (ints_vals h)
section
variable {P : Program} {w : World} {K : PySem.W.Frag} {mg mb : Str → Option Value} {k : Nat} {fa a : Addr} {fd : FuncData} {x : Str} {sp : Sp} {s1 : Shared} {vs : List Value} {ns : List Int}
/-- the law's def called with the script, over one abstract heap that tracks at most the script -/
theorem law_at (KX : K.In s1.heap) (hns : s1.heap.Ns mainGlobals mg) (hb : s1.heap.Ns builtinsNs mb) (hbb : ∀ x : Str, x ≠ "__name__" → mb x = bootBuiltins x) (hlim : s1.heap.NoLimit) (hg : s1.gens = #[])
    (ha : s1.heap.get? a = some { cls := .type "list", data := .seq vs.toArray }) (hr : Room k callerA)
    (F : ∀ base : Heap, K.In base → base.Ns mainGlobals mg → FnG P w K mg base k fa fd [x] sp) (hbind : ∀ (s : Shared) (u : Value), BindsTo s fd ⟨[u], []⟩ [(x, u)])
    (H : Hp) (hA : ∀ b, H b ≠ none → b = a ∧ ∃ o u, H b = some (.frz o u)) (hK : H a ≠ none → K.lookup a = none) (hok : HOk P w H s1.heap) (hsp : sp [.ref a] H (fun v _ => v = .bl true) fun _ _ _ => False) :
    codeAny (model P w) callerA (.call (.ref fa) ⟨[.ref a], []⟩) (fun r s' => r = .ok (.ret (.bool true)) ∧ OldK s1.heap s'.heap ∧ s'.os = s1.os ∧ AllBare s'.gens) s1 := by
  have ns' : ∀ {b : Addr} {m : Str → Option Value}, s1.heap.Ns b m → (hidT s1.heap H).Ns b m := by
    rintro b m ⟨o, es, ep, e, d, r⟩
    refine ⟨o, es, ep, hidT_get e ?_, d, r⟩
    cases q : H b with
    | none => rfl
    | some u =>
      obtain ⟨rfl, _⟩ := hA b (by rw [q]; simp)
      rw [ha] at e
      cases e
      cases d
  have kIn : K.In (hidT s1.heap H) := fun b o e => hidT_get (KX b o e) (by
    cases q : H b with
    | none => rfl
    | some u =>
      obtain ⟨rfl, _⟩ := hA b (by rw [q]; simp)
      rw [hK (by rw [q]; simp)] at e
      cases e)
  have hM : Mod K mg (hidT s1.heap H) := ⟨kIn, ns' hns, ⟨mb, ns' hb, hbb⟩, let ⟨mc, h1, h2⟩ := hlim; ⟨mc, ns' h1, h2⟩⟩
  have e0 : Env0 P w K mg (hidT s1.heap H) callerA [] s1 H := ⟨rfl, hM, fun b o e => of_hidT e, Nat.le_of_eq (hidT_size _ _), trivial, (fun b hb => by cases hb), hok, .of_eq hg⟩
  refine codeAny_mono ((F _ kIn (ns' hns)).run callerA [] s1 H ⟨[.ref a], []⟩ [.ref a] [.ref a] _ _ rfl hr e0 (hbind s1 (.ref a)) (.cons rfl .nil) hsp) fun r s' h => ?_
  match r, h with
  | .error e, h =>
    obtain ⟨_, _, _, _, _, _, _, _, _, _, _, _, z⟩ := h
    exact z.elim
  | .ok .next, h => exact h.elim
  | .ok .brk, h => exact h.elim
  | .ok .cont, h => exact h.elim
  | .ok (.ret u), ⟨v, H', os, bare, un, hok', r', q⟩ =>
    have q : v = .bl true := q
    subst q
    obtain rfl : u = Value.bool true := r'
    refine ⟨rfl, OldK.of_keep fun b o e => ?_, os, bare⟩
    cases q : H b with
    | none => exact un.keep b o e q (by intro z; cases z) (by simp)
    | some u =>
      obtain ⟨_, ob, u', z⟩ := hA b (by rw [q]; simp)
      obtain ⟨e1, _⟩ := hok b _ z
      obtain ⟨e2, _⟩ := hok' b _ (un.frzs b ob _ z)
      rw [e] at e1
      cases e1
      exact e2
/-- what so0 tells, so tells -/
def SoLe (so0 so : Addr → Option HO) : Prop := ∀ b xs, so0 b = some (.tup xs) → so b = some (.tup xs)
theorem law_end {so0 : Addr → Option HO} {sp : (Addr → Option HO) → Sp} (S0 : SoOk K so0) (KX : K.In s1.heap) (hns : s1.heap.Ns mainGlobals mg) (hb : s1.heap.Ns builtinsNs mb) (hbb : ∀ x : Str, x ≠ "__name__" → mb x = bootBuiltins x) (hlim : s1.heap.NoLimit) (hg : s1.gens = #[])
    (ha : s1.heap.get? a = some { cls := .type "list", data := .seq vs.toArray }) (hi : IntsAre vs ns) (hl : ns.length ≤ sizeLine) (hr : Room k callerA)
    (F : ∀ so, SoOk K so → SoLe so0 so → ∀ base : Heap, K.In base → base.Ns mainGlobals mg → FnG P w K mg base k fa fd [x] (sp so)) (hbind : ∀ (s : Shared) (u : Value), BindsTo s fd ⟨[u], []⟩ [(x, u)])
    (hsp : ∀ (so : Addr → Option HO) (H : Hp), SoLe so0 so → rd so H a = some (.lst (ns.map V.int)) → (∀ b, b ≠ a → H b = none) → (∀ o, H a = some o → ∃ x u, o = .frz x u) → (H a ≠ none → so a = none) → sp so [.ref a] H (fun v _ => v = .bl true) fun _ _ _ => False) :
    codeAny (model P w) callerA (.call (.ref fa) ⟨[.ref a], []⟩) (fun r s' => r = .ok (.ret (.bool true)) ∧ OldK s1.heap s'.heap ∧ s'.os = s1.os ∧ AllBare s'.gens) s1 := by
  have rv := ints_vals hi
  have lenV := hi.length
  cases hk : K.lookup a with
  | some o =>
    have e := KX a o hk
    rw [ha] at e
    cases e
    have S1 : SoOk K (fun b => if b = a then some (.lst (ns.map V.int)) else so0 b) := fun b u h => by
      by_cases q : b = a
      · have h' := (if_pos q).symm.trans h
        cases h'
        subst q
        exact ⟨vs.toArray, _, hk, by rw [List.size_toArray, lenV]; exact hl, by simpa using rv⟩
      · have h' : so0 b = some u := (if_neg q).symm.trans h
        exact S0 b u h'
    have L1 : SoLe so0 (fun b => if b = a then some (.lst (ns.map V.int)) else so0 b) := fun b xs h => by
      by_cases q : b = a
      · subst q
        obtain ⟨o, its, n, h1, h2, _⟩ := S0 b _ h
        rw [hk] at h1
        cases h1
        have h2' : Value.type "list" = Value.type "tuple" := h2
        injection h2' with h2'
        exact absurd h2' (by decide)
      · show (if b = a then _ else _) = _
        rw [if_neg q]
        exact h
    refine law_at (sp := sp _) KX hns hb hbb hlim hg ha hr (F _ S1 L1) hbind (fun _ => none) (fun b h => absurd rfl h) (fun h => absurd rfl h) (fun b o h => by cases h) (hsp _ _ L1 ?_ (fun b _ => rfl) (fun o h => by cases h) fun h => absurd rfl h)
    show (if a = a then _ else _) = _
    rw [if_pos rfl]
  | none =>
    refine law_at (sp := sp so0) KX hns hb hbb hlim hg ha hr (F so0 S0 fun b xs h => h) hbind (fun b => if b = a then some (.frz { cls := .type "list", data := .seq vs.toArray } (.lst (ns.map V.int))) else none) ?_ (fun _ => hk) ?_ (hsp so0 _ (fun b xs h => h) ?_ (fun b hb => if_neg hb) ?_ fun _ => ?_)
    · intro b h
      by_cases e : b = a
      · exact ⟨e, _, _, if_pos e⟩
      · exact absurd (if_neg e) h
    · intro b o h
      by_cases e : b = a
      · have h' := (if_pos e).symm.trans h
        cases h'
        subst e
        exact ⟨ha, by rw [List.length_map]; exact hl, vs, _, rv, ha⟩
      · have h' := (if_neg e).symm.trans h
        cases h'
    · unfold rd
      simp
    · intro o h
      have h' := (if_pos rfl).symm.trans h
      cases h'
      exact ⟨_, _, rfl⟩
    · cases q : so0 a with
      | none => rfl
      | some u =>
        have z := S0 a u q
        cases u with
        | tup xs =>
          obtain ⟨o, _, _, g, _⟩ := z
          rw [hk] at g
          cases g
        | lst xs =>
          obtain ⟨_, _, g, _⟩ := z
          rw [hk] at g
          cases g
        | _ => exact z.elim
end
/-- the goal that the head leaves, from the promise of the law's def -/
theorem walk_g {l : PySem.W.OpenLaw} {n k : Nat} {q : Program} {loose : List Str} {XP : (Str → Option Value) → Heap → Prop} {YP : World → Heap → Prop} {d : DefRec} {K : Params → PySem.W.Frag} {x : Str}
    (hn : l.most = some n) (hn2 : n ≤ sizeLine) (hdf : d.params.defaults = []) (hr : Room k callerA) (hY : ∀ (w : World) (h : Heap), YP w h → (K w.params).In h)
    (F : ∀ (w : World) (mg : Str → Option Value) (fa : Addr) (h : Heap), (K w.params).In h → h.Ns mainGlobals mg → mg d.name = some (.ref fa) →
      ∃ (so0 : Addr → Option HO) (sp : (Addr → Option HO) → Sp) (fd : FuncData), SoOk (K w.params) so0 ∧ (∀ (s : Shared) (u : Value), BindsTo s fd ⟨[u], []⟩ [(x, u)]) ∧
        (∀ so, SoOk (K w.params) so → SoLe so0 so → ∀ base : Heap, (K w.params).In base → base.Ns mainGlobals mg → FnG l.prog w (K w.params) mg base k fa fd [x] (sp so)) ∧
        ∀ (a : Addr) (ns : List Int) (so : Addr → Option HO) (H : Hp), ns.length ≤ n → SoLe so0 so → rd so H a = some (.lst (ns.map V.int)) → (∀ b, b ≠ a → H b = none) → (∀ o, H a = some o → ∃ x u, o = .frz x u) → (H a ≠ none → so a = none) → sp so [.ref a] H (fun v _ => v = .bl true) fun _ _ _ => False) :
    PySem.W.WalkO q loose XP YP l.row.toRowW d [] (fun f vs => PySem.call f vs) := by
  refine Att.attach_call hn hdf fun w s₀ s₁ mg mb fa o pm cd doc a vs ns G Y ho hd hcd hmg hobj hints hlen hg => ?_
  have KX := hY w _ Y
  obtain ⟨so0, sp, fd, S0, hb, hF, hs⟩ := F w mg fa _ KX G.T.g hmg
  exact law_end S0 KX G.T.g G.T.b G.T.builtins G.T.nolimit hg hobj hints (Nat.le_trans hlen hn2) hr hF hb fun so H h1 h2 h3 h4 h5 => hs a ns so H hlen h1 h2 h3 h4 h5
/-- the same over a head by facts -/
theorem walk_h {l : PySem.W.OpenLaw} {n k : Nat} {q : Program} {loose : List Str} {XP : (Str → Option Value) → Heap → Prop} {YP : World → Heap → Prop} {d : DefRec} {x : Str}
    (hn : l.most = some n) (hn2 : n ≤ sizeLine) (hdf : d.params.defaults = []) (hr : Room k callerA)
    (F : ∀ (w : World) (mg : Str → Option Value) (fa : Addr) (h : Heap), YP w h → h.Ns mainGlobals mg → mg d.name = some (.ref fa) →
      ∃ (K : PySem.W.Frag) (so0 : Addr → Option HO) (sp : (Addr → Option HO) → Sp) (fd : FuncData), K.In h ∧ SoOk K so0 ∧ (∀ (s : Shared) (u : Value), BindsTo s fd ⟨[u], []⟩ [(x, u)]) ∧
        (∀ so, SoOk K so → SoLe so0 so → ∀ base : Heap, K.In base → base.Ns mainGlobals mg → FnG l.prog w K mg base k fa fd [x] (sp so)) ∧
        ∀ (a : Addr) (ns : List Int) (so : Addr → Option HO) (H : Hp), ns.length ≤ n → SoLe so0 so → rd so H a = some (.lst (ns.map V.int)) → (∀ b, b ≠ a → H b = none) → (∀ o, H a = some o → ∃ x u, o = .frz x u) → (H a ≠ none → so a = none) → sp so [.ref a] H (fun v _ => v = .bl true) fun _ _ _ => False) :
    PySem.W.WalkO q loose XP YP l.row.toRowW d [] (fun f vs => PySem.call f vs) := by
  refine Att.attach_call hn hdf fun w s₀ s₁ mg mb fa o pm cd doc a vs ns G Y ho hd hcd hmg hobj hints hlen hg => ?_
  obtain ⟨K, so0, sp, fd, KX, S0, hb, hF, hs⟩ := F w mg fa _ Y G.T.g hmg
  exact law_end S0 KX G.T.g G.T.b G.T.builtins G.T.nolimit hg hobj hints (Nat.le_trans hlen hn2) hr hF hb fun so H h1 h2 h3 h4 h5 => hs a ns so H hlen h1 h2 h3 h4 h5
end QL
set_option Elab.async false
set_option linter.all false
set_option maxRecDepth 100000
set_option maxHeartbeats 4000000
/-! E0: tables that the kernel reads fast. -/
namespace QL
open PySem
/-- a number for a text -/
def codeS (x : Str) : Nat := x.cps.toList.foldl (fun n c => Nat.add (Nat.mul n 256) c) 1
def eqK (a b : Str) : Bool := match Nat.beq (codeS a) (codeS b) with
  | true => a == b
  | false => false
theorem eqK_iff {a b : Str} : eqK a b = (a == b) := by
  unfold eqK
  split
  · rfl
  · rename_i h
    cases q : a == b with
    | false => rfl
    | true =>
      have : a = b := by simpa using q
      subst this
      rw [Nat.beq_refl] at h
      cases h
def lookK {α : Type} (x : Str) : List (Str × α) → Option α
  | [] => none
  | (y, v) :: r => match eqK x y with
    | true => some v
    | false => lookK x r
theorem lookK_eq {α : Type} (x : Str) : ∀ (l : List (Str × α)), lookK x l = l.lookup x
  | [] => rfl
  | (y, v) :: r => by
    rw [lookK, List.lookup_cons, eqK_iff, lookK_eq x r]
    cases x == y <;> rfl
end QL
set_option Elab.async false
set_option linter.all false
set_option maxRecDepth 100000
set_option maxHeartbeats 4000000
/-! E1: the small language run on heaps of its own: tuples and exceptions are values, addresses are places in a list. -/
namespace QL
open PySem PySem.Spec L2
open PyProof.Rows hiding St
inductive EV where
  | non | bl (b : Bool) | int (i : Int) | str (x : Str) | ref (a : Nat) | tup (xs : List EV) | exc (c f : Str) (v : EV) | exc0 (c : Str)
inductive EO where
  | lst (xs : List EV)
  /-- a list that is read alone -/
  | fls (xs : List EV)
  | dct (kvs : List (Key × EV))
  | ins (c : Str) (fs : List (Str × EV))
abbrev EH := List EO
abbrev ESt := List (Option EV)
inductive R (α : Type) where
  | ok (a : α) (h : EH)
  | ex (c : Str) (d : Option (Str × EV)) (h : EH)
  | bad
def R.bind {α β : Type} : R α → (α → EH → R β) → R β
  | .ok a h, f => f a h
  | .ex c d h, _ => .ex c d h
  | .bad, _ => .bad
/-- no exception -/
def R.nox {α : Type} : R α → R α
  | .ok a h => .ok a h
  | _ => .bad
def R.opt {α : Type} (o : Option α) (h : EH) : R α := match o with
  | some a => .ok a h
  | none => .bad
def cnd {α : Type} (b : Bool) (x y : Unit → α) : α := match b with
  | true => x ()
  | false => y ()
/-- what stands behind the top -/
structure ES where
  gv : Str → Option EV
  gd : Str → Option (List (Str × EV))
  fl : Str → Str → Bool
  xc : Str → Option (Option Str)
  isa : Str → Str → Option Bool
  iso : Str → Str → Option Bool
  isb : Str → Bool
  xf : Str → Str → Bool
  mt : Str → Str → Option Str
  mkc : Str → Nat → List Str → Option (Str × List (Nat ⊕ EV))
/-! ### values -/
mutual
def beqE : EV → EV → Bool
  | .non, .non => true
  | .bl a, .bl b => a == b
  | .int a, .int b => a == b
  | .str a, .str b => a == b
  | .ref a, .ref b => a == b
  | .tup xs, .tup ys => beqEs xs ys
  | .exc c f v, .exc d g w => c == d && (f == g && beqE v w)
  | .exc0 c, .exc0 d => c == d
  | _, _ => false
def beqEs : List EV → List EV → Bool
  | [], [] => true
  | x :: xs, y :: ys => beqE x y && beqEs xs ys
  | _, _ => false
end
def beqO : EO → EO → Bool
  | .lst xs, .lst ys => beqEs xs ys
  | .fls xs, .fls ys => beqEs xs ys
  | _, _ => false
/-- a list that may be read -/
def lstE (h : EH) : EV → Option (List EV)
  | .ref a => (match h[a]? with
    | some (.lst xs) => some xs
    | some (.fls xs) => some xs
    | _ => none)
  | _ => none
def seqE (h : EH) : EV → Option (List EV)
  | .tup xs => some xs
  | x => lstE h x
mutual
/-- the data that a value shows -/
def toD (h : EH) : Nat → EV → Option PyData
  | 0, _ => none
  | n + 1, x => match x with
    | .non => some .none
    | .bl b => some (.bool b)
    | .int i => some (.int i)
    | .str x => some (.str x)
    | .tup xs => (toDs h n xs).map .tuple
    | .ref a => (match h[a]? with
      | some (.lst xs) => (toDs h n xs).map .list
      | some (.fls xs) => (toDs h n xs).map .list
      | _ => none)
    | _ => none
def toDs (h : EH) : Nat → List EV → Option (List PyData)
  | 0, _ => none
  | _ + 1, [] => some []
  | n + 1, x :: xs => match toD h n x, toDs h n xs with
    | some d, some ds => some (d :: ds)
    | _, _ => none
end
def intsE : List EV → Option (List Int)
  | [] => some []
  | .int i :: r => (intsE r).map (i :: ·)
  | _ => none
def blsE : List EV → Option (List Bool)
  | [] => some []
  | .bl i :: r => (blsE r).map (i :: ·)
  | _ => none
def strsE : List EV → Option (List Str)
  | [] => some []
  | .str i :: r => (strsE r).map (i :: ·)
  | _ => none
def pairsE : List EV → Option (List (Int × Int))
  | [] => some []
  | .tup [.int i, .int j] :: r => (pairsE r).map ((i, j) :: ·)
  | _ => none
def keysI : List (Key × EV) → Option (List Int)
  | [] => some []
  | (.inl i, _) :: r => (keysI r).map (i :: ·)
  | _ => none
def keysS : List (Key × EV) → Option (List Str)
  | [] => some []
  | (.inr i, _) :: r => (keysS r).map (i :: ·)
  | _ => none
def flatE : EV → Bool
  | .non => true | .bl _ => true | .int _ => true | .str _ => true | _ => false
/-- == of flat values -/
def eqF : EV → EV → Bool
  | .non, .non => true
  | .bl a, .bl b => a == b
  | .bl a, .int b => (if a then 1 else 0) == b
  | .int a, .bl b => a == (if b then 1 else 0)
  | .int a, .int b => a == b
  | .str a, .str b => a == b
  | _, _ => false
def keyE : EV → Option Key
  | .int i => some (.inl i)
  | .str x => some (.inr x)
  | _ => none
def valE (kvs : List (Key × EV)) (k : Key) : Option EV := (kvs.find? fun kv => decide (kv.1 = k)).map (·.2)
def putE (kvs : List (Key × EV)) (k : Key) (v : EV) : List (Key × EV) := if (kvs.any fun kv => decide (kv.1 = k)) = true then kvs.map fun kv => if kv.1 = k then (kv.1, v) else kv else kvs ++ [(k, v)]
def dropE (kvs : List (Key × EV)) (k : Key) : List (Key × EV) := kvs.filter fun kv => decide (kv.1 ≠ k)
def putFE (f : Str) (v : EV) : List (Str × EV) → List (Str × EV)
  | [] => [(f, v)]
  | (g, x) :: r => match eqK g f with
    | true => (g, v) :: r
    | false => (g, x) :: putFE f v r
def cutE (xs : List EV) (lo hi : Option Int) : List EV := (xs.drop (HT.sIx xs.length 0 lo)).take (HT.sIx xs.length xs.length hi - HT.sIx xs.length 0 lo)
def truE (h : EH) : EV → Option Bool
  | .non => some false
  | .bl b => some b
  | .int i => some (i != 0)
  | .tup xs => some (!xs.isEmpty)
  | .ref a => (match h[a]? with
    | some (.lst xs) => some (!xs.isEmpty)
    | some (.fls xs) => some (!xs.isEmpty)
    | some (.dct kvs) => some (!kvs.isEmpty)
    | _ => none)
  | _ => none
def btE (h : EH) (T : Bt) : EV → Option Bool
  | .non => some false
  | .bl _ => some (tBl T)
  | .int _ => some (tInt T)
  | .str _ => some (tStr T)
  | .tup _ => some (tTuple T)
  | .ref a => (match h[a]? with
    | some (.lst _) => some (tList T)
    | some (.dct _) => some false
    | _ => none)
  | _ => none
def ltS (x y : Str) : Bool := ltCps x.cps.toList y.cps.toList
def insI (n : Int) : List Int → List Int
  | [] => [n]
  | m :: r => if n ≤ m then n :: m :: r else m :: insI n r
def sortI (ns : List Int) : List Int := ns.foldr insI []
def insS (n : Str) : List Str → List Str
  | [] => [n]
  | m :: r => if ltS m n = true then m :: insS n r else n :: m :: r
def sortS (ns : List Str) : List Str := ns.foldr insS []
def lexP (p q : Int × Int) : Bool := decide (p.1 < q.1) || (decide (p.1 = q.1) && decide (p.2 < q.2))
def insP (n : Int × Int) : List (Int × Int) → List (Int × Int)
  | [] => [n]
  | m :: r => if lexP m n = true then m :: insP n r else n :: m :: r
def sortP (ns : List (Int × Int)) : List (Int × Int) := ns.foldr insP []
/-! ### operators -/
def newE (o : EO) (h : EH) : R EV := .ok (.ref h.length) (h ++ [o])
/-- a test that must hold -/
def chk {α : Type} (b : Bool) (r : Unit → R α) : R α := match b with
  | true => r ()
  | false => .bad
def addE (x y : EV) (h : EH) : R EV := match x, y with
  | .int i, .int j => .ok (.int (i + j)) h
  | .str i, .str j => chk (decide (i.length + j.length ≤ sizeLine)) fun _ => .ok (.str (i ++ j)) h
  | .tup xs, .tup ys => chk (decide (xs.length + ys.length ≤ sizeLine)) fun _ => .ok (.tup (xs ++ ys)) h
  | .ref p, .ref q => (match lstE h (.ref p), lstE h (.ref q) with
    | some xs, some ys => chk (decide (xs.length + ys.length ≤ sizeLine)) fun _ => newE (.lst (xs ++ ys)) h
    | _, _ => .bad)
  | _, _ => .bad
def cmulB (i j : Int) : Bool := (decide (-(2 ^ 64) < i) && decide (i < 2 ^ 64)) || (decide (-(2 ^ 64) < j) && decide (j < 2 ^ 64))
def mulE (x y : EV) (h : EH) : R EV := match x, y with
  | .int i, .int j => chk (cmulB i j) fun _ => .ok (.int (i * j)) h
  | .str z, .int k => chk (decide (z.length ≤ 16) && (decide (0 ≤ k) && decide (k ≤ 1048576))) fun _ => .ok (.str (Txt.mul z k)) h
  | .ref p, .int k => (match h[p]? with
    | some (.lst xs) => chk (decide (-(2 ^ 63) ≤ k) && (decide (k < 2 ^ 63) && decide (xs.length * k.toNat ≤ sizeLine))) fun _ => newE (.lst (List.replicate k.toNat xs).flatten) h
    | _ => .bad)
  | _, _ => .bad
def powB (i j : Int) : Bool := decide (0 ≤ j) && (decide (j ≤ 1000000) && decide (i.natAbs < 2 ^ 64))
def opE (o : Operator) (x y : EV) (h : EH) : R EV := match o with
  | .Add => addE x y h
  | .Sub => (match x, y with
    | .int i, .int j => .ok (.int (i - j)) h
    | _, _ => .bad)
  | .Mult => mulE x y h
  | .FloorDiv => (match x, y with
    | .int i, .int j => chk (decide (0 < j) && decide (j < 1073741824)) fun _ => .ok (.int (i / j)) h
    | _, _ => .bad)
  | .Mod => (match x, y with
    | .int i, .int j => chk (decide (0 < j)) fun _ => .ok (.int (i % j)) h
    | _, _ => .bad)
  | .Pow => (match x, y with
    | .int i, .int j => chk (powB i j) fun _ => .ok (.int (i ^ j.toNat)) h
    | _, _ => .bad)
  | .LShift => (match x, y with
    | .int i, .int j => chk (powB i j) fun _ => .ok (.int (i * 2 ^ j.toNat)) h
    | _, _ => .bad)
  | _ => .bad
def scE : EV → Option PyData
  | .non => some .none
  | .bl b => some (.bool b)
  | .int i => some (.int i)
  | _ => none
/-- one of two dicts is empty -/
def eq0E (x y : EV) (h : EH) : Option Bool := match x, y with
  | .ref a, .ref b => (match h[a]?, h[b]? with
    | some (.dct ks), some (.dct []) => some ks.isEmpty
    | some (.dct []), some (.dct ks) => some ks.isEmpty
    | _, _ => none)
  | _, _ => none
/-- how deep data may be -/
def deepE : Nat := 200
def eqE (neg : Bool) (x y : EV) (h : EH) : R Bool := match x, y with
  | .str i, .str j => .ok (decide (i = j) != neg) h
  | _, _ => (match scE x, scE y with
    | some d, some e => .ok (PyData.eqv d e != neg) h
    | _, _ => (match eq0E x y h with
      | some b => .ok (b != neg) h
      | none => (match toD h deepE x, toD h deepE y with
        | some d, some e => chk (SeqAt.shaped d && SeqAt.shaped e) fun _ => .ok (PyData.eqv d e != neg) h
        | _, _ => .bad)))
def ordE (p : Int → Int → Bool) (x y : EV) (h : EH) : R Bool := match x, y with
  | .int i, .int j => .ok (p i j) h
  | _, _ => .bad
def inE (neg : Bool) (x y : EV) (h : EH) : R Bool := match y with
  | .str j => (match x with
    | .str i => .ok ((!(Builtin.Str.occurrences j i 0 j.length 1).isEmpty) != neg) h
    | _ => .bad)
  | .tup ys => chk (flatE x && ys.all flatE) fun _ => .ok ((ys.any fun y => eqF y x) != neg) h
  | .ref p => (match h[p]? with
    | some (.lst ys) => chk (flatE x && ys.all flatE) fun _ => .ok ((ys.any fun y => eqF y x) != neg) h
    | some (.fls ys) => chk (flatE x && ys.all flatE) fun _ => .ok ((ys.any fun y => eqF y x) != neg) h
    | some (.dct kvs) => (match keyE x with
      | some k => .ok ((valE kvs k).isSome != neg) h
      | none => .bad)
    | _ => .bad)
  | _ => .bad
def isNon : EV → Bool
  | .non => true
  | _ => false
def isE (neg : Bool) (x y : EV) (h : EH) : R Bool := match x, y with
  | x, .non => .ok (isNon x != neg) h
  | .bl a, .bl b => .ok (decide (a = b) != neg) h
  | .ref p, .ref q => (match h[p]?, h[q]? with
    | some (.lst _), some (.lst _) => .ok (decide (p = q) != neg) h
    | some (.ins _ _), some (.ins _ _) => .ok (decide (p = q) != neg) h
    | some (.ins _ _), some (.lst _) => .ok (decide (p = q) != neg) h
    | some (.lst _), some (.ins _ _) => .ok (decide (p = q) != neg) h
    | _, _ => .bad)
  | _, _ => .bad
def cmpE (o : CmpOp) (x y : EV) (h : EH) : R Bool := match o with
  | .Eq => eqE false x y h
  | .NotEq => eqE true x y h
  | .Lt => ordE (fun i j => decide (i < j)) x y h
  | .LtE => ordE (fun i j => decide (i ≤ j)) x y h
  | .Gt => ordE (fun i j => decide (j < i)) x y h
  | .GtE => ordE (fun i j => decide (j ≤ i)) x y h
  | .In => inE false x y h
  | .NotIn => inE true x y h
  | .Is => isE false x y h
  | .IsNot => isE true x y h
/-! ### built-ins -/
def lenE (h : EH) : EV → Option Nat
  | .str x => if x.length ≤ sizeLine then some x.length else none
  | .tup xs => some xs.length
  | .ref a => (match h[a]? with
    | some (.lst xs) => some xs.length
    | some (.fls xs) => some xs.length
    | some (.dct kvs) => some kvs.length
    | _ => none)
  | _ => none
def sortedE (x : EV) (h : EH) : R EV := match x with
  | .ref a => (match h[a]? with
    | some (.dct kvs) => (match keysI kvs with
      | some ks => chk (decide (ks.length < 64)) fun _ => newE (.lst ((sortI ks).map .int)) h
      | none => (match keysS kvs with
        | some ks => chk (decide (ks.length < 64)) fun _ => newE (.lst ((sortS ks).map .str)) h
        | none => .bad))
    | some (.lst xs) => (match intsE xs with
      | some ns => newE (.lst ((sortI ns).map .int)) h
      | none => (match strsE xs with
        | some ss => chk (decide (ss.length < 64)) fun _ => newE (.lst ((sortS ss).map .str)) h
        | none => .bad))
    | _ => .bad)
  | _ => .bad
def isDct0 (h : EH) : EV → Bool
  | .ref a => (match h[a]? with
    | some (.dct []) => true
    | _ => false)
  | _ => false
def reprE (x : EV) (h : EH) : R EV := match toD h deepE x with
  | some d => chk (d.showable && (!d.hasDict && (decide (d.depth ≤ 60) && decide (d.shown.length ≤ sizeLine)))) fun _ => .ok (.str d.shown) h
  | none => chk (isDct0 h x) fun _ => .ok (.str "{}") h
def biE (b : Bi) (vs : List EV) (h : EH) : R EV := match b, vs with
  | .len, [x] => R.opt ((lenE h x).map fun (n : Nat) => EV.int (n : Int)) h
  | .int, [.int i] => .ok (.int i) h
  | .int, [.bl k] => .ok (.int (if k then 1 else 0)) h
  | .int, [.str a] => chk (decide (a.length ≤ 640)) fun _ => R.opt ((PySem.intText? a).map .int) h
  | .bool, [.int i] => .ok (.bl (i != 0)) h
  | .bool, [.bl k] => .ok (.bl k) h
  | .str, [.int i] => chk (decide (i.natAbs.log2 < 1920)) fun _ => .ok (.str (toString i)) h
  | .repr, [x] => reprE x h
  | .min, [.int i, .int j] => .ok (.int (if j < i then j else i)) h
  | .max, [.int i, .int j] => .ok (.int (if j > i then j else i)) h
  | .abs, [.int i] => .ok (.int (if i < 0 then -i else i)) h
  | .sum, [x] => R.opt (((lstE h x).bind intsE).map fun ns => .int ns.sum) h
  | .any, [x] => R.opt (((lstE h x).bind blsE).map fun bs => .bl (bs.any id)) h
  | .all, [x] => R.opt (((lstE h x).bind blsE).map fun bs => .bl (bs.all id)) h
  | .list, [x] => (match seqE h x with
    | some xs => chk (decide (xs.length ≤ sizeLine)) fun _ => newE (.lst xs) h
    | none => .bad)
  | .tuple, [x] => R.opt ((seqE h x).map .tup) h
  | .sorted, [x] => sortedE x h
  | _, _ => .bad
def idxE (x y : EV) (h : EH) : R EV := match x, y with
  | .tup xs, .int i => R.opt (atI xs i) h
  | .ref p, .int i => (match h[p]? with
    | some (.lst xs) => R.opt (atI xs i) h
    | some (.fls xs) => R.opt (atI xs i) h
    | some (.dct kvs) => R.opt (valE kvs (.inl i)) h
    | _ => .bad)
  | .ref p, .str z => (match h[p]? with
    | some (.dct kvs) => R.opt (valE kvs (.inr z)) h
    | _ => .bad)
  | .str z, .int i => chk (decide (z.length ≤ sizeLine)) fun _ => R.opt ((atI z.cps.toList i).map fun c => .str ⟨#[c]⟩) h
  | _, _ => .bad
def slcE (x : EV) (lo hi : Option Int) (h : EH) : R EV := match x with
  | .tup xs => .ok (.tup (cutE xs lo hi)) h
  | .str z => chk (decide (z.length ≤ sizeLine)) fun _ => .ok (.str (cutS z lo hi)) h
  | x => (match lstE h x with
    | some xs => newE (.lst (cutE xs lo hi)) h
    | none => .bad)
/-- o[i] = v -/
def setE (o i v : EV) (h : EH) : R Unit := match o, i with
  | .ref p, .int k => (match h[p]? with
    | some (.lst xs) => (match ixN xs.length k with
      | some j => .ok () (h.set p (.lst (xs.set j v)))
      | none => .bad)
    | some (.dct kvs) => chk (decide (kvs.length < sizeLine)) fun _ => .ok () (h.set p (.dct (putE kvs (.inl k) v)))
    | _ => .bad)
  | .ref p, .str z => (match h[p]? with
    | some (.dct kvs) => chk (decide (kvs.length < sizeLine)) fun _ => .ok () (h.set p (.dct (putE kvs (.inr z) v)))
    | _ => .bad)
  | _, _ => .bad
def bmTyE (m : Bm) (x : EV) (h : EH) : Bool := match x with
  | .ref p => (match h[p]?, bmD m with
    | some (.dct _), true => true
    | some (.lst _), false => true
    | _, _ => false)
  | _ => false
def bmE (m : Bm) (x : EV) (vs : List EV) (h : EH) : R EV := match x with
  | .ref p => (match h[p]?, m, vs with
    | some (.lst ys), .count, [k] => chk (flatE k && ys.all flatE) fun _ => .ok (.int (ys.countP fun y => eqF y k : Nat)) h
    | some (.lst ys), .append, [v] => chk (decide (ys.length < sizeLine)) fun _ => .ok .non (h.set p (.lst (ys ++ [v])))
    | some (.lst ys), .insert, [.int i, v] => chk (decide (i = 0) && decide (ys.length < sizeLine)) fun _ => .ok .non (h.set p (.lst (v :: ys)))
    | some (.lst ys), .remove, [.int k] => (match intsE ys with
      | some ns => chk (ns.contains k) fun _ => .ok .non (h.set p (.lst ((ns.erase k).map .int)))
      | none => .bad)
    | some (.lst ys), .extend, [.ref q] => (match h[q]? with
      | some (.lst zs) => chk (decide (ys.length + zs.length ≤ sizeLine)) fun _ => .ok .non (h.set p (.lst (ys ++ zs)))
      | _ => .bad)
    | some (.dct kvs), .dpop1, [y] => (match keyE y with
      | some k => (match valE kvs k with
        | some v => .ok v (h.set p (.dct (dropE kvs k)))
        | none => .bad)
      | none => .bad)
    | some (.dct kvs), .dpop2, [y, z] => (match keyE y with
      | some k => (match valE kvs k with
        | some v => .ok v (h.set p (.dct (dropE kvs k)))
        | none => .ok z h)
      | none => .bad)
    | some (.dct kvs), .dget1, [y] => (match keyE y with
      | some k => .ok ((valE kvs k).getD .non) h
      | none => .bad)
    | some (.dct kvs), .dget2, [y, z] => (match keyE y with
      | some k => .ok ((valE kvs k).getD z) h
      | none => .bad)
    | _, _, _ => .bad)
  | _ => .bad
section
variable (E : ES) (F : Str → List EV → EH → R EV)
def fldE (f : Str) (x : EV) (h : EH) : R EV := match x with
  | .ref p => (match h[p]? with
    | some (.ins c fs) => chk (E.fl c f) fun _ => R.opt (lookK f fs) h
    | _ => .bad)
  | .exc c g v => chk (E.xf c f && g == f) fun _ => .ok v h
  | _ => .bad
def isxE (c : Str) (x : EV) (h : EH) : Option Bool := match x with
  | .exc d _ _ => E.isa d c
  | .exc0 d => E.isa d c
  | .ref p => (match h[p]? with
    | some (.ins d _) => E.iso d c
    | some (.lst _) => if E.isb c = true then some false else none
    | some (.dct _) => if E.isb c = true then some false else none
    | _ => none)
  | _ => if E.isb c = true then some false else none
def mkxE (c : Str) (vs : List EV) (h : EH) : R EV := match E.xc c, vs with
  | some (some g), [v] => .ok (.exc c g v) h
  | some none, [] => .ok (.exc0 c) h
  | _, _ => .bad
def pmE (pm : List (Nat ⊕ EV)) (vs : List EV) : Option (List EV) := pm.mapM fun p => match p with
  | .inl i => vs[i]?
  | .inr v => some v
def mkE (c : Str) (ks : List Str) (vs : List EV) (h : EH) : R EV := match E.mkc c vs.length ks with
  | some (g, pm) => (match pmE pm vs with
    | some ws => (F g (.ref h.length :: ws) (h ++ [.ins c []])).bind fun v h' => (match v with
      | .non => .ok (.ref h.length) h'
      | _ => .bad)
    | none => .bad)
  | none => .bad
def metE (m : Str) (x : EV) (h : EH) : Option Str := match x with
  | .ref p => (match h[p]? with
    | some (.ins c fs) => (match lookK m fs with
      | none => E.mt c m
      | some _ => none)
    | _ => none)
  | _ => none
def varE (i : Nat) (σ : ESt) (h : EH) : R EV := match σ[i]? with
  | some (some v) => .ok v h
  | _ => .bad
def setLE : List Nat → List EV → ESt → Option ESt
  | [], [], σ => some σ
  | i :: is, v :: vs, σ => setLE is vs (σ.set i (some v))
  | _, _, _ => none
def gE (t : Tg) (x : EV) (σ : ESt) : Option ESt := match t, x with
  | .nm i, x => some (σ.set i (some x))
  | .tp is, .tup xs => setLE is xs σ
  | _, _ => none
def wipeE (σ : ESt) : List Nat → ESt
  | [] => σ
  | v :: vs => (wipeE σ vs).set v none
/-- what must stay: lists that are walked -/
def keepsE (kp : List (Nat × EO)) (h : EH) : Bool := kp.all fun p => match h[p.1]? with
  | some o => beqO o p.2
  | none => false
def enE (i : Nat) : List EV → List EV
  | [] => []
  | x :: r => .tup [.int (i : Nat), x] :: enE (i + 1) r
def ziE : List EV → List EV → List EV
  | x :: r, y :: q => .tup [x, y] :: ziE r q
  | _, _ => []
/-- a text's signs -/
def chE (z : Str) : List EV := z.cps.toList.map fun c => .str ⟨#[c]⟩
/-- a walked list: its items, and that it stays -/
def walkE (x : EV) (h : EH) : R (List EV × List (Nat × EO)) := match x with
  | .tup xs => .ok (xs, []) h
  | .ref a => (match h[a]? with
    | some (.lst xs) => .ok (xs, [(a, .lst xs)]) h
    | some (.fls xs) => .ok (xs, [(a, .fls xs)]) h
    | _ => .bad)
  | _ => .bad
def walkQ (x : EV) (h : EH) : R (List EV × List (Nat × EO)) := match x with
  | .tup _ => .bad
  | x => walkE x h
/-- the turns of a list comprehension -/
def lcE (kp : List (Nat × EO)) (t : Tg) (te : ESt → EH → R Bool) (ee : ESt → EH → R EV) (σ : ESt) : List EV → List EV → EH → R (List EV)
  | [], acc, h => chk (keepsE kp h) fun _ => .ok acc h
  | x :: r, acc, h => chk (keepsE kp h && decide (acc.length < sizeLine)) fun _ => (match gE t x σ with
    | some σ' => (te σ' h).nox.bind fun b h1 => cnd b (fun _ => (ee σ' h1).nox.bind fun y h2 => lcE kp t te ee σ r (acc ++ [y]) h2) (fun _ => lcE kp t te ee σ r acc h1)
    | none => .bad)
/-- the turns of an outer clause -/
def lgE (kp : List (Nat × EO)) (t : Tg) (te : ESt → EH → R Bool) (body : ESt → List EV → EH → R (List EV)) (σ : ESt) : List EV → List EV → EH → R (List EV)
  | [], acc, h => chk (keepsE kp h) fun _ => .ok acc h
  | x :: r, acc, h => chk (keepsE kp h) fun _ => (match gE t x σ with
    | some σ' => (te σ' h).nox.bind fun b h1 => cnd b (fun _ => (body σ' acc h1).nox.bind fun acc' h2 => lgE kp t te body σ r acc' h2) (fun _ => lgE kp t te body σ r acc h1)
    | none => .bad)
/-- the turns of a dict comprehension -/
def dcE (kp : List (Nat × EO)) (t : Tg) (te : ESt → EH → R Bool) (ke ve : ESt → EH → R EV) (σ : ESt) : List EV → List (Key × EV) → EH → R (List (Key × EV))
  | [], acc, h => chk (keepsE kp h) fun _ => .ok acc h
  | x :: r, acc, h => chk (keepsE kp h && decide (acc.length < sizeLine)) fun _ => (match gE t x σ with
    | some σ' => (te σ' h).nox.bind fun b h1 => cnd b (fun _ => (ke σ' h1).nox.bind fun y h2 => (ve σ' h2).nox.bind fun z h3 => (match keyE y with
      | some k => dcE kp t te ke ve σ r (putE acc k z) h3
      | none => .bad)) (fun _ => dcE kp t te ke ve σ r acc h1)
    | none => .bad)
def prsE : List (EV × EV) → Option (List (Key × EV))
  | [] => some []
  | (k, v) :: r => match keyE k, prsE r with
    | some k, some l => some ((k, v) :: l)
    | _, _ => none
def mergeE (kvs more : List (Key × EV)) : List (Key × EV) := more.foldl (fun acc kv => putE acc kv.1 kv.2) kvs
def rgB (l h : Int) : Bool := decide (-(2 ^ 62) ≤ l) && (decide (l < 2 ^ 62) && (decide (-(2 ^ 62) ≤ h) && (decide (h < 2 ^ 62) && decide ((h - l).toNat ≤ 2 ^ 24))))
def rgE (l h : Int) : List EV := (List.range (h - l).toNat).map fun i => .int (l + (i : Nat))
def gdE (x : Str) (y : EV) : Option (Option EV) := match E.gd x, y with
  | some l, .str z => some (l.lookup z)
  | _, _ => none
mutual
def evE : Ex → ESt → EH → R EV
  | .var i => fun σ h => varE i σ h
  | .lit v => fun _ h => (match v with
    | .non => .ok .non h
    | .bl b => .ok (.bl b) h
    | .int i => .ok (.int i) h
    | .str x => .ok (.str x) h
    | _ => .bad)
  | .cst x => fun _ h => R.opt (E.gv x) h
  | .op o a b => fun σ h => (evE a σ h).bind fun x h1 => (evE b σ h1).bind fun y h2 => opE o x y h2
  | .neg a => fun σ h => (evE a σ h).bind fun x h1 => (match x with
    | .int i => .ok (.int (-i)) h1
    | _ => .bad)
  | .cmp o a b => fun σ h => (evE a σ h).bind fun x h1 => (evE b σ h1).bind fun y h2 => (cmpE o x y h2).bind fun k h3 => .ok (.bl k) h3
  | .chn o o' a b c => fun σ h => (evE a σ h).bind fun x h1 => (evE b σ h1).bind fun y h2 => (cmpE o x y h2).bind fun k h3 => cnd k (fun _ => (evE c σ h3).bind fun z h4 => (cmpE o' y z h4).bind fun k2 h5 => .ok (.bl k2) h5) (fun _ => .ok (.bl false) h3)
  | .and a b => fun σ h => (evE a σ h).bind fun x h1 => (R.opt (truE h1 x) h1).bind fun k h2 => cnd k (fun _ => evE b σ h2) (fun _ => .ok x h2)
  | .or a b => fun σ h => (evE a σ h).bind fun x h1 => (R.opt (truE h1 x) h1).bind fun k h2 => cnd k (fun _ => .ok x h2) (fun _ => evE b σ h2)
  | .not a => fun σ h => (evE a σ h).bind fun x h1 => (R.opt (truE h1 x) h1).bind fun k h2 => .ok (.bl (!k)) h2
  | .ite t a b => fun σ h => (evT t σ h).bind fun k h1 => cnd k (fun _ => evE a σ h1) (fun _ => evE b σ h1)
  | .fld o f => fun σ h => (evE o σ h).bind fun x h1 => fldE E f x h1
  | .idx o i => fun σ h => (evE o σ h).bind fun x h1 => (evE i σ h1).bind fun y h2 => idxE x y h2
  | .slc o lo hi => fun σ h => (evE o σ h).bind fun x h1 => (evO lo σ h1).bind fun a h2 => (evO hi σ h2).bind fun b h3 => slcE x a b h3
  | .lst es => fun σ h => (evA es σ h).bind fun xs h1 => chk (decide (xs.length ≤ sizeLine)) fun _ => newE (.lst xs) h1
  | .tup es => fun σ h => (evA es σ h).bind fun xs h1 => chk (decide (xs.length ≤ sizeLine)) fun _ => .ok (.tup xs) h1
  | .fn f es => fun σ h => (evA es σ h).bind fun vs h1 => F f vs h1
  | .bi b es => fun σ h => (evA es σ h).bind fun vs h1 => biE b vs h1
  | .isi e T => fun σ h => (evE e σ h).bind fun x h1 => (R.opt (btE h1 T x) h1).bind fun k h2 => .ok (.bl k) h2
  | .isx e c => fun σ h => (evE e σ h).bind fun x h1 => (R.opt (isxE E c x h1) h1).bind fun k h2 => .ok (.bl k) h2
  | .mkx c es => fun σ h => (evA es σ h).bind fun vs h1 => mkxE E c vs h1
  | .dct0 => fun _ h => newE (.dct []) h
  | .met o m es => fun σ h => (evE o σ h).bind fun x h1 => (R.opt (metE E m x h1) h1).bind fun g h2 => (evA es σ h2).bind fun vs h3 => F g (x :: vs) h3
  | .bm m o es => fun σ h => (evE o σ h).bind fun x h1 => chk (bmTyE m x h1) fun _ => (evA es σ h1).bind fun vs h2 => bmE m x vs h2
  | .mkC c ks es => fun σ h => (evA es σ h).bind fun vs h1 => mkE E F c ks vs h1
  | .lc t s c e vs => fun σ h => (evI s σ h).bind fun p h1 => (lcE p.2 t (evT c) (evE e) (wipeE σ vs) p.1 [] h1).nox.bind fun xs h2 => newE (.lst xs) h2
  | .lc2 t s c t1 s1 c1 e vs vs1 => fun σ h => (evI s σ h).bind fun p h1 => (lgE p.2 t (evT c) (fun σ2 acc h3 => (evI s1 σ2 h3).nox.bind fun q h4 => lcE q.2 t1 (evT c1) (evE e) (wipeE σ2 vs1) q.1 acc h4) (wipeE σ vs) p.1 [] h1).nox.bind fun xs h2 => newE (.lst xs) h2
  | .nev => fun _ _ => .bad
  | .dsp ps => fun σ h => (evP ps σ h).bind fun qs h1 => (match prsE qs with
    | some kvs => chk (decide (kvs.length ≤ 15)) fun _ => newE (.dct (mergeE [] kvs)) h1
    | none => .bad)
  | .dc t s c k v vs => fun σ h => (evI s σ h).bind fun p h1 => (dcE p.2 t (evT c) (evE k) (evE v) (wipeE σ vs) p.1 [] h1).nox.bind fun xs h2 => newE (.dct xs) h2
  | .isi2 e T U => fun σ h => (evE e σ h).bind fun x h1 => (match btE h1 T x, btE h1 U x with
    | some a, some b => .ok (.bl (a || b)) h1
    | _, _ => .bad)
  | .lrg lo hi => fun σ h => (evE lo σ h).bind fun x h1 => (evE hi σ h1).bind fun y h2 => (match x, y with
    | .int l, .int u => chk (rgB l u) fun _ => newE (.lst (rgE l u)) h2
    | _, _ => .bad)
  | .gin neg x e => fun σ h => (evE e σ h).bind fun y h1 => (R.opt (gdE E x y) h1).bind fun o h2 => .ok (.bl (o.isSome != neg)) h2
  | .gix x e => fun σ h => (evE e σ h).bind fun y h1 => (R.opt (gdE E x y) h1).bind fun o h2 => R.opt o h2
def evP : Prs → ESt → EH → R (List (EV × EV))
  | .nil => fun _ h => .ok [] h
  | .cons k v r => fun σ h => (evE k σ h).bind fun x h1 => (evE v σ h1).bind fun y h2 => (evP r σ h2).bind fun ps h3 => .ok ((x, y) :: ps) h3
def evI : Sr → ESt → EH → R (List EV × List (Nat × EO))
  | .rng lo hi => fun σ h => (evE lo σ h).bind fun x h1 => (evE hi σ h1).bind fun y h2 => (match x, y with
    | .int l, .int u => .ok (rgE l u, []) h2
    | _, _ => .bad)
  | .val e => fun σ h => (evE e σ h).bind fun x h1 => walkE x h1
  | .enm e => fun σ h => (evE e σ h).bind fun x h1 => (walkQ x h1).bind fun p h2 => .ok (enE 0 p.1, p.2) h2
  | .zip a b => fun σ h => (evE a σ h).bind fun x h1 => (evE b σ h1).bind fun y h2 => (walkQ x h2).bind fun p h3 => (walkQ y h3).bind fun q h4 => .ok (ziE p.1 q.1, p.2 ++ q.2) h4
  | .zst a b => fun σ h => (evE a σ h).bind fun x h1 => (evE b σ h1).bind fun y h2 => (walkQ x h2).bind fun p h3 => (match y with
    | .str z => chk (decide (p.1.length = z.cps.size) && asciiB z) fun _ => .ok (ziE p.1 (chE z), p.2) h3
    | _ => .bad)
def evA : Exs → ESt → EH → R (List EV)
  | .nil => fun _ h => .ok [] h
  | .cons e es => fun σ h => (evE e σ h).bind fun x h1 => (evA es σ h1).bind fun xs h2 => .ok (x :: xs) h2
def evO : Ox → ESt → EH → R (Option Int)
  | .none => fun _ h => .ok none h
  | .some e => fun σ h => (evE e σ h).bind fun x h1 => (match x with
    | .int i => .ok (some i) h1
    | _ => .bad)
def evT : Te → ESt → EH → R Bool
  | .val e => fun σ h => (evE e σ h).bind fun x h1 => R.opt (truE h1 x) h1
  | .cmp o a b => fun σ h => (evE a σ h).bind fun x h1 => (evE b σ h1).bind fun y h2 => cmpE o x y h2
  | .chn o o' a b c => fun σ h => (evE a σ h).bind fun x h1 => (evE b σ h1).bind fun y h2 => (cmpE o x y h2).bind fun k h3 => cnd k (fun _ => (evE c σ h3).bind fun z h4 => cmpE o' y z h4) (fun _ => .ok false h3)
  | .and a b => fun σ h => (evT a σ h).bind fun k h1 => cnd k (fun _ => evT b σ h1) (fun _ => .ok false h1)
  | .or a b => fun σ h => (evT a σ h).bind fun k h1 => cnd k (fun _ => .ok true h1) (fun _ => evT b σ h1)
  | .not a => fun σ h => (evT a σ h).bind fun k h1 => .ok (!k) h1
  | .yes => fun _ h => .ok true h
  | .gin neg x e => fun σ h => (evE e σ h).bind fun y h1 => (R.opt (gdE E x y) h1).bind fun o h2 => .ok (o.isSome != neg) h2
end
/-! ### heaps looked through: the kernel then sees them plain -/
def fcN {β : Type} (n : Nat) (k : Nat → β) : β := match n with
  | 0 => k 0
  | m + 1 => k (m + 1)
theorem fcN_eq {β : Type} (n : Nat) (k : Nat → β) : fcN n k = k n := by cases n <;> rfl
def fcI {β : Type} (n : Int) (k : Int → β) : β := match n with
  | .ofNat m => fcN m fun m => k (.ofNat m)
  | .negSucc m => fcN m fun m => k (.negSucc m)
theorem fcI_eq {β : Type} (n : Int) (k : Int → β) : fcI n k = k n := by cases n <;> simp only [fcI, fcN_eq]
def fcB {β : Type} (n : Bool) (k : Bool → β) : β := match n with
  | true => k true
  | false => k false
theorem fcB_eq {β : Type} (n : Bool) (k : Bool → β) : fcB n k = k n := by cases n <;> rfl
def fcL {α β : Type} (f : α → (α → β) → β) : List α → (List α → β) → β
  | [], k => k []
  | x :: r, k => f x fun y => fcL f r fun ys => k (y :: ys)
theorem fcL_eq {α β : Type} {f : α → (α → β) → β} (hf : ∀ x k, f x k = k x) : ∀ (l : List α) (k : List α → β), fcL f l k = k l
  | [], _ => rfl
  | x :: r, k => by rw [fcL, hf, fcL_eq hf r]
def fcV {β : Type} (v : EV) (k : EV → β) : β := match v with
  | .non => k .non
  | .bl b => fcB b fun b => k (.bl b)
  | .int i => fcI i fun i => k (.int i)
  | .ref a => fcN a fun a => k (.ref a)
  | .str x => k (.str x)
  | .tup xs => k (.tup xs)
  | .exc c f v => k (.exc c f v)
  | .exc0 c => k (.exc0 c)
theorem fcV_eq {β : Type} (v : EV) (k : EV → β) : fcV v k = k v := by
  cases v <;> simp only [fcV, fcB_eq, fcI_eq, fcN_eq]
def fcP {κ β : Type} (v : κ × EV) (k : κ × EV → β) : β := match v with
  | (a, x) => fcV x fun x => k (a, x)
theorem fcP_eq {κ β : Type} (v : κ × EV) (k : κ × EV → β) : fcP v k = k v := by
  obtain ⟨a, x⟩ := v
  simp only [fcP, fcV_eq]
def fcO {β : Type} (v : EO) (k : EO → β) : β := match v with
  | .lst xs => fcL fcV xs fun xs => k (.lst xs)
  | .fls xs => k (.fls xs)
  | .dct xs => fcL fcP xs fun xs => k (.dct xs)
  | .ins c xs => fcL fcP xs fun xs => k (.ins c xs)
theorem fcO_eq {β : Type} (v : EO) (k : EO → β) : fcO v k = k v := by
  cases v with
  | lst xs => simp only [fcO, fcL_eq fcV_eq]
  | fls xs => rfl
  | dct xs => simp only [fcO, fcL_eq fcP_eq]
  | ins c xs => simp only [fcO, fcL_eq fcP_eq]
def fcE {β : Type} (v : Option EV) (k : Option EV → β) : β := match v with
  | some x => fcV x fun x => k (some x)
  | none => k none
theorem fcE_eq {β : Type} (v : Option EV) (k : Option EV → β) : fcE v k = k v := by
  cases v with
  | none => rfl
  | some x => simp only [fcE, fcV_eq]
def fcH {β : Type} (h : EH) (k : EH → β) : β := fcL fcO h k
def fcS {β : Type} (h : ESt) (k : ESt → β) : β := fcL fcE h k
theorem fcH_eq {β : Type} (h : EH) (k : EH → β) : fcH h k = k h := fcL_eq fcO_eq _ _
theorem fcS_eq {β : Type} (h : ESt) (k : ESt → β) : fcS h k = k h := fcL_eq fcE_eq _ _
/-! ### statements -/
inductive RS where
  | nx (σ : ESt) (h : EH)
  | rt (v : EV) (h : EH)
  | ex (c : Str) (d : Option (Str × EV)) (σ : ESt) (h : EH)
  | bad
def R.st {α : Type} (r : R α) (σ : ESt) (f : α → EH → RS) : RS := match r with
  | .ok a h => f a h
  | .ex c d h => .ex c d σ h
  | .bad => .bad
def RS.bind (r : RS) (f : ESt → EH → RS) : RS := match r with
  | .nx σ h => f σ h
  | .rt v h => .rt v h
  | .ex c d σ h => .ex c d σ h
  | .bad => .bad
/-- the answer of a def -/
def RS.ans (r : RS) : R EV := match r with
  | .nx _ h => .ok .non h
  | .rt v h => .ok v h
  | .ex c d _ h => .ex c d h
  | .bad => .bad
def optS (o : Option ESt) (h : EH) : RS := match o with
  | some σ => .nx σ h
  | none => .bad
def chkS (b : Bool) (r : Unit → RS) : RS := match b with
  | true => r ()
  | false => .bad
def setFE (f : Str) (x y : EV) (h : EH) : R Unit := match x with
  | .ref a => (match h[a]? with
    | some (.ins c fs) => chk (E.fl c f && decide (fs.length < 1000)) fun _ => .ok () (h.set a (.ins c (putFE f y fs)))
    | _ => .bad)
  | _ => .bad
def augE (o : Operator) (v x : EV) (h : EH) : R EV := match o, v, x with
  | .Add, .int i, .int j => .ok (.int (i + j)) h
  | .Sub, .int i, .int j => .ok (.int (i - j)) h
  | _, _, _ => .bad
/-- the value of xs[i], xs a list, i from 0 on -/
def augIE (x y : EV) (h : EH) : R EV := match x, y with
  | .ref a, .int i => (match h[a]? with
    | some (.lst xs) => chk (decide (0 ≤ i)) fun _ => R.opt xs[i.toNat]? h
    | _ => .bad)
  | _, _ => .bad
def augFE (f : Str) (x : EV) (h : EH) : R EV := match x with
  | .ref _ => fldE E f x h
  | _ => .bad
/-- its class is the same still -/
def sameC (x : EV) (h h' : EH) : Bool := match x with
  | .ref a => (match h[a]?, h'[a]? with
    | some (.ins c _), some (.ins d _) => c == d
    | _, _ => false)
  | _ => false
def isaE (c : Str) : List Str → Option Bool
  | [] => some false
  | d :: r => match E.isa c d, isaE c r with
    | some b, some e => some (b || e)
    | _, _ => none
/-- an exception as a value -/
def excV (c : Str) (d : Option (Str × EV)) : EV := match d with
  | some (f, v) => .exc c f v
  | none => .exc0 c
def raiE (c : Str) (vs : List EV) (σ : ESt) (h : EH) : RS := match E.xc c, vs with
  | some (some g), [v] => .ex c (some (g, v)) σ h
  | _, _ => .bad
def loE (kp : List (Nat × EO)) (t : Tg) (body : ESt → EH → RS) : List EV → ESt → EH → RS
  | [], σ, h => chkS (keepsE kp h) fun _ => .nx σ h
  | x :: r, σ, h => chkS (keepsE kp h) fun _ => (match gE t x σ with
    | some σ' => (body σ' h).bind fun σ2 h2 => loE kp t body r σ2 h2
    | none => .bad)
def whE (t : ESt → EH → R Bool) (body : ESt → EH → RS) : Nat → ESt → EH → RS
  | 0, _, _ => .bad
  | m + 1, σ, h => (t σ h).st σ fun k h1 => cnd k (fun _ => (body σ h1).bind fun σ2 h2 => whE t body m σ2 h2) (fun _ => .nx σ h1)
def tryE (r : RS) (cs : List Str) (i j : Nat) : RS := match r with
  | .ex c d σ h => (match isaE E c cs with
    | some true => .nx ((σ.set j (some (excV c d))).set i none) h
    | _ => .bad)
  | r => r
def lvE (t : Lv) (v : EV) (σ : ESt) (h : EH) : RS := match t with
  | .nm i => .nx (σ.set i (some v)) h
  | .sub o i => (evE E F o σ h).st σ fun y h1 => (evE E F i σ h1).st σ fun z h2 => (setE y z v h2).st σ fun _ h3 => .nx σ h3
  | .fld o f => (evE E F o σ h).st σ fun x h1 => (setFE E f x v h1).st σ fun _ h2 => .nx σ h2
def lvsE : List Lv → List EV → ESt → EH → RS
  | [], [], σ, h => .nx σ h
  | t :: ts, v :: vs, σ, h => (lvE E F t v σ h).bind fun σ' h' => lvsE ts vs σ' h'
  | _, _, _, _ => .bad
/-- how often a while turns at most -/
def fuE : Nat := 100000
mutual
def evS : Sx → ESt → EH → RS
  | .asg i e => fun σ h => (evE E F e σ h).st σ fun x h1 => .nx (σ.set i (some x)) h1
  | .setI o i e => fun σ h => (evE E F e σ h).st σ fun x h1 => (evE E F o σ h1).st σ fun y h2 => (evE E F i σ h2).st σ fun z h3 => (setE y z x h3).st σ fun _ h4 => .nx σ h4
  | .setF o f e => fun σ h => (evE E F e σ h).st σ fun y h1 => (evE E F o σ h1).st σ fun x h2 => (setFE E f x y h2).st σ fun _ h3 => .nx σ h3
  | .par is es => fun σ h => (evA E F es σ h).st σ fun vs h1 => optS (setLE is vs σ) h1
  | .exp e => fun σ h => (evE E F e σ h).st σ fun _ h1 => .nx σ h1
  | .ret e => fun σ h => (evE E F e σ h).st σ fun v h1 => .rt v h1
  | .retN => fun _ h => .rt .non h
  | .ifs t a b => fun σ h => (evT E F t σ h).st σ fun k h1 => cnd k (fun _ => evSs a σ h1) (fun _ => evSs b σ h1)
  | .rng i lo hi b => fun σ h => (evE E F lo σ h).st σ fun x h1 => (evE E F hi σ h1).st σ fun y h2 => (match x, y with
    | .int l, .int u => loE [] (.nm i) (evSs b) (rgE l u) σ h2
    | _, _ => .bad)
  | .forL t e b => fun σ h => (evE E F e σ h).st σ fun x h1 => (walkQ x h1).st σ fun p h2 => loE p.2 t (evSs b) p.1 σ h2
  | .forS t s b => fun σ h => (evI E F s σ h).st σ fun p h1 => loE p.2 t (evSs b) p.1 σ h1
  | .whl t b => fun σ h => whE (evT E F t) (evSs b) fuE σ h
  | .pass => fun σ h => .nx σ h
  | .never => fun _ _ => .bad
  | .rai c es => fun σ h => (evA E F es σ h).st σ fun vs h1 => raiE E c vs σ h1
  | .trx b cs i j => fun σ h => tryE E (evSs b σ h) cs i j
  | .unp is e => fun σ h => (evE E F e σ h).st σ fun x h1 => optS (gE (.tp is) x σ) h1
  | .aug i o e => fun σ h => (varE i σ h).st σ fun v h1 => (evE E F e σ h1).st σ fun x h2 => (augE o v x h2).st σ fun y h3 => .nx (σ.set i (some y)) h3
  | .augF o f op e => fun σ h => (evE E F o σ h).st σ fun x h1 => (augFE E f x h1).st σ fun v h2 => (evE E F e σ h2).st σ fun y h3 => (augE op v y h3).st σ fun z h4 => chkS (sameC x h1 h4) fun _ => (setFE E f x z h4).st σ fun _ h5 => .nx σ h5
  | .augI o i op e => fun σ h => (evE E F o σ h).st σ fun x h1 => (evE E F i σ h1).st σ fun y h2 => (augIE x y h2).st σ fun v h3 => (evE E F e σ h3).st σ fun u h4 => (augE op v u h4).st σ fun z h5 => (setE x y z h5).st σ fun _ h6 => .nx σ h6
  | .asgT ts e => fun σ h => (evE E F e σ h).st σ fun x h1 => (match seqE h1 x with
    | some xs => chkS (decide (xs.length = ts.length)) fun _ => lvsE E F ts xs σ h1
    | none => .bad)
  | .unpS is r e => fun σ h => (evE E F e σ h).st σ fun x h1 => (match seqE h1 x with
    | some xs => chkS (decide (is.length ≤ xs.length) && decide (xs.length ≤ 16384)) fun _ => optS (setLE (is ++ [r]) (xs.take is.length ++ [.ref h1.length]) σ) (h1 ++ [.lst (xs.drop is.length)])
    | none => .bad)
def evSs : Sxs → ESt → EH → RS
  | .nil => fun σ h => .nx σ h
  | .cons s r => fun σ h => (evS s σ h).bind fun σ' h' => evSs r σ' h'
end
end
/-- the slots at the start -/
def startE (N : List Str) (vs : List EV) : ESt := vs.map some ++ List.replicate (N.length - vs.length) none
def evF (E : ES) (T : Str → Option FnI) : Nat → Str → List EV → EH → R EV
  | 0 => fun _ _ _ => .bad
  | n + 1 => fun f vs h => match T f with
    | some fi => chk (decide (vs.length = fi.np)) fun _ => fcS (startE fi.N vs) fun σ => (evSs E (evF E T n) fi.body σ h).ans
    | none => .bad
end QL
set_option Elab.async false
set_option linter.all false
set_option maxRecDepth 100000
set_option maxHeartbeats 4000000
/-! E2: what an own heap says of an abstract one. -/
namespace QL
open PySem PySem.Spec
open L2 hiding wE wT
open PyProof.Rows hiding St
/-- places led to addresses of an abstract heap -/
structure Kc where
  n : Nat
  ρ : Nat → Addr
  H : Hp
/-- the classes, by their names -/
structure Nm where
  so : Addr → Option HO
  cl : Str → Option Addr
section
variable (N : Nm)
mutual
inductive Rl (k : Kc) : EV → V → Prop
  | non : Rl k .non .non
  | bl (b : Bool) : Rl k (.bl b) (.bl b)
  | int (i : Int) : Rl k (.int i) (.int i)
  | str (x : Str) : Rl k (.str x) (.str x)
  | ref {a : Nat} : a < k.n → Rl k (.ref a) (.ref (k.ρ a))
  | tup {p : Addr} {xs : List EV} {vs : List V} : rd N.so k.H p = some (.tup vs) → Rls k xs vs → Rl k (.tup xs) (.ref p)
  | exc {p C : Addr} {c f : Str} {v : EV} {w : V} : Xat k.H p C [(f, w)] → N.cl c = some C → Rl k v w → Rl k (.exc c f v) (.ref p)
  | exc0 {p C : Addr} {c : Str} : Xat k.H p C [] → N.cl c = some C → Rl k (.exc0 c) (.ref p)
inductive Rls (k : Kc) : List EV → List V → Prop
  | nil : Rls k [] []
  | cons {v : EV} {w : V} {vs : List EV} {ws : List V} : Rl k v w → Rls k vs ws → Rls k (v :: vs) (w :: ws)
end
def Rkv {κ : Type} (k : Kc) : List (κ × EV) → List (κ × V) → Prop := Paired fun p q => p.1 = q.1 ∧ Rl N k p.2 q.2
def Rst (k : Kc) : ESt → St → Prop := Paired fun p q => match p, q with
  | some v, some w => Rl N k v w
  | none, _ => True
  | some _, none => False
def ObR (k : Kc) (p : Addr) : EO → Prop
  | .lst xs => ∃ vs, k.H p = some (.lst vs) ∧ Rls N k xs vs
  | .fls xs => ∃ vs, rd N.so k.H p = some (.lst vs) ∧ (∀ u, k.H p = some u → ∃ o w, u = .frz o w) ∧ Rls N k xs vs
  | .dct kvs => ∃ ws, k.H p = some (.dK ws) ∧ Rkv N k kvs ws
  | .ins c fs => ∃ C dx ws, k.H p = some (.ins C dx ws) ∧ N.cl c = some C ∧ Rkv N k fs ws
structure Sim (k : Kc) (h : EH) : Prop where
  len : h.length = k.n
  inj : ∀ a b, a < k.n → b < k.n → k.ρ a = k.ρ b → a = b
  obj : ∀ a o, h[a]? = some o → ObR N k (k.ρ a) o
  nok : ∀ b, N.so b ≠ none → k.H b = none
structure LeK (k k' : Kc) : Prop where
  nle : k.n ≤ k'.n
  ag : ∀ a, a < k.n → k'.ρ a = k.ρ a
  fr : ∀ b o, k.H b = some o → (∀ a, a < k.n → k.ρ a ≠ b) → k'.H b = some o
  nw : ∀ a, k.n ≤ a → a < k'.n → k.H (k'.ρ a) = none
  ke : ∀ b, k'.H b = none → k.H b = none
  st : ∀ b, k.H b = none → N.so b ≠ none → k'.H b = none
end
section
variable {N : Nm} {k k' k'' : Kc} {h h' : EH}
theorem LeK.refl : LeK N k k := ⟨Nat.le_refl _, fun _ _ => rfl, fun _ _ e _ => e, fun a h1 h2 => absurd h2 (Nat.not_lt.mpr h1), fun _ e => e, fun _ e _ => e⟩
theorem LeK.trans (x : LeK N k k') (y : LeK N k' k'') : LeK N k k'' where
  nle := Nat.le_trans x.nle y.nle
  ag := fun a ha => (y.ag a (Nat.lt_of_lt_of_le ha x.nle)).trans (x.ag a ha)
  fr := fun b o e q => y.fr b o (x.fr b o e q) fun a ha => by
    by_cases hl : a < k.n
    · rw [x.ag a hl]
      exact q a hl
    · intro z
      have := x.nw a (Nat.not_lt.mp hl) ha
      rw [z, e] at this
      cases this
  nw := fun a h1 h2 => by
    by_cases hl : a < k'.n
    · rw [y.ag a hl]
      exact x.nw a h1 hl
    · exact x.ke _ (y.nw a (Nat.not_lt.mp hl) h2)
  ke := fun b e => x.ke b (y.ke b e)
  st := fun b e s => y.st b (x.st b e s) s
theorem Sim.lt (s : Sim N k h) {a : Nat} {o : EO} (e : h[a]? = some o) : a < k.n := by
  rw [← s.len]
  exact (List.getElem?_eq_some_iff.mp e).1
theorem Sim.get (s : Sim N k h) {a : Nat} (ha : a < k.n) : ∃ o, h[a]? = some o := by
  rw [← s.len] at ha
  exact ⟨_, List.getElem?_eq_getElem ha⟩
/-- what stands at a place is neither a tuple nor an exception's -/
theorem Sim.kind (s : Sim N k h) {a : Nat} (ha : a < k.n) : (∃ vs, k.H (k.ρ a) = some (.lst vs)) ∨ (∃ ws, k.H (k.ρ a) = some (.dK ws)) ∨ (∃ C dx ws, k.H (k.ρ a) = some (.ins C dx ws)) ∨
    (∃ vs, rd N.so k.H (k.ρ a) = some (.lst vs) ∧ ∀ u, k.H (k.ρ a) = some u → ∃ o w, u = .frz o w) := by
  obtain ⟨o, e⟩ := s.get ha
  have q := s.obj a o e
  cases o with
  | lst xs => obtain ⟨vs, h1, _⟩ := q; exact .inl ⟨vs, h1⟩
  | fls xs => obtain ⟨vs, h1, h2, _⟩ := q; exact .inr (.inr (.inr ⟨vs, h1, h2⟩))
  | dct xs => obtain ⟨vs, h1, _⟩ := q; exact .inr (.inl ⟨vs, h1⟩)
  | ins c fs => obtain ⟨C, dx, vs, h1, _⟩ := q; exact .inr (.inr (.inl ⟨C, dx, vs, h1⟩))
theorem Sim.notT (s : Sim N k h) {p : Addr} {vs : List V} (e : rd N.so k.H p = some (.tup vs)) : ∀ a, a < k.n → k.ρ a ≠ p := fun a ha z => by
  subst z
  unfold rd at e
  rcases s.kind ha with ⟨_, q⟩ | ⟨_, q⟩ | ⟨_, _, _, q⟩ | ⟨_, q, r⟩
  · rw [q] at e; cases e
  · rw [q] at e; cases e
  · rw [q] at e; cases e
  · unfold rd at q
    rw [e] at q
    cases q
theorem Sim.notX (s : Sim N k h) {p : Addr} {u : HO} (e : k.H p = some u) (hu : (∃ φ, u = .ext φ) ∨ (∃ fs, u = .xd fs)) : ∀ a, a < k.n → k.ρ a ≠ p := fun a ha z => by
  subst z
  have no : ∀ o w, u ≠ .frz o w := fun o w z => by rcases hu with ⟨_, r⟩ | ⟨_, r⟩ <;> (rw [r] at z; cases z)
  rcases s.kind ha with ⟨_, q⟩ | ⟨_, q⟩ | ⟨_, _, _, q⟩ | ⟨_, q, r⟩
  · rw [q] at e; cases e; rcases hu with ⟨_, r⟩ | ⟨_, r⟩ <;> cases r
  · rw [q] at e; cases e; rcases hu with ⟨_, r⟩ | ⟨_, r⟩ <;> cases r
  · rw [q] at e; cases e; rcases hu with ⟨_, r⟩ | ⟨_, r⟩ <;> cases r
  · obtain ⟨o, w, z⟩ := r _ e
    exact no o w z
theorem LeK.rdT (l : LeK N k k') (s : Sim N k h) {p : Addr} {vs : List V} (e : rd N.so k.H p = some (.tup vs)) : rd N.so k'.H p = some (.tup vs) := by
  have nt := s.notT e
  unfold rd at e ⊢
  cases q : k.H p with
  | none =>
    rw [q] at e
    have e : N.so p = some (.tup vs) := e
    rw [l.st p q (by rw [e]; simp)]
    exact e
  | some u =>
    rw [l.fr p u q nt]
    rw [q] at e
    exact e
theorem LeK.xat (l : LeK N k k') (s : Sim N k h) {p C : Addr} {fs : List (Str × V)} (e : Xat k.H p C fs) : Xat k'.H p C fs := by
  obtain ⟨d, e1, e2⟩ := e
  refine ⟨d, l.fr p _ e1 (s.notX e1 (.inl ⟨_, rfl⟩)), ?_⟩
  cases d with
  | none => exact e2
  | some d =>
    have e2 : k.H d = some (.xd fs) := e2
    exact l.fr d _ e2 (s.notX e2 (.inr ⟨_, rfl⟩))
mutual
theorem Rl.mono (l : LeK N k k') (s : Sim N k h) : ∀ {v : EV} {w : V}, Rl N k v w → Rl N k' v w
  | _, _, .non => .non
  | _, _, .bl b => .bl b
  | _, _, .int b => .int b
  | _, _, .str b => .str b
  | _, _, .ref (a := a) ha => by
    rw [← l.ag a ha]
    exact .ref (Nat.lt_of_lt_of_le ha l.nle)
  | _, _, .tup e r => .tup (l.rdT s e) (r.mono l s)
  | _, _, .exc e c r => .exc (l.xat s e) c (r.mono l s)
  | _, _, .exc0 e c => .exc0 (l.xat s e) c
theorem Rls.mono (l : LeK N k k') (s : Sim N k h) : ∀ {v : List EV} {w : List V}, Rls N k v w → Rls N k' v w
  | _, _, .nil => .nil
  | _, _, .cons a b => .cons (a.mono l s) (b.mono l s)
end
theorem Paired.mapQ {α β : Type} {F G : α → β → Prop} (q : ∀ a b, F a b → G a b) : ∀ {x : List α} {y : List β}, Paired F x y → Paired G x y
  | _, _, .nil => .nil
  | _, _, .cons a b => .cons (q _ _ a) (Paired.mapQ q b)
theorem Rkv.mono {κ : Type} (l : LeK N k k') (s : Sim N k h) {x : List (κ × EV)} {y : List (κ × V)} (r : Rkv N k x y) : Rkv N k' x y := Paired.mapQ (fun _ _ z => ⟨z.1, z.2.mono l s⟩) r
theorem Rst.mono (l : LeK N k k') (s : Sim N k h) {x : ESt} {y : St} (r : Rst N k x y) : Rst N k' x y := Paired.mapQ (fun p q z => by
  cases p <;> cases q <;> first | exact z | exact Rl.mono l s z) r
theorem ObR.mono (l : LeK N k k') (s : Sim N k h) {p : Addr} {o : EO} (e : k'.H p = k.H p) (r : ObR N k p o) : ObR N k' p o := by
  cases o with
  | lst xs => obtain ⟨vs, h1, h2⟩ := r; exact ⟨vs, e.trans h1, h2.mono l s⟩
  | fls xs =>
    obtain ⟨vs, h1, h2, h3⟩ := r
    refine ⟨vs, ?_, fun u hu => h2 u (e.symm.trans hu), h3.mono l s⟩
    unfold rd at h1 ⊢
    rw [e]
    exact h1
  | dct xs => obtain ⟨vs, h1, h2⟩ := r; exact ⟨vs, e.trans h1, h2.mono l s⟩
  | ins c fs => obtain ⟨C, dx, vs, h1, h2, h3⟩ := r; exact ⟨C, dx, vs, e.trans h1, h2, h3.mono l s⟩
/-- a new object, not told -/
def Kc.lay (k : Kc) (p : Addr) (u : HO) : Kc := { k with H := upd k.H p u }
/-- a new object, told -/
def Kc.new (k : Kc) (p : Addr) (u : HO) : Kc := ⟨k.n + 1, fun a => if a = k.n then p else k.ρ a, upd k.H p u⟩
/-- a told object put otherwise -/
def Kc.put (k : Kc) (a : Nat) (u : HO) : Kc := { k with H := upd k.H (k.ρ a) u }
theorem Sim.fresh (s : Sim N k h) {p : Addr} (hp : k.H p = none) (hs : N.so p = none) : ∀ a, a < k.n → k.ρ a ≠ p := fun a ha z => by
  subst z
  rcases s.kind ha with ⟨_, q⟩ | ⟨_, q⟩ | ⟨_, _, _, q⟩ | ⟨_, q, r⟩
  · rw [q] at hp; cases hp
  · rw [q] at hp; cases hp
  · rw [q] at hp; cases hp
  · unfold rd at q
    rw [hp] at q
    have q : N.so (k.ρ a) = _ := q
    rw [hs] at q
    cases q
theorem LeK.lay {p : Addr} {u : HO} (hp : k.H p = none) (hs : N.so p = none) : LeK N k (k.lay p u) where
  nle := Nat.le_refl _
  ag := fun _ _ => rfl
  fr := fun b o e _ => (upd_ne (ne_of_none e hp)).trans e
  nw := fun a h1 h2 => absurd h2 (Nat.not_lt.mpr h1)
  ke := fun b e => by
    by_cases hb : b = p
    · subst hb
      exact hp
    · rwa [show (k.lay p u).H b = k.H b from upd_ne hb] at e
  st := fun b e s => (upd_ne (fun z => s (by rw [z]; exact hs))).trans e
theorem Sim.lay (s : Sim N k h) {p : Addr} {u : HO} (hp : k.H p = none) (hs : N.so p = none) : Sim N (k.lay p u) h where
  len := s.len
  inj := s.inj
  obj := fun a o e => (s.obj a o e).mono (LeK.lay hp hs) s (upd_ne (s.fresh hp hs a (s.lt e)))
  nok := fun b hb => (LeK.lay (N := N) (u := u) hp hs).st b (s.nok b hb) hb
theorem LeK.new {p : Addr} {u : HO} (hp : k.H p = none) (hs : N.so p = none) : LeK N k (k.new p u) where
  nle := Nat.le_succ _
  ag := fun a ha => if_neg (Nat.ne_of_lt ha)
  fr := fun b o e _ => (upd_ne (ne_of_none e hp)).trans e
  nw := fun a h1 h2 => by
    have h2 : a < k.n + 1 := h2
    have : a = k.n := by omega
    subst this
    show k.H (if k.n = k.n then p else _) = none
    rw [if_pos rfl]
    exact hp
  ke := fun b e => by
    by_cases hb : b = p
    · subst hb
      exact hp
    · rwa [show (k.new p u).H b = k.H b from upd_ne hb] at e
  st := fun b e s => (upd_ne (fun z => s (by rw [z]; exact hs))).trans e
theorem Sim.new (s : Sim N k h) {p : Addr} {u : HO} {o : EO} (hp : k.H p = none) (hs : N.so p = none) (hr : ObR N (k.new p u) p o) : Sim N (k.new p u) (h ++ [o]) where
  len := by rw [List.length_append, s.len]; rfl
  inj := fun a b ha hb e => by
    have ha : a < k.n + 1 := ha
    have hb : b < k.n + 1 := hb
    have e : (if a = k.n then p else k.ρ a) = (if b = k.n then p else k.ρ b) := e
    by_cases h1 : a = k.n <;> by_cases h2 : b = k.n
    · omega
    · rw [if_pos h1, if_neg h2] at e
      exact absurd e.symm (s.fresh hp hs b (by omega))
    · rw [if_neg h1, if_pos h2] at e
      exact absurd e (s.fresh hp hs a (by omega))
    · rw [if_neg h1, if_neg h2] at e
      exact s.inj a b (by omega) (by omega) e
  obj := fun a u' e => by
    by_cases ha : a < k.n
    · rw [List.getElem?_append_left (by rw [s.len]; exact ha)] at e
      have q := (s.obj a u' e).mono (LeK.new (u := u) hp hs) s (upd_ne (s.fresh hp hs a ha))
      rw [(LeK.new (N := N) (u := u) hp hs).ag a ha]
      exact q
    · rw [List.getElem?_append_right (by rw [s.len]; omega), s.len] at e
      have h0 : a - k.n = 0 := by
        cases q : a - k.n with
        | zero => rfl
        | succ m => rw [q] at e; simp at e
      rw [h0] at e
      cases e
      have : a = k.n := by omega
      subst this
      show ObR N _ (if k.n = k.n then p else _) _
      rw [if_pos rfl]
      exact hr
  nok := fun b hb => (LeK.new (N := N) (u := u) hp hs).st b (s.nok b hb) hb
theorem new_at {p : Addr} {u : HO} : (k.new p u).ρ k.n = p := if_pos rfl
theorem LeK.put (s : Sim N k h) {a : Nat} {u : HO} (ha : a < k.n) (hw : k.H (k.ρ a) ≠ none) : LeK N k (k.put a u) where
  nle := Nat.le_refl _
  ag := fun _ _ => rfl
  fr := fun b o e q => (upd_ne (Ne.symm (q a ha))).trans e
  nw := fun a h1 h2 => absurd h2 (Nat.not_lt.mpr h1)
  ke := fun b e => by
    by_cases hb : b = k.ρ a
    · subst hb
      rw [show (k.put a u).H (k.ρ a) = some u from upd_same] at e
      cases e
    · rwa [show (k.put a u).H b = k.H b from upd_ne hb] at e
  st := fun b e _ => (upd_ne (fun z => hw (by rw [← z]; exact e))).trans e
theorem Sim.put (s : Sim N k h) {a : Nat} {u : HO} {o : EO} (ha : a < k.n) (hw : k.H (k.ρ a) ≠ none) (hr : ObR N (k.put a u) (k.ρ a) o) : Sim N (k.put a u) (h.set a o) where
  len := by rw [List.length_set]; exact s.len
  inj := s.inj
  obj := fun b u' e => by
    by_cases hb : b = a
    · subst hb
      rw [List.getElem?_set_self (by rw [s.len]; exact ha)] at e
      cases e
      exact hr
    · rw [List.getElem?_set_ne (Ne.symm hb)] at e
      have hlt := s.lt e
      exact (s.obj b u' e).mono (LeK.put s ha hw) s (upd_ne (fun z => hb (s.inj b a hlt ha z)))
  nok := fun b hb => (LeK.put (u := u) s ha hw).st b (s.nok b hb) hb
/-! ### what an answer promises -/
def XdR (N : Nm) (k : Kc) : Option (Str × EV) → Option Addr → Prop
  | none, none => True
  | some (f, v), some a => ∃ w, k.H a = some (.xd [(f, w)]) ∧ Rl N k v w
  | _, _ => False
def Po (N : Nm) {α β : Type} (rel : Kc → α → β → Prop) (k : Kc) (r : R α) (Q : β → Hp → Prop) (X : XK) : Prop := match r with
  | .ok v h' => ∀ k' w, LeK N k k' → Sim N k' h' → rel k' v w → Q w k'.H
  | .ex c d h' => ∀ k' C dd, LeK N k k' → Sim N k' h' → N.cl c = some C → XdR N k' d dd → X (.ref C) dd k'.H
  | .bad => False
section
variable {α β γ δ : Type} {rel : Kc → α → β → Prop} {rel2 : Kc → γ → δ → Prop}
theorem Po.le {r : R α} {Q : β → Hp → Prop} {X : XK} (l : LeK N k k') (p : Po N rel k r Q X) : Po N rel k' r Q X := by
  cases r with
  | ok v h => exact fun k2 w a b c => p k2 w (l.trans a) b c
  | ex c d h => exact fun k2 C dd a b c d => p k2 C dd (l.trans a) b c d
  | bad => exact p
theorem Po.bind {r : R α} {f : α → EH → R γ} {Q : δ → Hp → Prop} {Q1 : β → Hp → Prop} {X : XK} (p : Po N rel2 k (r.bind f) Q X)
    (q : ∀ v h1 k1 w, r = .ok v h1 → LeK N k k1 → Sim N k1 h1 → rel k1 v w → Po N rel2 k1 (f v h1) Q X → Q1 w k1.H) : Po N rel k r Q1 X := by
  cases r with
  | ok v h1 => exact fun k1 w a b c => q v h1 k1 w rfl a b c (Po.le (r := f v h1) a p)
  | ex c d h => exact p
  | bad => exact p
theorem Po.ok {v : α} {h : EH} {Q : β → Hp → Prop} {X : XK} (p : Po N rel k (.ok v h) Q X) (s : Sim N k h) {w : β} (r : rel k v w) : Q w k.H := p k w LeK.refl s r
theorem Po.chk {b : Bool} {r : Unit → R α} {Q : β → Hp → Prop} {X : XK} (p : Po N rel k (chk b r) Q X) : b = true ∧ Po N rel k (r ()) Q X := by
  cases b with
  | true => exact ⟨rfl, p⟩
  | false => exact p.elim
theorem Po.opt {o : Option α} {Q : β → Hp → Prop} {X : XK} (p : Po N rel k (R.opt o h) Q X) : ∃ v, o = some v ∧ Po N rel k (.ok v h) Q X := by
  cases o with
  | none => exact p.elim
  | some v => exact ⟨v, rfl, p⟩
/-- a new object told -/
theorem Po.newE {o : EO} {u : HO} {Q : VK} {X : XK} (p : Po N (Rl N) k (QL.newE o h) Q X) (s : Sim N k h) {a : Addr} (ha : k.H a = none) (hs : N.so a = none) (hr : ObR N (k.new a u) a o) : Q (.ref a) (upd k.H a u) := by
  have q := p (k.new a u) (.ref a) (LeK.new ha hs) (s.new ha hs hr) (by
    rw [s.len]
    have : Rl N (k.new a u) (.ref k.n) (.ref ((k.new a u).ρ k.n)) := .ref (Nat.lt_succ_self _)
    rw [new_at] at this
    exact this)
  exact q
end
theorem Rls.length : ∀ {x : List EV} {y : List V}, Rls N k x y → x.length = y.length
  | _, _, .nil => rfl
  | _, _, .cons _ b => by rw [List.length_cons, List.length_cons, b.length]
theorem Rls.app : ∀ {x x2 : List EV} {y y2 : List V}, Rls N k x y → Rls N k x2 y2 → Rls N k (x ++ x2) (y ++ y2)
  | _, _, _, _, .nil, r => r
  | _, _, _, _, .cons a b, r => .cons a (b.app r)
theorem Rls.get : ∀ {x : List EV} {y : List V} {i : Nat} {v : EV}, Rls N k x y → x[i]? = some v → ∃ w, y[i]? = some w ∧ Rl N k v w
  | _, _, _, _, .nil, e => by simp at e
  | _, _, 0, _, .cons a _, e => by simp at e; subst e; exact ⟨_, rfl, a⟩
  | _, _, i + 1, _, .cons _ b, e => by
    obtain ⟨w, h1, h2⟩ := b.get (i := i) (by simpa using e)
    exact ⟨w, by simpa using h1, h2⟩
theorem Rls.set {v : EV} {w : V} (r : Rl N k v w) : ∀ {x : List EV} {y : List V} (i : Nat), Rls N k x y → Rls N k (x.set i v) (y.set i w)
  | _, _, _, .nil => .nil
  | _, _, 0, .cons _ b => .cons r b
  | _, _, i + 1, .cons a b => .cons a (Rls.set r i b)
theorem Rls.take : ∀ {x : List EV} {y : List V} (n : Nat), Rls N k x y → Rls N k (x.take n) (y.take n)
  | _, _, 0, _ => .nil
  | _, _, _ + 1, .nil => .nil
  | _, _, n + 1, .cons a b => .cons a (Rls.take n b)
theorem Rls.drop : ∀ {x : List EV} {y : List V} (n : Nat), Rls N k x y → Rls N k (x.drop n) (y.drop n)
  | _, _, 0, r => r
  | _, _, _ + 1, .nil => .nil
  | _, _, n + 1, .cons _ b => Rls.drop n b
theorem Rls.ints : ∀ {ns : List Int}, Rls N k (ns.map .int) (ns.map V.int)
  | [] => .nil
  | n :: _ => .cons (.int n) Rls.ints
theorem Rls.strs : ∀ {ns : List Str}, Rls N k (ns.map .str) (ns.map V.str)
  | [] => .nil
  | n :: _ => .cons (.str n) Rls.strs
theorem Rst.get {x : ESt} {y : St} (r : Rst N k x y) {i : Nat} {v : EV} (e : x[i]? = some (some v)) : ∃ w, y[i]? = some (some w) ∧ Rl N k v w := by
  induction r generalizing i with
  | nil => simp at e
  | cons a b ih =>
    cases i with
    | zero =>
      simp at e
      subst e
      rename_i q _ _
      cases q with
      | none => exact a.elim
      | some w => exact ⟨w, rfl, a⟩
    | succ i =>
      obtain ⟨w, h1, h2⟩ := ih (by simpa using e)
      exact ⟨w, by simpa using h1, h2⟩
theorem Rst.set {x : ESt} {y : St} (r : Rst N k x y) {i : Nat} {v : EV} {w : V} (q : Rl N k v w) : Rst N k (x.set i (some v)) (y.set i (some w)) := by
  induction r generalizing i with
  | nil => exact .nil
  | cons a b ih =>
    cases i with
    | zero => exact .cons q b
    | succ i => exact .cons a ih
theorem Rst.setN {x : ESt} {y : St} (r : Rst N k x y) {i : Nat} : Rst N k (x.set i none) (y.set i none) := by
  induction r generalizing i with
  | nil => exact .nil
  | cons a b ih =>
    cases i with
    | zero => exact .cons trivial b
    | succ i => exact .cons a ih
theorem Rst.wipe {x : ESt} {y : St} (r : Rst N k x y) : ∀ (vs : List Nat), Rst N k (wipeE x vs) (L2.wipe y vs)
  | [] => r
  | v :: vs => (Rst.wipe r vs).setN
end
end QL
set_option Elab.async false
set_option linter.all false
set_option maxRecDepth 100000
set_option maxHeartbeats 4000000
/-! E3: operators and built-ins on own heaps, led to abstract ones. -/
namespace QL
open PySem PySem.Spec
open L2 hiding wE wT
open PyProof.Rows hiding St
/-- answers that are the same on both sides -/
def Same {α : Type} : Kc → α → α → Prop := fun _ a b => a = b
section
variable {N : Nm} {k : Kc} {h : EH} {X : XK} {Q : VK}
theorem rd_tracked {so : Addr → Option HO} {H : Hp} {p : Addr} {u : HO} (e : H p = some u) (n : ∀ o w, u ≠ .frz o w) : rd so H p = some u := by
  unfold rd
  rw [e]
  cases u <;> first | rfl | exact absurd rfl (n _ _)
theorem lstE_ok (s : Sim N k h) {x : EV} {w : V} {xs : List EV} (r : Rl N k x w) (e : lstE h x = some xs) : ∃ p vs, w = .ref p ∧ rd N.so k.H p = some (.lst vs) ∧ Rls N k xs vs := by
  cases r with
  | ref ha =>
    rename_i a
    unfold lstE at e
    simp only at e
    split at e
    · rename_i ys q
      cases e
      obtain ⟨vs, h1, h2⟩ := s.obj a _ q
      exact ⟨_, vs, rfl, rd_tracked h1 (fun _ _ z => by cases z), h2⟩
    · rename_i ys q
      cases e
      obtain ⟨vs, h1, _, h2⟩ := s.obj a _ q
      exact ⟨_, vs, rfl, h1, h2⟩
    · cases e
  | _ => cases e
theorem seqE_ok (s : Sim N k h) {x : EV} {w : V} {xs : List EV} (r : Rl N k x w) (e : seqE h x = some xs) : ∃ p vs, w = .ref p ∧ (rd N.so k.H p = some (.tup vs) ∨ rd N.so k.H p = some (.lst vs)) ∧ Rls N k xs vs := by
  cases r with
  | tup q r =>
    cases e
    exact ⟨_, _, rfl, .inl q, r⟩
  | ref ha =>
    obtain ⟨p, vs, h1, h2, h3⟩ := lstE_ok s (.ref ha) e
    exact ⟨p, vs, h1, .inr h2, h3⟩
  | _ => cases e
/-- a list that may be written -/
theorem lst_at (s : Sim N k h) {a : Nat} {xs : List EV} (e : h[a]? = some (.lst xs)) : ∃ vs, k.H (k.ρ a) = some (.lst vs) ∧ Rls N k xs vs := s.obj a _ e
theorem dct_at (s : Sim N k h) {a : Nat} {xs : List (Key × EV)} (e : h[a]? = some (.dct xs)) : ∃ vs, k.H (k.ρ a) = some (.dK vs) ∧ Rkv N k xs vs := s.obj a _ e
theorem ins_at (s : Sim N k h) {a : Nat} {c : Str} {fs : List (Str × EV)} (e : h[a]? = some (.ins c fs)) : ∃ C dx vs, k.H (k.ρ a) = some (.ins C dx vs) ∧ N.cl c = some C ∧ Rkv N k fs vs := s.obj a _ e
theorem fls_at (s : Sim N k h) {a : Nat} {xs : List EV} (e : h[a]? = some (.fls xs)) : ∃ vs, rd N.so k.H (k.ρ a) = some (.lst vs) ∧ Rls N k xs vs := by
  obtain ⟨vs, h1, _, h2⟩ := s.obj a _ e
  exact ⟨vs, h1, h2⟩
theorem rd_l {p : Addr} {vs : List V} (e : k.H p = some (.lst vs)) : rd N.so k.H p = some (.lst vs) := rd_tracked e (fun _ _ z => by cases z)
theorem rd_d {p : Addr} {vs : List (Key × V)} (e : k.H p = some (.dK vs)) : rd N.so k.H p = some (.dK vs) := rd_tracked e (fun _ _ z => by cases z)
theorem rd_i {p C dx : Addr} {vs : List (Str × V)} (e : k.H p = some (.ins C dx vs)) : rd N.so k.H p = some (.ins C dx vs) := rd_tracked e (fun _ _ z => by cases z)
mutual
theorem toD_ok (s : Sim N k h) : ∀ (n : Nat) {x : EV} {w : V} {d : PyData}, Rl N k x w → toD h n x = some d → Dd N.so k.H w d
  | 0, _, _, _, _, e => by unfold toD at e; cases e
  | n + 1, x, w, d, r, e => by
    unfold toD at e
    cases r with
    | non => cases e; exact .sc rfl
    | bl b => cases e; exact .sc rfl
    | int b => cases e; exact .sc rfl
    | str b => cases e; exact .sc rfl
    | tup q r =>
      simp only at e
      obtain ⟨ds, h1, rfl⟩ := map_some e
      exact .tup q (toDs_ok s n r h1)
    | ref ha =>
      simp only at e
      split at e
      · rename_i q
        obtain ⟨ds, h1, rfl⟩ := map_some e
        obtain ⟨vs, h2, h3⟩ := lst_at s q
        exact .lst (rd_l h2) (toDs_ok s n h3 h1)
      · rename_i q
        obtain ⟨ds, h1, rfl⟩ := map_some e
        obtain ⟨vs, h2, h3⟩ := fls_at s q
        exact .lst h2 (toDs_ok s n h3 h1)
      · cases e
    | exc _ _ _ => cases e
    | exc0 _ _ => cases e
theorem toDs_ok (s : Sim N k h) : ∀ (n : Nat) {x : List EV} {w : List V} {d : List PyData}, Rls N k x w → toDs h n x = some d → Dds N.so k.H w d
  | 0, _, _, _, _, e => by unfold toDs at e; cases e
  | n + 1, _, _, _, .nil, e => by unfold toDs at e; cases e; exact .nil
  | n + 1, _, _, _, .cons a b, e => by
    unfold toDs at e
    split at e
    · rename_i d ds h1 h2
      cases e
      exact .cons (toD_ok s n a h1) (toDs_ok s n b h2)
    · cases e
end
theorem truE_ok (s : Sim N k h) {x : EV} {w : V} {b : Bool} (r : Rl N k x w) (e : truE h x = some b) : truV N.so k.H w = some b := by
  cases r with
  | non => exact e
  | bl b => exact e
  | int b => exact e
  | str b => cases e
  | tup q r =>
    cases e
    unfold truV
    simp only [q]
    have := r.length
    rename_i xs vs
    cases xs <;> cases vs <;> first | rfl | cases this
  | ref ha =>
    unfold truE at e
    simp only at e
    unfold truV
    split at e
    · rename_i q
      obtain ⟨vs, h2, h3⟩ := lst_at s q
      cases e
      simp only [rd_l (N := N) h2]
      have := h3.length
      rename_i xs
      cases xs <;> cases vs <;> first | rfl | cases this
    · rename_i q
      obtain ⟨vs, h2, h3⟩ := fls_at s q
      cases e
      simp only [h2]
      have := h3.length
      rename_i xs
      cases xs <;> cases vs <;> first | rfl | cases this
    · rename_i q
      obtain ⟨vs, h2, h3⟩ := dct_at s q
      cases e
      simp only [rd_d (N := N) h2, h2]
      cases h3 <;> rfl
    · cases e
  | exc _ _ _ => cases e
  | exc0 _ _ => cases e
theorem truK_ok (s : Sim N k h) {x : EV} {w : V} {b : Bool} {B : Bool → Prop} (r : Rl N k x w) (e : truE h x = some b) (q : B b) : truK N.so w k.H B := by
  unfold truK
  rw [truE_ok s r e]
  exact q
theorem btE_ok (s : Sim N k h) {x : EV} {w : V} {T : Bt} {b : Bool} (r : Rl N k x w) (e : btE h T x = some b) : btV N.so k.H T w = some b := by
  cases r with
  | non => exact e
  | bl b => exact e
  | int b => exact e
  | str b => exact e
  | tup q r =>
    unfold btV
    simp only [q]
    exact e
  | ref ha =>
    unfold btE at e
    simp only at e
    unfold btV
    split at e
    · rename_i q
      obtain ⟨vs, h2, h3⟩ := lst_at s q
      simp only [rd_l (N := N) h2]
      exact e
    · rename_i q
      obtain ⟨vs, h2, h3⟩ := dct_at s q
      simp only [rd_d (N := N) h2, h2]
      exact e
    · cases e
  | exc _ _ _ => cases e
  | exc0 _ _ => cases e
/-! ### new things -/
theorem Po.newL {xs : List EV} {vs : List V} (p : Po N (Rl N) k (QL.newE (.lst xs) h) Q X) (s : Sim N k h) (r : Rls N k xs vs) {a : Addr} (ha : k.H a = none) (hs : N.so a = none) : Q (.ref a) (upd k.H a (.lst vs)) :=
  Po.newE p s ha hs ⟨vs, upd_same, r.mono (LeK.new ha hs) s⟩
theorem Po.newD {xs : List (Key × EV)} {vs : List (Key × V)} (p : Po N (Rl N) k (QL.newE (.dct xs) h) Q X) (s : Sim N k h) (r : Rkv N k xs vs) {a : Addr} (ha : k.H a = none) (hs : N.so a = none) : Q (.ref a) (upd k.H a (.dK vs)) :=
  Po.newE p s ha hs ⟨vs, upd_same, r.mono (LeK.new ha hs) s⟩
theorem Po.layT {xs : List EV} {vs : List V} (p : Po N (Rl N) k (.ok (.tup xs) h) Q X) (s : Sim N k h) (r : Rls N k xs vs) {a : Addr} (ha : k.H a = none) (hs : N.so a = none) : Q (.ref a) (upd k.H a (.tup vs)) :=
  p (k.lay a (.tup vs)) (.ref a) (LeK.lay ha hs) (s.lay ha hs) (.tup (rd_tracked (show (k.lay a (.tup vs)).H a = some (.tup vs) from upd_same) (fun _ _ z => by cases z)) (r.mono (LeK.lay ha hs) s))
theorem Rls.nil_iff {x : List EV} {y : List V} (r : Rls N k x y) : x = [] ↔ y = [] := by
  cases r <;> simp
theorem Rls.flat {x : List EV} {y : List V} (r : Rls N k x y) : ∀ n : Nat, Rls N k (List.replicate n x).flatten (List.replicate n y).flatten
  | 0 => .nil
  | n + 1 => by
    rw [List.replicate_succ, List.replicate_succ, List.flatten_cons, List.flatten_cons]
    exact r.app (Rls.flat r n)
/-! ### operators -/
theorem addE_ok (s : Sim N k h) {x y : EV} {w u : V} (rx : Rl N k x w) (ry : Rl N k y u) (p : Po N (Rl N) k (addE x y h) Q X) : addV N.so w u k.H Q := by
  cases rx with
  | int i =>
    cases ry with
    | int j => exact p.ok s (.int _)
    | _ => exact p.elim
  | str i =>
    cases ry with
    | str j =>
      try simp only [addE] at p
      obtain ⟨c, p⟩ := Po.chk p
      exact ⟨of_decide_eq_true c, p.ok s (.str _)⟩
    | _ => exact p.elim
  | tup q1 r1 =>
    cases ry with
    | tup q2 r2 =>
      try simp only [addE] at p
      obtain ⟨c, p⟩ := Po.chk p
      have c := of_decide_eq_true c
      have l1 := r1.length
      have l2 := r2.length
      unfold addV
      simp only [q1, q2]
      refine ⟨by omega, fun e => ?_, fun _ e => ?_, fun _ _ a ha hs => p.layT s (r1.app r2) ha hs⟩
      · have e := r1.nil_iff.mpr e
        subst e
        exact p.ok s (.tup q2 (by simpa using r2))
      · have e := r2.nil_iff.mpr e
        subst e
        exact p.ok s (.tup q1 (by simpa using r1))
    | _ => exact p.elim
  | ref ha =>
    cases ry with
    | ref hb =>
      unfold addE at p
      simp only at p
      split at p
      · rename_i xs ys e1 e2
        try simp only [addE] at p
        obtain ⟨c, p⟩ := Po.chk p
        have c := of_decide_eq_true c
        obtain ⟨p1, vs1, z1, q1, r1⟩ := lstE_ok s (.ref ha) e1
        obtain ⟨p2, vs2, z2, q2, r2⟩ := lstE_ok s (.ref hb) e2
        cases z1
        cases z2
        have l1 := r1.length
        have l2 := r2.length
        unfold addV
        simp only [q1, q2]
        exact ⟨by omega, fun a ha hs => p.newL s (r1.app r2) ha hs⟩
      · exact p.elim
    | _ => exact p.elim
  | _ => exact p.elim
theorem cmul_ok {i j : Int} (h : cmulB i j = true) : CMul i j := by
  unfold cmulB at h
  simp only [Bool.or_eq_true, Bool.and_eq_true, decide_eq_true_eq] at h
  exact h
theorem mulE_ok (s : Sim N k h) {x y : EV} {w u : V} (rx : Rl N k x w) (ry : Rl N k y u) (p : Po N (Rl N) k (mulE x y h) Q X) : mulV N.so w u k.H Q := by
  cases rx with
  | int i =>
    cases ry with
    | int j =>
      try simp only [mulE] at p
      obtain ⟨c, p⟩ := Po.chk p
      exact ⟨cmul_ok c, p.ok s (.int _)⟩
    | _ => exact p.elim
  | str i =>
    cases ry with
    | int j =>
      try simp only [mulE] at p
      obtain ⟨c, p⟩ := Po.chk p
      simp only [Bool.and_eq_true, decide_eq_true_eq] at c
      exact ⟨c.1, c.2.1, c.2.2, p.ok s (.str _)⟩
    | _ => exact p.elim
  | ref ha =>
    cases ry with
    | int j =>
      unfold mulE at p
      simp only at p
      split at p
      · rename_i xs e
        try simp only [mulE] at p
        obtain ⟨c, p⟩ := Po.chk p
        simp only [Bool.and_eq_true, decide_eq_true_eq] at c
        obtain ⟨vs, h1, h2⟩ := lst_at s e
        have l := h2.length
        unfold mulV
        simp only [h1]
        exact ⟨c.1, c.2.1, by rw [← l]; exact c.2.2, fun a ha hs => p.newL s (h2.flat _) ha hs⟩
      · exact p.elim
    | _ => exact p.elim
  | _ => exact p.elim
theorem pow_ok {i j : Int} (h : powB i j = true) : CPow i j := by
  unfold powB at h
  simp only [Bool.and_eq_true, decide_eq_true_eq] at h
  exact ⟨h.1, h.2.1, h.2.2⟩
theorem opE_ok (s : Sim N k h) {o : Operator} {x y : EV} {w u : V} (rx : Rl N k x w) (ry : Rl N k y u) (p : Po N (Rl N) k (opE o x y h) Q X) : opV N.so o w u k.H Q := by
  cases o with
  | Add => exact addE_ok s rx ry p
  | Mult => exact mulE_ok s rx ry p
  | Sub =>
    cases rx with
    | int i =>
      cases ry with
      | int j => exact p.ok s (.int _)
      | _ => exact p.elim
    | _ => exact p.elim
  | FloorDiv =>
    cases rx with
    | int i =>
      cases ry with
      | int j =>
        try simp only [opE] at p
        obtain ⟨c, p⟩ := Po.chk p
        simp only [Bool.and_eq_true, decide_eq_true_eq] at c
        exact ⟨c, p.ok s (.int _)⟩
      | _ => exact p.elim
    | _ => exact p.elim
  | Mod =>
    cases rx with
    | int i =>
      cases ry with
      | int j =>
        try simp only [opE] at p
        obtain ⟨c, p⟩ := Po.chk p
        exact ⟨of_decide_eq_true c, p.ok s (.int _)⟩
      | _ => exact p.elim
    | _ => exact p.elim
  | Pow =>
    cases rx with
    | int i =>
      cases ry with
      | int j =>
        try simp only [opE] at p
        obtain ⟨c, p⟩ := Po.chk p
        exact ⟨pow_ok c, p.ok s (.int _)⟩
      | _ => exact p.elim
    | _ => exact p.elim
  | LShift =>
    cases rx with
    | int i =>
      cases ry with
      | int j =>
        try simp only [opE] at p
        obtain ⟨c, p⟩ := Po.chk p
        exact ⟨pow_ok c, p.ok s (.int _)⟩
      | _ => exact p.elim
    | _ => exact p.elim
  | _ => exact p.elim
/-! ### comparisons -/
theorem eq0_ok (s : Sim N k h) {x y : EV} {w u : V} {b : Bool} (rx : Rl N k x w) (ry : Rl N k y u) (e : eq0E x y h = some b) : eqE0 w u k.H = some b := by
  cases rx with
  | ref ha =>
    cases ry with
    | ref hb =>
      unfold eq0E at e
      simp only at e
      unfold eqE0
      split at e
      · rename_i e1 e2
        obtain ⟨v1, h1, r1⟩ := dct_at s e1
        obtain ⟨v2, h2, r2⟩ := dct_at s e2
        cases r2
        cases e
        simp only [h1, h2]
        cases r1 <;> rfl
      · rename_i e1 e2
        obtain ⟨v1, h1, r1⟩ := dct_at s e1
        obtain ⟨v2, h2, r2⟩ := dct_at s e2
        cases r1
        cases e
        simp only [h1, h2]
        cases r2 <;> rfl
      · cases e
    | _ => cases e
  | _ => cases e
theorem sc_ok {x : EV} {w : V} (r : Rl N k x w) : scN w = scE x := by
  cases r <;> rfl
theorem eqE_ok (s : Sim N k h) {neg : Bool} {x y : EV} {w u : V} {B : Bool → Hp → Prop} (rx : Rl N k x w) (ry : Rl N k y u) (p : Po N Same k (eqE neg x y h) B X) : eqD N.so neg w u k.H (boolV B) := by
  have hh : (∃ i j, x = .str i ∧ y = .str j) ∨ ¬ (∃ i j, x = .str i ∧ y = .str j) := Classical.em _
  rcases hh with ⟨i, j, rfl, rfl⟩ | hn
  · cases rx
    cases ry
    exact p.ok s rfl
  · have e1 : eqE neg x y h = (match scE x, scE y with
      | some d, some e => .ok (PyData.eqv d e != neg) h
      | _, _ => (match eq0E x y h with
        | some b => .ok (b != neg) h
        | none => (match toD h deepE x, toD h deepE y with
          | some d, some e => chk (SeqAt.shaped d && SeqAt.shaped e) fun _ => .ok (PyData.eqv d e != neg) h
          | _, _ => .bad))) := by
      unfold eqE
      split
      · exact absurd ⟨_, _, rfl, rfl⟩ hn
      · rfl
    have e2 : eqD N.so neg w u k.H (boolV B) = (match scN w, scN u with
      | some d, some e => boolV B (.bl (PyData.eqv d e != neg)) k.H
      | _, _ => (match eqE0 w u k.H with
        | some b => boolV B (.bl (b != neg)) k.H
        | none => ∃ d e, Dd N.so k.H w d ∧ Dd N.so k.H u e ∧ SeqAt.shaped d = true ∧ SeqAt.shaped e = true ∧ boolV B (.bl (PyData.eqv d e != neg)) k.H)) := by
      unfold eqD
      split
      · cases rx
        cases ry
        exact absurd ⟨_, _, rfl, rfl⟩ hn
      · rfl
    rw [e2]
    rw [e1] at p
    rw [sc_ok rx, sc_ok ry]
    split
    · rename_i d e h1 h2
      simp only [h1, h2] at p
      exact p.ok s rfl
    · rename_i hno
      have p : Po N Same k (match eq0E x y h with
        | some b => .ok (b != neg) h
        | none => (match toD h deepE x, toD h deepE y with
          | some d, some e => chk (SeqAt.shaped d && SeqAt.shaped e) fun _ => .ok (PyData.eqv d e != neg) h
          | _, _ => .bad)) B X := by
        split at p
        · rename_i d e h1 h2
          exact absurd h2 (hno d e h1)
        · exact p
      cases q : eq0E x y h with
      | some b =>
        simp only [q] at p
        rw [eq0_ok s rx ry q]
        exact p.ok s rfl
      | none =>
        simp only [q] at p
        split at p
        · rename_i d e h1 h2
          obtain ⟨c, p⟩ := Po.chk p
          rw [Bool.and_eq_true] at c
          have big : ∃ d e, Dd N.so k.H w d ∧ Dd N.so k.H u e ∧ SeqAt.shaped d = true ∧ SeqAt.shaped e = true ∧ boolV B (.bl (PyData.eqv d e != neg)) k.H := ⟨d, e, toD_ok s _ rx h1, toD_ok s _ ry h2, c.1, c.2, p.ok s rfl⟩
          cases q2 : eqE0 w u k.H with
          | none => exact big
          | some b =>
            exfalso
            obtain ⟨a1, a2, ks, ls, z1, z2, z3, z4, _⟩ := eqE0_ex q2
            subst z1
            have := toD_ok s _ rx h1
            cases this with
            | sc z => cases z
            | lst z _ => rw [rd_d (N := N) z3] at z; cases z
            | tup z _ => rw [rd_d (N := N) z3] at z; cases z
        · exact p.elim
theorem flat_ok {x : EV} {w : V} (r : Rl N k x w) : flatV w = flatE x := by
  cases r <;> rfl
theorem flats_ok : ∀ {x : List EV} {w : List V}, Rls N k x w → w.all flatV = x.all flatE
  | _, _, .nil => rfl
  | _, _, .cons a b => by rw [List.all_cons, List.all_cons, flat_ok a, flats_ok b]
theorem eqF_ok {x y : EV} {w u : V} (rx : Rl N k x w) (ry : Rl N k y u) (fy : flatE y = true) : eqV w u = eqF x y := by
  cases rx <;> cases ry <;> first | rfl | cases fy
theorem any_ok {y : EV} {u : V} (ry : Rl N k y u) (fy : flatE y = true) : ∀ {x : List EV} {w : List V}, Rls N k x w → inV u w = x.any fun x => eqF x y
  | _, _, .nil => rfl
  | _, _, .cons a b => by
    have := any_ok ry fy b
    unfold inV at this ⊢
    rw [List.any_cons, List.any_cons, eqF_ok a ry fy, this]
theorem keyE_ok {x : EV} {w : V} {κ : Key} (r : Rl N k x w) (e : keyE x = some κ) : keyV w = some κ := by
  cases r <;> first | exact e | cases e
theorem valE_ok {kvs : List (Key × EV)} {ws : List (Key × V)} (r : Rkv N k kvs ws) (κ : Key) : match valE kvs κ, valV ws κ with
    | some v, some w => Rl N k v w
    | none, none => True
    | _, _ => False := by
  induction r with
  | nil => exact trivial
  | cons a b ih =>
    rename_i p q l1 l2
    obtain ⟨a1, a2⟩ := a
    unfold valE valV at ih ⊢
    rw [List.find?_cons, List.find?_cons, ← a1]
    by_cases e : p.1 = κ
    · rw [decide_eq_true e]
      exact a2
    · rw [decide_eq_false e]
      exact ih
theorem valE_some {kvs : List (Key × EV)} {ws : List (Key × V)} (r : Rkv N k kvs ws) (κ : Key) : (valE kvs κ).isSome = (valV ws κ).isSome := by
  have z := valE_ok r κ
  revert z
  cases valE kvs κ <;> cases valV ws κ <;> intro z <;> first | rfl | exact z.elim
theorem inE_ok (s : Sim N k h) {neg : Bool} {x y : EV} {w u : V} {B : Bool → Hp → Prop} (rx : Rl N k x w) (ry : Rl N k y u) (p : Po N Same k (inE neg x y h) B X) : inD N.so neg w u k.H (boolV B) := by
  cases ry with
  | str j =>
    cases rx with
    | str i => exact p.ok s rfl
    | _ => exact p.elim
  | tup q r =>
    try simp only [inE] at p
    obtain ⟨c, p⟩ := Po.chk p
    rw [Bool.and_eq_true] at c
    unfold inD
    simp only [q]
    exact ⟨(flat_ok rx).trans c.1, (flats_ok r).trans c.2, by rw [any_ok rx c.1 r]; exact p.ok s rfl⟩
  | ref ha =>
    unfold inE at p
    simp only at p
    unfold inD
    split at p
    · rename_i e
      obtain ⟨vs, h1, r⟩ := lst_at s e
      try simp only [inE] at p
      obtain ⟨c, p⟩ := Po.chk p
      rw [Bool.and_eq_true] at c
      simp only [rd_l (N := N) h1]
      exact ⟨(flat_ok rx).trans c.1, (flats_ok r).trans c.2, by rw [any_ok rx c.1 r]; exact p.ok s rfl⟩
    · rename_i e
      obtain ⟨vs, h1, r⟩ := fls_at s e
      try simp only [inE] at p
      obtain ⟨c, p⟩ := Po.chk p
      rw [Bool.and_eq_true] at c
      simp only [h1]
      exact ⟨(flat_ok rx).trans c.1, (flats_ok r).trans c.2, by rw [any_ok rx c.1 r]; exact p.ok s rfl⟩
    · rename_i e
      obtain ⟨vs, h1, r⟩ := dct_at s e
      split at p
      · rename_i κ e2
        simp only [rd_d (N := N) h1, h1, keyE_ok rx e2]
        rw [valE_some r κ] at p
        exact p.ok s rfl
      · exact p.elim
    · exact p.elim
  | _ => exact p.elim
theorem isE_ok (s : Sim N k h) {neg : Bool} {x y : EV} {w u : V} {B : Bool → Hp → Prop} (rx : Rl N k x w) (ry : Rl N k y u) (p : Po N Same k (isE neg x y h) B X) : isV neg w u k.H (boolV B) := by
  cases ry with
  | non =>
    have e : decide (w = V.non) = isNon x := by cases rx <;> rfl
    have p : Po N Same k (.ok (isNon x != neg) h) B X := by cases rx <;> exact p
    unfold isV
    simp only
    rw [e]
    exact p.ok s rfl
  | bl b =>
    cases rx with
    | bl a => exact p.ok s rfl
    | _ => exact p.elim
  | ref hb =>
    cases rx with
    | ref ha =>
      rename_i b a
      have e : ∀ {z : Bool}, decide (k.ρ a = k.ρ b) = decide (a = b) := by
        by_cases q : a = b
        · subst q; simp
        · have : k.ρ a ≠ k.ρ b := fun z => q (s.inj a b ha hb z)
          simp [q, this]
      unfold isE at p
      simp only at p
      unfold isV
      split at p
      · rename_i e1 e2
        obtain ⟨v1, h1, _⟩ := lst_at s e1
        obtain ⟨v2, h2, _⟩ := lst_at s e2
        simp only [h1, h2]
        exact ⟨rfl, rfl, by rw [e (z := true)]; exact p.ok s rfl⟩
      · rename_i e1 e2
        obtain ⟨_, _, v1, h1, _⟩ := ins_at s e1
        obtain ⟨_, _, v2, h2, _⟩ := ins_at s e2
        simp only [h1, h2]
        exact ⟨rfl, rfl, by rw [e (z := true)]; exact p.ok s rfl⟩
      · rename_i e1 e2
        obtain ⟨_, _, v1, h1, _⟩ := ins_at s e1
        obtain ⟨v2, h2, _⟩ := lst_at s e2
        simp only [h1, h2]
        exact ⟨rfl, rfl, by rw [e (z := true)]; exact p.ok s rfl⟩
      · rename_i e1 e2
        obtain ⟨v1, h1, _⟩ := lst_at s e1
        obtain ⟨_, _, v2, h2, _⟩ := ins_at s e2
        simp only [h1, h2]
        exact ⟨rfl, rfl, by rw [e (z := true)]; exact p.ok s rfl⟩
      · exact p.elim
    | _ => exact p.elim
  | _ => cases rx <;> exact p.elim
theorem ordE_ok (s : Sim N k h) {f : Int → Int → Bool} {x y : EV} {w u : V} {B : Bool → Hp → Prop} (rx : Rl N k x w) (ry : Rl N k y u) (p : Po N Same k (ordE f x y h) B X) : ordV f w u k.H (boolV B) := by
  cases rx with
  | int i =>
    cases ry with
    | int j => exact p.ok s rfl
    | _ => exact p.elim
  | _ => exact p.elim
theorem cmpE_ok (s : Sim N k h) {o : CmpOp} {x y : EV} {w u : V} {B : Bool → Hp → Prop} (rx : Rl N k x w) (ry : Rl N k y u) (p : Po N Same k (cmpE o x y h) B X) : cmpV N.so o w u k.H (boolV B) := by
  cases o with
  | Eq => exact eqE_ok s rx ry p
  | NotEq => exact eqE_ok s rx ry p
  | Lt => exact ordE_ok s rx ry p
  | LtE => exact ordE_ok s rx ry p
  | Gt => exact ordE_ok s rx ry p
  | GtE => exact ordE_ok s rx ry p
  | In => exact inE_ok s rx ry p
  | NotIn => exact inE_ok s rx ry p
  | Is => exact isE_ok s rx ry p
  | IsNot => exact isE_ok s rx ry p
end
end QL
set_option Elab.async false
set_option linter.all false
set_option maxRecDepth 100000
set_option maxHeartbeats 4000000
/-! E4: built-ins on own heaps, led to abstract ones. -/
namespace QL
open PySem PySem.Spec
open L2 hiding wE wT
open PyProof.Rows hiding St
/-! ### sorted lists are known by their items -/
theorem sort_uniq {α : Type} {le : α → α → Prop} (anti : ∀ a b, le a b → le b a → a = b) : ∀ {l m : List α}, l.Perm m → l.Pairwise le → m.Pairwise le → l = m
  | [], m, p, _, _ => (List.nil_perm.mp p).symm
  | a :: l, [], p, _, _ => absurd p.length_eq (by simp)
  | a :: l, b :: m, p, h1, h2 => by
    rw [List.pairwise_cons] at h1 h2
    have e : a = b := by
      have ha : a ∈ b :: m := p.mem_iff.mp (List.mem_cons_self ..)
      have hb : b ∈ a :: l := p.mem_iff.mpr (List.mem_cons_self ..)
      rcases List.mem_cons.mp ha with z | z
      · exact z
      · rcases List.mem_cons.mp hb with z2 | z2
        · exact z2.symm
        · exact anti a b (h1.1 b z2) (h2.1 a z)
    subst e
    rw [sort_uniq anti p.cons_inv h1.2 h2.2]
theorem insI_perm (n : Int) : ∀ l : List Int, (insI n l).Perm (n :: l)
  | [] => .refl _
  | m :: l => by
    unfold insI
    split
    · exact .refl _
    · exact ((insI_perm n l).cons m).trans (.swap n m l)
theorem sortI_perm : ∀ l : List Int, (sortI l).Perm l
  | [] => .refl _
  | n :: l => (insI_perm n (sortI l)).trans ((sortI_perm l).cons n)
theorem insI_sorted (n : Int) : ∀ {l : List Int}, l.Pairwise (· ≤ ·) → (insI n l).Pairwise (· ≤ ·)
  | [], _ => by
    unfold insI
    simp
  | m :: l, h => by
    unfold insI
    rw [List.pairwise_cons] at h
    split
    · rename_i q
      refine List.pairwise_cons.mpr ⟨fun b hb => ?_, List.pairwise_cons.mpr h⟩
      rcases List.mem_cons.mp hb with z | z
      · rw [z]; exact q
      · exact Int.le_trans q (h.1 b z)
    · rename_i q
      refine List.pairwise_cons.mpr ⟨fun b hb => ?_, insI_sorted n h.2⟩
      rcases List.mem_cons.mp ((insI_perm n l).mem_iff.mp hb) with z | z
      · rw [z]; omega
      · exact h.1 b z
theorem sortI_sorted : ∀ l : List Int, (sortI l).Pairwise (· ≤ ·)
  | [] => List.Pairwise.nil
  | n :: l => insI_sorted n (sortI_sorted l)
theorem sortI_eq {l m : List Int} (p : m.Perm l) (h : m.Pairwise (· ≤ ·)) : m = sortI l :=
  sort_uniq (le := (· ≤ ·)) (fun a b h1 h2 => Int.le_antisymm h1 h2) (p.trans (sortI_perm l).symm) h (sortI_sorted l)
theorem ltc_anti : ∀ (a b : List Nat), ltCps a b = false → ltCps b a = false → a = b
  | [], [], _, _ => rfl
  | [], _ :: _, h, _ => by cases h
  | _ :: _, [], _, h => by cases h
  | a :: r, b :: t, h1, h2 => by
    unfold ltCps at h1 h2
    simp only [Bool.or_eq_false_iff, decide_eq_false_iff_not, Bool.and_eq_false_iff, beq_eq_false_iff_ne] at h1 h2
    have e : a = b := by omega
    subst e
    rcases h1.2 with z | z
    · exact absurd rfl z
    · rcases h2.2 with y | y
      · exact absurd rfl y
      · rw [ltc_anti r t z y]
/-- b is not below a -/
theorem ltc_trans : ∀ (a b c : List Nat), ltCps b a = false → ltCps c b = false → ltCps c a = false
  | [], _, [], _, _ => rfl
  | [], _, _ :: _, _, _ => rfl
  | a :: r, [], c, h1, _ => by cases h1
  | a :: r, b :: t, [], _, h2 => by cases h2
  | a :: r, b :: t, c :: u, h1, h2 => by
    unfold ltCps at h1 h2 ⊢
    simp only [Bool.or_eq_false_iff, decide_eq_false_iff_not, Bool.and_eq_false_iff, beq_eq_false_iff_ne] at h1 h2 ⊢
    refine ⟨by omega, ?_⟩
    by_cases e1 : c = a
    · subst e1
      have e2 : b = c := by omega
      subst e2
      refine .inr (ltc_trans r t u ?_ ?_)
      · rcases h1.2 with z | z
        · exact absurd rfl z
        · exact z
      · rcases h2.2 with z | z
        · exact absurd rfl z
        · exact z
    · exact .inl e1
def leS (a b : Str) : Prop := ltS b a = false
theorem insS_perm (n : Str) : ∀ l : List Str, (insS n l).Perm (n :: l)
  | [] => .refl _
  | m :: l => by
    unfold insS
    split
    · exact ((insS_perm n l).cons m).trans (.swap n m l)
    · exact .refl _
theorem sortS_perm : ∀ l : List Str, (sortS l).Perm l
  | [] => .refl _
  | n :: l => (insS_perm n (sortS l)).trans ((sortS_perm l).cons n)
theorem ltc_asym : ∀ (a b : List Nat), ltCps a b = true → ltCps b a = false
  | [], [], h => rfl
  | [], _ :: _, _ => rfl
  | _ :: _, [], h => by cases h
  | a :: r, b :: t, h => by
    unfold ltCps at h ⊢
    simp only [Bool.or_eq_true, decide_eq_true_eq, Bool.and_eq_true, beq_iff_eq, Bool.or_eq_false_iff, decide_eq_false_iff_not, Bool.and_eq_false_iff, beq_eq_false_iff_ne] at h ⊢
    rcases h with h | ⟨h, h'⟩
    · exact ⟨by omega, .inl (by omega)⟩
    · exact ⟨by omega, .inr (ltc_asym r t h')⟩
theorem insS_sorted (n : Str) : ∀ {l : List Str}, l.Pairwise leS → (insS n l).Pairwise leS
  | [], _ => by
    unfold insS
    simp
  | m :: l, h => by
    unfold insS
    rw [List.pairwise_cons] at h
    split
    · rename_i q
      refine List.pairwise_cons.mpr ⟨fun b hb => ?_, insS_sorted n h.2⟩
      rcases List.mem_cons.mp ((insS_perm n l).mem_iff.mp hb) with z | z
      · rw [z]; exact ltc_asym _ _ q
      · exact h.1 b z
    · rename_i q
      have q : leS n m := by
        unfold leS
        cases z : ltS m n with
        | true => exact absurd z q
        | false => rfl
      refine List.pairwise_cons.mpr ⟨fun b hb => ?_, List.pairwise_cons.mpr h⟩
      rcases List.mem_cons.mp hb with z | z
      · rw [z]; exact q
      · exact ltc_trans _ _ _ q (h.1 b z)
theorem sortS_sorted : ∀ l : List Str, (sortS l).Pairwise leS
  | [] => List.Pairwise.nil
  | n :: l => insS_sorted n (sortS_sorted l)
theorem risS_pw : ∀ (p : Str) (l : List Str), risingS p l = true → (p :: l).Pairwise leS
  | p, [], _ => by simp
  | p, x :: l, h => by
    unfold risingS at h
    simp only [Bool.and_eq_true, Bool.not_eq_true'] at h
    have ih := risS_pw x l h.2
    refine List.pairwise_cons.mpr ⟨fun b hb => ?_, ih⟩
    rcases List.mem_cons.mp hb with z | z
    · rw [z]; exact h.1
    · exact ltc_trans _ _ _ h.1 ((List.pairwise_cons.mp ih).1 b z)
theorem sortS_eq {l m : List Str} (p : m.Perm l) (h : sortedS m = true) : m = sortS l := by
  have hm : m.Pairwise leS := by
    cases m with
    | nil => exact .nil
    | cons x r => exact risS_pw x r h
  refine sort_uniq (le := leS) (fun a b h1 h2 => ?_) (p.trans (sortS_perm l).symm) hm (sortS_sorted l)
  have e := ltc_anti _ _ h2 h1
  obtain ⟨⟨x⟩⟩ := a
  obtain ⟨⟨y⟩⟩ := b
  simp only at e
  rw [e]
section
variable {N : Nm} {k : Kc} {h : EH} {X : XK} {Q : VK}
theorem intsE_ok : ∀ {xs : List EV} {ws : List V} {ns : List Int}, Rls N k xs ws → intsE xs = some ns → xs = ns.map .int ∧ ws = ns.map V.int
  | _, _, _, .nil, e => by cases e; exact ⟨rfl, rfl⟩
  | _, _, _, .cons a b, e => by
    cases a with
    | int i =>
      obtain ⟨l, h1, rfl⟩ := map_some e
      obtain ⟨e1, e2⟩ := intsE_ok b h1
      rw [e1, e2]
      exact ⟨rfl, rfl⟩
    | _ => cases e
theorem blsE_ok : ∀ {xs : List EV} {ws : List V} {ns : List Bool}, Rls N k xs ws → blsE xs = some ns → ws = ns.map V.bl
  | _, _, _, .nil, e => by cases e; rfl
  | _, _, _, .cons a b, e => by
    cases a with
    | bl i =>
      obtain ⟨l, h1, rfl⟩ := map_some e
      rw [blsE_ok b h1]
      rfl
    | _ => cases e
theorem strsE_ok : ∀ {xs : List EV} {ws : List V} {ns : List Str}, Rls N k xs ws → strsE xs = some ns → ws = ns.map V.str
  | _, _, _, .nil, e => by cases e; rfl
  | _, _, _, .cons a b, e => by
    cases a with
    | str i =>
      obtain ⟨l, h1, rfl⟩ := map_some e
      rw [strsE_ok b h1]
      rfl
    | _ => cases e
theorem keys_ok {κ : Type} {x : List (κ × EV)} {y : List (κ × V)} (r : Rkv N k x y) : y.map (·.1) = x.map (·.1) := by
  induction r with
  | nil => rfl
  | cons a b ih => rw [List.map_cons, List.map_cons, ih, a.1]
theorem kv_len {κ : Type} {x : List (κ × EV)} {y : List (κ × V)} (r : Rkv N k x y) : x.length = y.length := Paired.length r
theorem keysI_ok : ∀ {x : List (Key × EV)} {ks : List Int}, keysI x = some ks → x.map (·.1) = ks.map Sum.inl
  | [], _, e => by cases e; rfl
  | (.inl i, v) :: r, _, e => by
    obtain ⟨l, h1, rfl⟩ := map_some e
    rw [List.map_cons, List.map_cons, keysI_ok h1]
  | (.inr i, v) :: r, _, e => by cases e
theorem keysS_ok : ∀ {x : List (Key × EV)} {ks : List Str}, keysS x = some ks → x.map (·.1) = ks.map Sum.inr
  | [], _, e => by cases e; rfl
  | (.inr i, v) :: r, _, e => by
    obtain ⟨l, h1, rfl⟩ := map_some e
    rw [List.map_cons, List.map_cons, keysS_ok h1]
  | (.inl i, v) :: r, _, e => by cases e
theorem intsV_no {xs : List EV} {ws : List V} (r : Rls N k xs ws) (e : intsE xs = none) : intsV ws = none := by
  induction xs generalizing ws with
  | nil => cases e
  | cons x xs ih =>
    cases r with
    | cons a b =>
      cases a with
      | int i =>
        have e : (intsE xs).map (i :: ·) = none := e
        have : intsE xs = none := by cases q : intsE xs with
          | none => rfl
          | some l => rw [q] at e; cases e
        have ih := ih b this
        unfold intsV
        rw [ih]
        rfl
      | _ => rfl
theorem lstV_ref {H : Hp} {so : Addr → Option HO} {p : Addr} {vs : List V} (e : rd so H p = some (.lst vs)) : lstV so H (.ref p) = some vs := by
  unfold lstV
  simp only [e]
theorem lstV_dct {H : Hp} {so : Addr → Option HO} {p : Addr} {vs : List (Key × V)} (e : rd so H p = some (.dK vs)) : lstV so H (.ref p) = none := by
  unfold lstV
  simp only [e]
theorem lstV_tup {H : Hp} {so : Addr → Option HO} {p : Addr} {vs : List V} (e : rd so H p = some (.tup vs)) : lstV so H (.ref p) = none := by
  unfold lstV
  simp only [e]
theorem tupV_tup {H : Hp} {so : Addr → Option HO} {p : Addr} {vs : List V} (e : rd so H p = some (.tup vs)) : tupV so H (.ref p) = some vs := by
  unfold tupV
  simp only [e]
theorem tupV_lst {H : Hp} {so : Addr → Option HO} {p : Addr} {vs : List V} (e : rd so H p = some (.lst vs)) : tupV so H (.ref p) = none := by
  unfold tupV
  simp only [e]
theorem sortedE_ok (s : Sim N k h) {x : EV} {w : V} (r : Rl N k x w) (p : Po N (Rl N) k (sortedE x h) Q X) : bSorted N.so [w] k.H Q := by
  unfold sortedE at p
  cases r with
  | ref ha =>
    simp only at p
    split at p
    · rename_i kvs e
      obtain ⟨ws, h1, h2⟩ := dct_at s e
      have nl := lstV_dct (rd_d (N := N) h1)
      unfold bSorted
      simp only [nl, Option.bind_none]
      split at p
      · rename_i ks ek
        obtain ⟨c, p⟩ := Po.chk p
        refine .inl ⟨_, ws, ks, rfl, h1, (keys_ok h2).trans (keysI_ok ek), of_decide_eq_true c, fun ys a hp hs ha so => ?_⟩
        rw [sortI_eq hp hs]
        exact p.newL s Rls.ints ha so
      · split at p
        · rename_i ks ek
          obtain ⟨c, p⟩ := Po.chk p
          refine .inr (.inl ⟨_, ws, ks, rfl, h1, (keys_ok h2).trans (keysS_ok ek), of_decide_eq_true c, fun ys a hp hs ha so => ?_⟩)
          rw [sortS_eq hp hs]
          exact p.newL s Rls.strs ha so
        · exact p.elim
    · rename_i xs e
      obtain ⟨ws, h1, h2⟩ := lst_at s e
      have nl := lstV_ref (rd_l (N := N) h1)
      unfold bSorted
      simp only [nl, Option.bind_some]
      split at p
      · rename_i ns en
        obtain ⟨e1, e2⟩ := intsE_ok h2 en
        subst e2
        simp only [intsV_ints]
        intro ys a hp hs ha so
        rw [sortI_eq hp hs]
        exact p.newL s Rls.ints ha so
      · rename_i en
        rw [intsV_no h2 en]
        split at p
        · rename_i ns es
          obtain ⟨c, p⟩ := Po.chk p
          have e2 := strsE_ok h2 es
          subst e2
          refine .inr (.inr (.inl ⟨ns, nl, of_decide_eq_true c, fun ys a hp hs ha so => ?_⟩))
          rw [sortS_eq hp hs]
          exact p.newL s Rls.strs ha so
        · exact p.elim
    · exact p.elim
  | _ => exact p.elim
theorem lenE_ok (s : Sim N k h) {x : EV} {w : V} {n : Nat} (r : Rl N k x w) (e : lenE h x = some n) : lenV N.so k.H w = some n := by
  cases r with
  | str x => exact e
  | tup q r =>
    cases e
    unfold lenV
    simp only [q]
    rw [r.length]
  | ref ha =>
    unfold lenE at e
    simp only at e
    unfold lenV
    split at e
    · rename_i q
      obtain ⟨vs, h2, h3⟩ := lst_at s q
      cases e
      simp only [rd_l (N := N) h2]
      rw [h3.length]
    · rename_i q
      obtain ⟨vs, h2, h3⟩ := fls_at s q
      cases e
      simp only [h2]
      rw [h3.length]
    · rename_i q
      obtain ⟨vs, h2, h3⟩ := dct_at s q
      cases e
      simp only [rd_d (N := N) h2, h2]
      rw [kv_len h3]
    · cases e
  | _ => cases e
theorem reprE_ok (s : Sim N k h) {x : EV} {w : V} (r : Rl N k x w) (p : Po N (Rl N) k (reprE x h) Q X) : bRepr N.so [w] k.H Q := by
  unfold reprE at p
  split at p
  · rename_i d e
    obtain ⟨c, p⟩ := Po.chk p
    simp only [Bool.and_eq_true, Bool.not_eq_true', decide_eq_true_eq] at c
    exact .inl ⟨d, toD_ok s _ r e, c.1, c.2.1, c.2.2.1, c.2.2.2, p.ok s (.str _)⟩
  · obtain ⟨c, p2⟩ := Po.chk p
    cases r with
    | ref ha =>
      unfold isDct0 at c
      simp only at c
      split at c
      · rename_i q
        obtain ⟨vs, h2, h3⟩ := dct_at s q
        cases h3
        exact .inr ⟨_, rfl, h2, p2.ok s (.str _)⟩
      · cases c
    | _ => cases c
theorem lsts_ok (s : Sim N k h) {x : EV} {w : V} {xs : List EV} (r : Rl N k x w) (e : lstE h x = some xs) : ∃ vs, lstV N.so k.H w = some vs ∧ Rls N k xs vs := by
  obtain ⟨p, vs, rfl, h1, h2⟩ := lstE_ok s r e
  exact ⟨vs, lstV_ref h1, h2⟩
theorem biE_ok (s : Sim N k h) {b : Bi} {xs : List EV} {ws : List V} (r : Rls N k xs ws) (p : Po N (Rl N) k (biE b xs h) Q X) : biV N.so b ws k.H Q := by
  unfold biE at p
  split at p
  · -- len
    obtain ⟨v, e, p⟩ := Po.opt p
    obtain ⟨n, h1, rfl⟩ := map_some e
    cases r with | cons a b => cases b; rw [show biV N.so .len = bLen N.so from rfl]; unfold bLen; simp only [lenE_ok s a h1]; exact p.ok s (.int _)
  · cases r with | cons a b => cases b; cases a; exact p.ok s (.int _)
  · cases r with | cons a b => cases b; cases a; exact p.ok s (.int _)
  · obtain ⟨c, p⟩ := Po.chk p
    obtain ⟨v, e, p⟩ := Po.opt p
    obtain ⟨n, h1, rfl⟩ := map_some e
    cases r with | cons a b => cases b; cases a; exact ⟨of_decide_eq_true c, n, h1, p.ok s (.int _)⟩
  · cases r with | cons a b => cases b; cases a; exact p.ok s (.bl _)
  · cases r with | cons a b => cases b; cases a; exact p.ok s (.bl _)
  · obtain ⟨c, p⟩ := Po.chk p
    cases r with | cons a b => cases b; cases a; exact ⟨of_decide_eq_true c, p.ok s (.str _)⟩
  · cases r with | cons a b => cases b; exact reprE_ok s a p
  · cases r with | cons a b => cases b with | cons c d => cases d; cases a; cases c; exact p.ok s (.int _)
  · cases r with | cons a b => cases b with | cons c d => cases d; cases a; cases c; exact p.ok s (.int _)
  · cases r with | cons a b => cases b; cases a; exact p.ok s (.int _)
  · -- sum
    obtain ⟨v, e, p⟩ := Po.opt p
    obtain ⟨ns, h1, rfl⟩ := map_some e
    obtain ⟨ys, h2, h3⟩ := bind_some h1
    cases r with
    | cons a b =>
      cases b
      obtain ⟨vs, h4, h5⟩ := lsts_ok s a h2
      obtain ⟨_, e2⟩ := intsE_ok h5 h3
      subst e2
      rw [show biV N.so .sum = bSum N.so from rfl]
      unfold bSum
      simp only [h4, Option.bind_some, intsV_ints]
      exact p.ok s (.int _)
  · obtain ⟨v, e, p⟩ := Po.opt p
    obtain ⟨ns, h1, rfl⟩ := map_some e
    obtain ⟨ys, h2, h3⟩ := bind_some h1
    cases r with
    | cons a b =>
      cases b
      obtain ⟨vs, h4, h5⟩ := lsts_ok s a h2
      have e2 := blsE_ok h5 h3
      subst e2
      rw [show biV N.so .any = bAny N.so from rfl]
      unfold bAny
      simp only [h4, Option.bind_some, blsV_bls]
      exact p.ok s (.bl _)
  · obtain ⟨v, e, p⟩ := Po.opt p
    obtain ⟨ns, h1, rfl⟩ := map_some e
    obtain ⟨ys, h2, h3⟩ := bind_some h1
    cases r with
    | cons a b =>
      cases b
      obtain ⟨vs, h4, h5⟩ := lsts_ok s a h2
      have e2 := blsE_ok h5 h3
      subst e2
      rw [show biV N.so .all = bAll N.so from rfl]
      unfold bAll
      simp only [h4, Option.bind_some, blsV_bls]
      exact p.ok s (.bl _)
  · split at p
    · rename_i ys e
      obtain ⟨c, p⟩ := Po.chk p
      cases r with
      | cons a b =>
        cases b
        obtain ⟨q, vs, rfl, h1, h2⟩ := seqE_ok s a e
        rw [show biV N.so .list = bList N.so from rfl]
        unfold bList
        rcases h1 with h1 | h1
        · simp only [lstV_tup h1, tupV_tup h1]
          exact fun l hl hs => p.newL s h2 hl hs
        · simp only [lstV_ref h1]
          exact fun l hl hs => p.newL s h2 hl hs
    · exact p.elim
  · obtain ⟨v, e, p⟩ := Po.opt p
    obtain ⟨ys, h1, rfl⟩ := map_some e
    cases r with
    | cons a b =>
      cases b
      obtain ⟨q, vs, rfl, h3, h2⟩ := seqE_ok s a h1
      rw [show biV N.so .tuple = bTuple N.so from rfl]
      unfold bTuple
      rcases h3 with h3 | h3
      · simp only [lstV_tup h3, tupV_tup h3]
        exact p.ok s (.tup h3 h2)
      · simp only [lstV_ref h3]
        exact fun l hl hs => p.layT s h2 hl hs
  · cases r with | cons a b => cases b; exact sortedE_ok s a p
  · exact p.elim
theorem atI_ok {xs : List EV} {ws : List V} {i : Int} {v : EV} (r : Rls N k xs ws) (e : atI xs i = some v) : ∃ w, atI ws i = some w ∧ Rl N k v w := by
  unfold atI at e ⊢
  rw [← r.length]
  obtain ⟨j, h1, h2⟩ := bind_some e
  obtain ⟨w, h3, h4⟩ := r.get h2
  exact ⟨w, by rw [h1]; exact h3, h4⟩
theorem val_at {kvs : List (Key × EV)} {ws : List (Key × V)} (r : Rkv N k kvs ws) {κ : Key} {v : EV} (e : valE kvs κ = some v) : ∃ w, valV ws κ = some w ∧ Rl N k v w := by
  have z := valE_ok r κ
  rw [e] at z
  cases q : valV ws κ with
  | none => rw [q] at z; exact z.elim
  | some w => rw [q] at z; exact ⟨w, rfl, z⟩
theorem idxE_ok (s : Sim N k h) {x y : EV} {w u : V} (rx : Rl N k x w) (ry : Rl N k y u) (p : Po N (Rl N) k (idxE x y h) Q X) : idxV N.so w u k.H Q := by
  unfold idxE at p
  cases rx with
  | tup q r =>
    cases ry with
    | int i =>
      simp only at p
      obtain ⟨v, e, p⟩ := Po.opt p
      obtain ⟨w, h1, h2⟩ := atI_ok r e
      unfold idxV
      simp only [q, h1]
      exact p.ok s h2
    | _ => exact p.elim
  | ref ha =>
    cases ry with
    | int i =>
      simp only at p
      unfold idxV
      split at p
      · rename_i q
        obtain ⟨vs, h2, h3⟩ := lst_at s q
        obtain ⟨v, e, p⟩ := Po.opt p
        obtain ⟨w, h4, h5⟩ := atI_ok h3 e
        simp only [rd_l (N := N) h2, h4]
        exact p.ok s h5
      · rename_i q
        obtain ⟨vs, h2, h3⟩ := fls_at s q
        obtain ⟨v, e, p⟩ := Po.opt p
        obtain ⟨w, h4, h5⟩ := atI_ok h3 e
        simp only [h2, h4]
        exact p.ok s h5
      · rename_i q
        obtain ⟨vs, h2, h3⟩ := dct_at s q
        obtain ⟨v, e, p⟩ := Po.opt p
        obtain ⟨w, h4, h5⟩ := val_at h3 e
        simp only [rd_d (N := N) h2, h2, h4]
        exact p.ok s h5
      · exact p.elim
    | str z =>
      simp only at p
      unfold idxV
      split at p
      · rename_i q
        obtain ⟨vs, h2, h3⟩ := dct_at s q
        obtain ⟨v, e, p⟩ := Po.opt p
        obtain ⟨w, h4, h5⟩ := val_at h3 e
        simp only [rd_d (N := N) h2, h2, h4]
        exact p.ok s h5
      · exact p.elim
    | _ => exact p.elim
  | str z =>
    cases ry with
    | int i =>
      simp only at p
      obtain ⟨c, p⟩ := Po.chk p
      obtain ⟨v, e, p⟩ := Po.opt p
      obtain ⟨cc, h1, rfl⟩ := map_some e
      unfold idxV
      simp only [h1]
      exact ⟨of_decide_eq_true c, p.ok s (.str _)⟩
    | _ => exact p.elim
  | _ => exact p.elim
theorem cut_ok {xs : List EV} {ws : List V} (r : Rls N k xs ws) (lo hi : Option Int) : Rls N k (cutE xs lo hi) (cutV ws lo hi) := by
  unfold cutE cutV
  rw [← r.length]
  exact (r.drop _).take _
theorem cut_all {ws : List V} {lo hi : Option Int} (h1 : HT.sIx ws.length 0 lo = 0) (h2 : HT.sIx ws.length ws.length hi = ws.length) : cutV ws lo hi = ws := by
  unfold cutV
  rw [h1, h2, List.drop_zero, Nat.sub_zero, List.take_length]
theorem slcE_ok (s : Sim N k h) {x : EV} {w : V} {lo hi : Option Int} (rx : Rl N k x w) (p : Po N (Rl N) k (slcE x lo hi h) Q X) : slcV N.so w lo hi k.H Q := by
  unfold slcE at p
  cases rx with
  | tup q r =>
    simp only at p
    unfold slcV
    simp only [lstV_tup q, tupV_tup q]
    refine ⟨fun e => ?_, fun _ a ha hs => p.layT s (cut_ok r lo hi) ha hs⟩
    have z := cut_ok r lo hi
    rw [cut_all e.1 e.2] at z
    exact p.ok s (.tup q z)
  | str z =>
    simp only at p
    obtain ⟨c, p⟩ := Po.chk p
    exact ⟨of_decide_eq_true c, p.ok s (.str _)⟩
  | ref ha =>
    simp only at p
    split at p
    · rename_i xs e
      obtain ⟨q, vs, z, h1, h2⟩ := lstE_ok s (.ref ha) e
      cases z
      unfold slcV
      simp only [lstV_ref h1]
      exact fun a ha hs => p.newL s (cut_ok h2 lo hi) ha hs
    · exact p.elim
  | _ =>
    simp only at p
    split at p
    · rename_i e
      cases e
    · exact p.elim
/-! ### stores -/
theorem put_map {kvs : List (Key × EV)} {ws : List (Key × V)} (r : Rkv N k kvs ws) (κ : Key) {v : EV} {w : V} (q : Rl N k v w) : Rkv N k (kvs.map fun kv => if kv.1 = κ then (kv.1, v) else kv) (ws.map fun kv => if kv.1 = κ then (kv.1, w) else kv) := by
  induction r with
  | nil => exact .nil
  | cons a b ih =>
    rw [List.map_cons, List.map_cons]
    refine .cons ?_ ih
    rename_i p1 q1 _ _
    by_cases e : p1.1 = κ
    · rw [if_pos e, if_pos (a.1.symm.trans e)]
      exact ⟨a.1, q⟩
    · rw [if_neg e, if_neg (fun z => e (a.1.trans z))]
      exact a
theorem put_ok {kvs : List (Key × EV)} {ws : List (Key × V)} (r : Rkv N k kvs ws) (κ : Key) {v : EV} {w : V} (q : Rl N k v w) : Rkv N k (putE kvs κ v) (putK ws κ w) := by
  have ha : (kvs.any fun kv => decide (kv.1 = κ)) = (ws.any fun kv => decide (kv.1 = κ)) := by
    clear q
    induction r with
    | nil => rfl
    | cons a b ih => rw [List.any_cons, List.any_cons, ih, a.1]
  unfold putE putK
  rw [ha]
  split
  · exact put_map r κ q
  · exact Paired.snoc r ⟨rfl, q⟩
theorem drop_ok {kvs : List (Key × EV)} {ws : List (Key × V)} (r : Rkv N k kvs ws) (κ : Key) : Rkv N k (dropE kvs κ) (dropK ws κ) := by
  unfold dropE dropK
  induction r with
  | nil => exact .nil
  | cons a b ih =>
    rename_i p1 q1 _ _
    have a1 := a.1
    by_cases e : p1.1 = κ
    · rw [List.filter_cons_of_neg (by simp [e]), List.filter_cons_of_neg (by simp [← a1, e])]
      exact ih
    · rw [List.filter_cons_of_pos (by simp [e]), List.filter_cons_of_pos (by simp [← a1, e])]
      exact .cons a ih
theorem putF_ok {fs : List (Str × EV)} {ws : List (Str × V)} (r : Rkv N k fs ws) (f : Str) {v : EV} {w : V} (q : Rl N k v w) : Rkv N k (putFE f v fs) (putF f w ws) := by
  induction r with
  | nil => exact .cons ⟨rfl, q⟩ .nil
  | cons a b ih =>
    rename_i p1 q1 l1 l2
    obtain ⟨g, x⟩ := p1
    obtain ⟨g', x'⟩ := q1
    obtain ⟨a1, a2⟩ := a
    have a1 : g = g' := a1
    subst a1
    unfold putFE putF
    rw [eqK_iff]
    cases e : g == f with
    | true =>
      rw [if_pos (by simpa using e)]
      exact .cons ⟨rfl, q⟩ b
    | false =>
      rw [if_neg (by simpa using e)]
      exact .cons ⟨rfl, a2⟩ ih
theorem some_ne {α : Type} {o : Option α} {a : α} (h : o = some a) : o ≠ none := by rw [h]; simp
theorem Po.put {α : Type} {v : α} {β : Type} {rel : Kc → α → β → Prop} {B : β → Hp → Prop} {a : Nat} {o : EO} {u : HO} (p : Po N rel k (.ok v (h.set a o)) B X) (s : Sim N k h) (ha : a < k.n) (hw : k.H (k.ρ a) ≠ none) (hr : ObR N (k.put a u) (k.ρ a) o) {w : β} (r : rel (k.put a u) v w) : B w (upd k.H (k.ρ a) u) :=
  p (k.put a u) w (LeK.put s ha hw) (s.put ha hw hr) r
theorem setE_ok (s : Sim N k h) {o i v : EV} {w u z : V} {B : Hp → Prop} (ro : Rl N k o w) (ri : Rl N k i u) (rv : Rl N k v z) (p : Po N Same k (setE o i v h) (fun _ H => B H) X) : setV w u z k.H B := by
  unfold setE at p
  cases ro with
  | ref ha =>
    cases ri with
    | int i =>
      simp only at p
      unfold setV
      split at p
      · rename_i q
        obtain ⟨vs, h2, h3⟩ := lst_at s q
        split at p
        · rename_i j ej
          simp only [h2]
          rw [← h3.length, ej]
          simp only
          have l := LeK.put (u := .lst (vs.set j z)) s ha (some_ne h2)
          exact Po.put p s ha (some_ne h2) ⟨_, upd_same, (Rls.set rv j h3).mono l s⟩ rfl
        · exact p.elim
      · rename_i q
        obtain ⟨vs, h2, h3⟩ := dct_at s q
        obtain ⟨c, p⟩ := Po.chk p
        simp only [h2]
        have l := LeK.put (u := .dK (putK vs (.inl i) z)) s ha (some_ne h2)
        exact ⟨by rw [← kv_len h3]; exact of_decide_eq_true c, Po.put p s ha (some_ne h2) ⟨_, upd_same, (put_ok h3 _ rv).mono l s⟩ rfl⟩
      · exact p.elim
    | str x =>
      simp only at p
      unfold setV
      split at p
      · rename_i q
        obtain ⟨vs, h2, h3⟩ := dct_at s q
        obtain ⟨c, p⟩ := Po.chk p
        simp only [h2]
        have l := LeK.put (u := .dK (putK vs (.inr x) z)) s ha (some_ne h2)
        exact ⟨by rw [← kv_len h3]; exact of_decide_eq_true c, Po.put p s ha (some_ne h2) ⟨_, upd_same, (put_ok h3 _ rv).mono l s⟩ rfl⟩
      · exact p.elim
    | _ => exact p.elim
  | _ => exact p.elim
end
end QL
set_option Elab.async false
set_option linter.all false
set_option maxRecDepth 100000
set_option maxHeartbeats 4000000
/-! E5: methods, fields, classes, targets, sources on own heaps. -/
namespace QL
open PySem PySem.Spec
open L2 hiding wE wT
open PyProof.Rows hiding St
theorem erase_at : ∀ {ns : List Int} {k : Int}, ns.contains k = true → ∃ j : Nat, ns[j]? = some k ∧ (∀ m : Nat, m < j → ns[m]? ≠ some k) ∧ ns.eraseIdx j = ns.erase k
  | [], k, h => by cases h
  | n :: ns, k, h => by
    by_cases e : n = k
    · subst e
      refine ⟨0, rfl, fun m hm => absurd hm (Nat.not_lt_zero _), ?_⟩
      simp
    · have h' : ns.contains k = true := by
        simp only [List.contains_cons, Bool.or_eq_true, beq_iff_eq] at h
        rcases h with h | h
        · exact absurd h.symm e
        · exact h
      obtain ⟨j, h1, h2, h3⟩ := erase_at h'
      refine ⟨j + 1, by simpa using h1, fun m hm => ?_, ?_⟩
      · cases m with
        | zero => simpa using e
        | succ m => simpa using h2 m (by omega)
      · rw [List.eraseIdx_cons_succ, h3, List.erase_cons_tail (by simpa using e)]
section
variable {N : Nm} {k : Kc} {h : EH} {X : XK} {Q : VK}
theorem countP_ok {y : EV} {u : V} (ry : Rl N k y u) (fy : flatE y = true) : ∀ {x : List EV} {w : List V}, Rls N k x w → (w.countP fun z => eqV z u) = x.countP fun z => eqF z y
  | _, _, .nil => rfl
  | _, _, .cons a b => by rw [List.countP_cons, List.countP_cons, countP_ok ry fy b, eqF_ok a ry fy]
theorem bmTy_ok (s : Sim N k h) {S : Stat} (hS : S.so = N.so) {m : Bm} {x : EV} {w : V} (r : Rl N k x w) (e : bmTyE m x h = true) : bmTyK S m w k.H := by
  unfold bmTyE at e
  cases r with
  | ref ha =>
    simp only at e
    unfold bmTyK
    split at e
    · rename_i q1 q2
      obtain ⟨vs, h1, _⟩ := dct_at s q1
      rw [q2]
      simp only [h1]
    · rename_i q1 q2
      obtain ⟨vs, h1, _⟩ := lst_at s q1
      rw [q2]
      simp only [hS, rd_l (N := N) h1]
    · cases e
  | _ => cases e
theorem keyV_eq {x : EV} {w : V} {κ : Key} (r : Rl N k x w) (e : keyE x = some κ) : w = kV κ := keyV_kV (keyE_ok r e)
theorem bmE_ok (s : Sim N k h) {S : Stat} (hS : S.so = N.so) {m : Bm} {x : EV} {w : V} {xs : List EV} {ws : List V} (r : Rl N k x w) (rs : Rls N k xs ws) (p : Po N (Rl N) k (bmE m x xs h) Q X) : bmV S m w ws k.H Q := by
  unfold bmE at p
  cases r with
  | ref ha =>
    simp only at p
    split at p
    · rename_i q
      obtain ⟨vs, h1, r1⟩ := lst_at s q
      obtain ⟨c, p⟩ := Po.chk p
      rw [Bool.and_eq_true] at c
      cases rs with
      | cons a b =>
        cases b
        rw [show bmV S .count = mCount S from rfl]
        unfold mCount
        simp only [hS, rd_l (N := N) h1]
        refine ⟨(flat_ok a).trans c.1, (flats_ok r1).trans c.2, ?_⟩
        rw [countP_ok a c.1 r1]
        exact p.ok s (.int _)
    · rename_i q
      obtain ⟨vs, h1, r1⟩ := lst_at s q
      obtain ⟨c, p⟩ := Po.chk p
      cases rs with
      | cons a b =>
        cases b
        rw [show bmV S .append = mAppend from rfl]
        unfold mAppend
        simp only [h1]
        rename_i w0
        have l := LeK.put (u := .lst (vs ++ [w0])) s ha (some_ne h1)
        exact ⟨by rw [← r1.length]; exact of_decide_eq_true c, Po.put p s ha (some_ne h1) ⟨_, upd_same, (r1.app (.cons a .nil)).mono l s⟩ .non⟩
    · rename_i q
      obtain ⟨vs, h1, r1⟩ := lst_at s q
      obtain ⟨c, p⟩ := Po.chk p
      rw [Bool.and_eq_true] at c
      cases rs with
      | cons a b =>
        cases a
        cases b with
        | cons a b =>
          cases b
          rw [show bmV S .insert = mInsert from rfl]
          unfold mInsert
          simp only [h1]
          rename_i w0
          have l := LeK.put (u := .lst (w0 :: vs)) s ha (some_ne h1)
          exact ⟨of_decide_eq_true c.1, by rw [← r1.length]; exact of_decide_eq_true c.2, Po.put p s ha (some_ne h1) ⟨_, upd_same, (Rls.cons a r1).mono l s⟩ .non⟩
    · rename_i q
      obtain ⟨vs, h1, r1⟩ := lst_at s q
      split at p
      · rename_i ns e
        obtain ⟨c, p⟩ := Po.chk p
        cases rs with
        | cons a b =>
          cases b
          cases a
          obtain ⟨j, e1, e2, e3⟩ := erase_at c
          obtain ⟨_, e4⟩ := intsE_ok r1 e
          subst e4
          rw [show bmV S .remove = mRemove from rfl]
          refine ⟨ns, j, h1, e1, e2, ?_⟩
          rw [e3]
          exact Po.put p s ha (some_ne h1) ⟨_, upd_same, Rls.ints⟩ .non
      · exact p.elim
    · rename_i q
      obtain ⟨vs, h1, r1⟩ := lst_at s q
      split at p
      · rename_i zs q2
        obtain ⟨c, p⟩ := Po.chk p
        cases rs with
        | cons a b =>
          cases b
          cases a
          obtain ⟨us, h2, r2⟩ := lst_at s q2
          rw [show bmV S .extend = mExtend from rfl]
          have l := LeK.put (u := .lst (vs ++ us)) s ha (some_ne h1)
          exact ⟨vs, us, h1, h2, by rw [← r1.length, ← r2.length]; exact of_decide_eq_true c, Po.put p s ha (some_ne h1) ⟨_, upd_same, (r1.app r2).mono l s⟩ .non⟩
      · exact p.elim
    · rename_i q
      obtain ⟨vs, h1, r1⟩ := dct_at s q
      split at p
      · rename_i κ e
        split at p
        · rename_i v ev
          cases rs with
          | cons a b =>
            cases b
            obtain ⟨w0, e1, r2⟩ := val_at r1 ev
            rw [show bmV S .dpop1 = mDPop1 from rfl]
            have l := LeK.put (u := .dK (dropK vs κ)) s ha (some_ne h1)
            exact ⟨vs, κ, w0, h1, keyV_eq a e, e1, Po.put p s ha (some_ne h1) ⟨_, upd_same, (drop_ok r1 κ).mono l s⟩ (r2.mono l s)⟩
        · exact p.elim
      · exact p.elim
    · rename_i q
      obtain ⟨vs, h1, r1⟩ := dct_at s q
      split at p
      · rename_i κ e
        cases rs with
        | cons a b =>
          cases b with
          | cons a2 b =>
            cases b
            rw [show bmV S .dpop2 = mDPop2 from rfl]
            refine ⟨vs, κ, h1, keyV_eq a e, ?_⟩
            have z := valE_ok r1 κ
            split at p
            · rename_i v ev
              obtain ⟨w0, e1, r2⟩ := val_at r1 ev
              rw [e1]
              have l := LeK.put (u := .dK (dropK vs κ)) s ha (some_ne h1)
              exact Po.put p s ha (some_ne h1) ⟨_, upd_same, (drop_ok r1 κ).mono l s⟩ (r2.mono l s)
            · rename_i ev
              rw [ev] at z
              cases q2 : valV vs κ with
              | none => exact p.ok s a2
              | some w0 => rw [q2] at z; exact z.elim
      · exact p.elim
    · rename_i q
      obtain ⟨vs, h1, r1⟩ := dct_at s q
      split at p
      · rename_i κ e
        cases rs with
        | cons a b =>
          cases b
          rw [show bmV S .dget1 = mDGet1 from rfl]
          refine ⟨vs, κ, h1, keyV_eq a e, ?_⟩
          have z := valE_ok r1 κ
          cases q1 : valE _ κ with
          | none =>
            rw [q1] at z p
            cases q2 : valV vs κ with
            | none => exact p.ok s .non
            | some w0 => rw [q2] at z; exact z.elim
          | some v =>
            rw [q1] at z p
            cases q2 : valV vs κ with
            | none => rw [q2] at z; exact z.elim
            | some w0 => rw [q2] at z; exact p.ok s z
      · exact p.elim
    · rename_i q
      obtain ⟨vs, h1, r1⟩ := dct_at s q
      split at p
      · rename_i κ e
        cases rs with
        | cons a b =>
          cases b with
          | cons a2 b =>
            cases b
            rw [show bmV S .dget2 = mDGet2 from rfl]
            refine ⟨vs, κ, h1, keyV_eq a e, ?_⟩
            have z := valE_ok r1 κ
            cases q1 : valE _ κ with
            | none =>
              rw [q1] at z p
              cases q2 : valV vs κ with
              | none => exact p.ok s a2
              | some w0 => rw [q2] at z; exact z.elim
            | some v =>
              rw [q1] at z p
              cases q2 : valV vs κ with
              | none => rw [q2] at z; exact z.elim
              | some w0 => rw [q2] at z; exact p.ok s z
      · exact p.elim
    · exact p.elim
  | _ => exact p.elim
end
/-- what both sides know of the top -/
structure EsOk (N : Nm) (S : Stat) (E : ES) : Prop where
  so : S.so = N.so
  gv : ∀ x v, E.gv x = some v → ∃ w, S.gv x = some w ∧ ∀ k h, Sim N k h → Rl N k v w
  gd : ∀ x l, E.gd x = some l → ∃ l', S.gd x = some l' ∧ Paired (fun (p : Str × EV) (q : Str × V) => p.1 = q.1 ∧ ∀ k h, Sim N k h → Rl N k p.2 q.2) l l'
  fl : ∀ c f C, E.fl c f = true → N.cl c = some C → S.fl C f
  xc : ∀ c f, E.xc c = some f → ∃ C, N.cl c = some C ∧ S.xc c = some (C, f)
  isa : ∀ c d b C, E.isa c d = some b → N.cl c = some C → S.isa C d = some b
  iso : ∀ c d b C, E.iso c d = some b → N.cl c = some C → S.iso C d = some b
  isb : ∀ c, E.isb c = true → S.isb c = true
  xf : ∀ c f C, E.xf c f = true → N.cl c = some C → S.xf C f
  mt : ∀ c m g C, E.mt c m = some g → N.cl c = some C → S.mt C m = some g
  mkc : ∀ c n ks g pm, E.mkc c n ks = some (g, pm) → ∃ C pm', N.cl c = some C ∧ S.mkc c n ks = some (C, g, pm') ∧ Paired (fun (p : Nat ⊕ EV) (q : Nat ⊕ V) => match p, q with
    | .inl i, .inl j => i = j
    | .inr v, .inr w => ∀ k h, Sim N k h → Rl N k v w
    | _, _ => False) pm pm'
section
variable {N : Nm} {S : Stat} {E : ES} (O : EsOk N S E) {k : Kc} {h : EH} {X : XK} {Q : VK}
theorem look_ok {κ : Type} [BEq κ] [LawfulBEq κ] {fs : List (κ × EV)} {ws : List (κ × V)} (r : Rkv N k fs ws) (f : κ) : match fs.lookup f, ws.lookup f with
    | some v, some w => Rl N k v w
    | none, none => True
    | _, _ => False := by
  induction r with
  | nil => exact trivial
  | cons a b ih =>
    rename_i p q _ _
    obtain ⟨g, x⟩ := p
    obtain ⟨g', x'⟩ := q
    obtain ⟨a1, a2⟩ := a
    have a1 : g = g' := a1
    subst a1
    rw [List.lookup_cons, List.lookup_cons]
    cases f == g with
    | true => exact a2
    | false => exact ih
theorem look_some {κ : Type} [BEq κ] [LawfulBEq κ] {fs : List (κ × EV)} {ws : List (κ × V)} (r : Rkv N k fs ws) {f : κ} {v : EV} (e : fs.lookup f = some v) : ∃ w, ws.lookup f = some w ∧ Rl N k v w := by
  have z := look_ok r f
  rw [e] at z
  cases q : ws.lookup f with
  | none => rw [q] at z; exact z.elim
  | some w => rw [q] at z; exact ⟨w, rfl, z⟩
theorem look_none {κ : Type} [BEq κ] [LawfulBEq κ] {fs : List (κ × EV)} {ws : List (κ × V)} (r : Rkv N k fs ws) {f : κ} (e : fs.lookup f = none) : ws.lookup f = none := by
  have z := look_ok r f
  rw [e] at z
  cases q : ws.lookup f with
  | none => rfl
  | some w => rw [q] at z; exact z.elim
include O
theorem fldE_ok (s : Sim N k h) {f : Str} {x : EV} {w : V} (r : Rl N k x w) (p : Po N (Rl N) k (fldE E f x h) Q X) : fldV S f w k.H Q := by
  unfold fldE at p
  cases r with
  | ref ha =>
    simp only at p
    split at p
    · rename_i q
      obtain ⟨C, dx, ws, h1, h2, h3⟩ := ins_at s q
      obtain ⟨c, p⟩ := Po.chk p
      obtain ⟨v, e, p⟩ := Po.opt p
      rw [lookK_eq] at e
      obtain ⟨w0, e2, r2⟩ := look_some h3 e
      unfold fldV
      simp only [h1, e2]
      exact ⟨O.fl _ _ _ c h2, p.ok s r2⟩
    · exact p.elim
  | exc q1 q2 r =>
    simp only at p
    obtain ⟨c, p2⟩ := Po.chk p
    clear p
    rw [Bool.and_eq_true, beq_iff_eq] at c
    obtain ⟨c1, rfl⟩ := c
    have z := q1
    obtain ⟨d, e1, e2⟩ := q1
    unfold fldV
    simp only [e1]
    exact ⟨_, _, _, z, O.xf _ _ _ c1 q2, by simp [List.lookup], p2.ok s r⟩
  | _ => exact p.elim
theorem isxE_ok (s : Sim N k h) {c : Str} {x : EV} {w : V} {b : Bool} {B : Bool → Prop} (r : Rl N k x w) (e : isxE E c x h = some b) (q : B b) : isxK S c w k.H B := by
  have sc : (if E.isb c = true then some false else none) = some b → S.isb c = true ∧ B false := fun z => by
    split at z
    · rename_i z2
      cases z
      exact ⟨O.isb c z2, q⟩
    · cases z
  unfold isxE at e
  cases r with
  | non => exact sc e
  | bl b => exact sc e
  | int b => exact sc e
  | str b => exact sc e
  | tup q1 r =>
    have := sc e
    unfold isxK
    simp only
    split
    · rename_i e1
      unfold rd at q1
      rw [e1] at q1
      cases q1
    · rename_i e1
      unfold rd at q1
      rw [e1] at q1
      cases q1
    · exact this
    · rw [O.so, q1]
      exact this
  | exc q1 q2 r =>
    have z := q1
    obtain ⟨d, e1, e2⟩ := q1
    unfold isxK
    simp only [e1]
    exact ⟨_, _, b, z, O.isa _ _ _ _ e q2, q⟩
  | exc0 q1 q2 =>
    have z := q1
    obtain ⟨d, e1, e2⟩ := q1
    unfold isxK
    simp only [e1]
    exact ⟨_, _, b, z, O.isa _ _ _ _ e q2, q⟩
  | ref ha =>
    simp only at e
    unfold isxK
    split at e
    · rename_i q1
      obtain ⟨C, dx, ws, h1, h2, h3⟩ := ins_at s q1
      simp only [h1]
      exact ⟨b, O.iso _ _ _ _ e h2, q⟩
    · rename_i q1
      obtain ⟨ws, h1, h3⟩ := lst_at s q1
      simp only [h1, O.so, rd_l (N := N) h1]
      exact sc e
    · rename_i q1
      obtain ⟨ws, h1, h3⟩ := dct_at s q1
      simp only [h1]
      exact sc e
    · cases e
theorem mkxE_ok (s : Sim N k h) {c : Str} {xs : List EV} {ws : List V} (r : Rls N k xs ws) (p : Po N (Rl N) k (mkxE E c xs h) Q X) : mkxV S c ws k.H Q := by
  unfold mkxE at p
  split at p
  · rename_i g v e
    obtain ⟨C, h1, h2⟩ := O.xc _ _ e
    cases r with
    | cons a b =>
      cases b
      unfold mkxV
      simp only [h2]
      rename_i w
      intro x d hx hd hn sx sd
      have l1 := LeK.lay (N := N) (u := .xd [(g, w)]) hd (by rw [← O.so]; exact sd)
      have s1 := s.lay (u := .xd [(g, w)]) hd (by rw [← O.so]; exact sd)
      have hx1 : (k.lay d (.xd [(g, w)])).H x = none := (upd_ne (Ne.symm hn)).trans hx
      have l2 := LeK.lay (N := N) (u := exV x C (some d)) hx1 (by rw [← O.so]; exact sx)
      have s2 := s1.lay (u := exV x C (some d)) hx1 (by rw [← O.so]; exact sx)
      refine p _ _ (l1.trans l2) s2 (.exc ⟨some d, upd_same, ?_⟩ h1 ((a.mono l1 s).mono l2 s1))
      show upd _ x _ d = _
      rw [upd_ne hn]
      exact upd_same
  · rename_i e
    obtain ⟨C, h1, h2⟩ := O.xc _ _ e
    cases r
    unfold mkxV
    simp only [h2]
    refine ⟨trivial, fun x hx sx => ?_⟩
    have l1 := LeK.lay (N := N) (u := exV x C none) hx (by rw [← O.so]; exact sx)
    have s1 := s.lay (u := exV x C none) hx (by rw [← O.so]; exact sx)
    exact p _ _ l1 s1 (.exc0 ⟨none, upd_same, rfl⟩ h1)
  · exact p.elim
theorem metE_ok (s : Sim N k h) {m g : Str} {x : EV} {w : V} {B : Str → Prop} (r : Rl N k x w) (e : metE E m x h = some g) (q : B g) : metK S m w k.H B := by
  unfold metE at e
  cases r with
  | ref ha =>
    simp only at e
    split at e
    · rename_i c fs q1
      obtain ⟨C, dx, ws, h1, h2, h3⟩ := ins_at s q1
      split at e
      · rename_i e1
        unfold metK
        simp only [h1]
        refine ⟨look_none h3 ((lookK_eq _ _).symm.trans e1), ?_⟩
        rw [O.mt _ _ _ _ e h2]
        exact q
      · cases e
    · cases e
  | _ => cases e
omit O in
theorem setL_ok : ∀ {is : List Nat} {vs : List EV} {ws : List V} {σ σ' : ESt} {τ : St}, Rls N k vs ws → Rst N k σ τ → setLE is vs σ = some σ' → ∃ τ', setL is ws τ = some τ' ∧ Rst N k σ' τ'
  | [], _, _, σ, σ', τ, .nil, r, e => by cases e; exact ⟨τ, rfl, r⟩
  | _ :: _, _, _, _, _, _, .nil, _, e => by cases e
  | [], _, _, _, _, _, .cons _ _, _, e => by cases e
  | i :: is, _, _, σ, σ', τ, .cons a b, r, e => setL_ok (is := is) b (r.set a) e
theorem gE_ok (s : Sim N k h) {t : Tg} {x : EV} {w : V} {σ σ' : ESt} {τ : St} {B : St → Hp → Prop} (r : Rl N k x w) (rs : Rst N k σ τ) (e : gE t x σ = some σ') (q : ∀ τ', Rst N k σ' τ' → B τ' k.H) : gT S.so t w τ k.H B := by
  unfold gE at e
  split at e
  · cases e
    exact q _ (rs.set r)
  · rename_i is xs
    cases r with
    | tup q1 r =>
      obtain ⟨τ', h1, h2⟩ := setL_ok r rs e
      unfold gT
      simp only [O.so, q1]
      unfold parK
      rw [h1]
      exact q τ' h2
  · cases e
omit O in
theorem pm_ok (s : Sim N k h) : ∀ {pm : List (Nat ⊕ EV)} {pm' : List (Nat ⊕ V)} {vs ws : List EV} {us : List V}, Paired (fun (p : Nat ⊕ EV) (q : Nat ⊕ V) => match p, q with
    | .inl i, .inl j => i = j
    | .inr v, .inr w => ∀ k h, Sim N k h → Rl N k v w
    | _, _ => False) pm pm' → Rls N k vs us → pmE pm vs = some ws → ∃ zs, pmV pm' us = some zs ∧ Rls N k ws zs
  | _, _, vs, ws, us, .nil, r, e => by
    cases e
    exact ⟨[], rfl, .nil⟩
  | _, _, vs, ws, us, .cons (a := p) (b := q) a b, r, e => by
    unfold pmE at e
    rw [List.mapM_cons] at e
    obtain ⟨v, h1, e⟩ := bind_some e
    obtain ⟨l, h2, e⟩ := bind_some e
    cases e
    obtain ⟨zs, h3, h4⟩ := pm_ok s b r (show pmE _ vs = some l from h2)
    have : ∃ z, (match q with | .inl i => us[i]? | .inr v => some v) = some z ∧ Rl N k v z := by
      cases p with
      | inl i =>
        cases q with
        | inl j =>
          have a : i = j := a
          subst a
          exact r.get h1
        | inr _ => exact a.elim
      | inr x =>
        cases q with
        | inl j => exact a.elim
        | inr y =>
          cases h1
          exact ⟨y, rfl, a k h s⟩
    obtain ⟨z, h5, h6⟩ := this
    refine ⟨z :: zs, ?_, .cons h6 h4⟩
    unfold pmV at h3 ⊢
    rw [List.mapM_cons]
    exact Option.bind_eq_some_iff.mpr ⟨z, h5, Option.bind_eq_some_iff.mpr ⟨zs, h3, rfl⟩⟩
end
end QL
set_option Elab.async false
set_option linter.all false
set_option maxRecDepth 100000
set_option maxHeartbeats 4000000
/-! E6: loops of comprehensions on own heaps. -/
namespace QL
open PySem PySem.Spec
open L2 hiding wE wT
open PyProof.Rows hiding St
mutual
theorem beqE_eq : ∀ {x y : EV}, beqE x y = true → x = y
  | .non, y, h => by cases y <;> first | rfl | cases h
  | .bl a, y, h => by
    cases y with
    | bl b => unfold beqE at h; rw [beq_iff_eq.mp h]
    | _ => cases h
  | .int a, y, h => by
    cases y with
    | int b => unfold beqE at h; rw [beq_iff_eq.mp h]
    | _ => cases h
  | .str a, y, h => by
    cases y with
    | str b => unfold beqE at h; rw [beq_iff_eq.mp h]
    | _ => cases h
  | .ref a, y, h => by
    cases y with
    | ref b => unfold beqE at h; rw [beq_iff_eq.mp h]
    | _ => cases h
  | .tup a, y, h => by
    cases y with
    | tup b => unfold beqE at h; rw [beqEs_eq h]
    | _ => cases h
  | .exc c f v, y, h => by
    cases y with
    | exc d g w =>
      unfold beqE at h
      simp only [Bool.and_eq_true, beq_iff_eq] at h
      rw [h.1, h.2.1, beqE_eq h.2.2]
    | _ => cases h
  | .exc0 c, y, h => by
    cases y with
    | exc0 d => unfold beqE at h; rw [beq_iff_eq.mp h]
    | _ => cases h
theorem beqEs_eq : ∀ {x y : List EV}, beqEs x y = true → x = y
  | [], [], _ => rfl
  | [], _ :: _, h => by cases h
  | _ :: _, [], h => by cases h
  | x :: xs, y :: ys, h => by
    unfold beqEs at h
    simp only [Bool.and_eq_true] at h
    rw [beqE_eq h.1, beqEs_eq h.2]
end
mutual
theorem beqE_refl : ∀ (x : EV), beqE x x = true
  | .non => rfl
  | .bl a => by unfold beqE; simp
  | .int a => by unfold beqE; simp
  | .str a => by unfold beqE; simp
  | .ref a => by unfold beqE; simp
  | .tup a => by unfold beqE; exact beqEs_refl a
  | .exc c f v => by unfold beqE; simp [beqE_refl v]
  | .exc0 c => by unfold beqE; simp
theorem beqEs_refl : ∀ (x : List EV), beqEs x x = true
  | [] => rfl
  | x :: xs => by unfold beqEs; rw [beqE_refl x, beqEs_refl xs]; rfl
end
theorem beqO_eq {o o' : EO} (h : beqO o o' = true) : o = o' := by
  unfold beqO at h
  split at h
  · rw [beqEs_eq h]
  · rw [beqEs_eq h]
  · cases h
/-- what a turn's item is -/
def ItR (N : Nm) (k : Kc) : EV → Itm → Prop
  | x, .v w => Rl N k x w
  | .tup ys, .p ws => Rls N k ys ws
  | _, .p _ => False
section
variable {N : Nm} {k k' k0 : Kc} {h h' : EH} {X : XK} {Q : VK}
/-- what values lean on stays -/
structure LeR (N : Nm) (k k' : Kc) : Prop where
  nle : k.n ≤ k'.n
  ag : ∀ a, a < k.n → k'.ρ a = k.ρ a
  tp : ∀ p vs, rd N.so k.H p = some (.tup vs) → rd N.so k'.H p = some (.tup vs)
  xp : ∀ p C fs, Xat k.H p C fs → Xat k'.H p C fs
/-- what a source tells -/
def SrR (N : Nm) (k : Kc) (p : List EV × List (Nat × EO)) (q : Nat × (Hp → List Itm → Prop)) : Prop :=
  p.1.length = q.1 ∧ ∀ k' h', LeR N k k' → Sim N k' h' → keepsE p.2 h' = true → ∃ its, q.2 k'.H its ∧ Paired (ItR N k') p.1 its
theorem LeK.r (l : LeK N k k') (s : Sim N k h) : LeR N k k' := ⟨l.nle, l.ag, fun _ _ e => l.rdT s e, fun _ _ _ e => l.xat s e⟩
mutual
theorem Rl.monoR (l : LeR N k k') : ∀ {v : EV} {w : V}, Rl N k v w → Rl N k' v w
  | _, _, .non => .non
  | _, _, .bl b => .bl b
  | _, _, .int b => .int b
  | _, _, .str b => .str b
  | _, _, .ref (a := a) ha => by
    rw [← l.ag a ha]
    exact .ref (Nat.lt_of_lt_of_le ha l.nle)
  | _, _, .tup e r => .tup (l.tp _ _ e) (r.monoR l)
  | _, _, .exc e c r => .exc (l.xp _ _ _ e) c (r.monoR l)
  | _, _, .exc0 e c => .exc0 (l.xp _ _ _ e) c
theorem Rls.monoR (l : LeR N k k') : ∀ {v : List EV} {w : List V}, Rls N k v w → Rls N k' v w
  | _, _, .nil => .nil
  | _, _, .cons a b => .cons (a.monoR l) (b.monoR l)
end
theorem Rst.monoR (l : LeR N k k') {x : ESt} {y : St} (r : Rst N k x y) : Rst N k' x y := Paired.mapQ (fun p q z => by
  cases p <;> cases q <;> first | exact z | exact Rl.monoR l z) r
theorem Rkv.monoR {κ : Type} (l : LeR N k k') {x : List (κ × EV)} {y : List (κ × V)} (r : Rkv N k x y) : Rkv N k' x y := Paired.mapQ (fun _ _ z => ⟨z.1, z.2.monoR l⟩) r
theorem ObR.monoR (l : LeR N k k') {p : Addr} {o : EO} (e : k'.H p = k.H p) (r : ObR N k p o) : ObR N k' p o := by
  cases o with
  | lst xs => obtain ⟨vs, h1, h2⟩ := r; exact ⟨vs, e.trans h1, h2.monoR l⟩
  | fls xs =>
    obtain ⟨vs, h1, h2, h3⟩ := r
    refine ⟨vs, ?_, fun u hu => h2 u (e.symm.trans hu), h3.monoR l⟩
    unfold rd at h1 ⊢
    rw [e]
    exact h1
  | dct xs => obtain ⟨vs, h1, h2⟩ := r; exact ⟨vs, e.trans h1, h2.monoR l⟩
  | ins c fs => obtain ⟨C, dx, vs, h1, h2, h3⟩ := r; exact ⟨C, dx, vs, e.trans h1, h2, h3.monoR l⟩
/-- an object that is not told yet: a list or dict being made -/
structure Mkg (k : Kc) (D : Addr) (u : HO) : Prop where
  at_ : k.H D = some u
  no : ∀ a, a < k.n → k.ρ a ≠ D
  ty : (∃ vs, u = .lst vs) ∨ (∃ vs, u = .dK vs)
theorem Mkg.le {D : Addr} {u : HO} (m : Mkg k D u) (l : LeK N k k') : Mkg k' D u where
  at_ := l.fr D u m.at_ m.no
  no := fun a ha z => by
    by_cases hl : a < k.n
    · rw [l.ag a hl] at z
      exact m.no a hl z
    · have := l.nw a (Nat.not_lt.mp hl) ha
      rw [z, m.at_] at this
      cases this
  ty := m.ty
/-- it is put otherwise -/
theorem Mkg.r {D : Addr} {u u' : HO} (m : Mkg k D u) : LeR N k (k.lay D u') where
  nle := Nat.le_refl _
  ag := fun _ _ => rfl
  tp := fun p vs e => by
    have : p ≠ D := fun z => by
      subst z
      unfold rd at e
      rw [m.at_] at e
      rcases m.ty with ⟨_, q⟩ | ⟨_, q⟩ <;> (rw [q] at e; cases e)
    unfold rd at e ⊢
    show (match upd k.H D u' p with | some (.frz _ u) => some u | some o => some o | none => N.so p) = _
    rw [upd_ne this]
    exact e
  xp := fun p C fs e => by
    obtain ⟨d, e1, e2⟩ := e
    have n1 : p ≠ D := fun z => by
      subst z
      rw [m.at_] at e1
      rcases m.ty with ⟨_, q⟩ | ⟨_, q⟩ <;> (rw [q] at e1; cases e1)
    refine ⟨d, (upd_ne n1).trans e1, ?_⟩
    cases d with
    | none => exact e2
    | some d =>
      have e2 : k.H d = some (.xd fs) := e2
      have n2 : d ≠ D := fun z => by
        subst z
        rw [m.at_] at e2
        rcases m.ty with ⟨_, q⟩ | ⟨_, q⟩ <;> (rw [q] at e2; cases e2)
      exact (upd_ne n2).trans e2
theorem Mkg.sim {D : Addr} {u u' : HO} (m : Mkg k D u) (s : Sim N k h) : Sim N (k.lay D u') h where
  len := s.len
  inj := s.inj
  obj := fun a o e => (s.obj a o e).monoR m.r (upd_ne (m.no a (s.lt e)))
  nok := fun b hb => by
    have : b ≠ D := fun z => by
      subst z
      have := s.nok b hb
      rw [m.at_] at this
      cases this
    exact (upd_ne this).trans (s.nok b hb)
theorem Mkg.put {D : Addr} {u u' : HO} (m : Mkg k D u) (t : (∃ vs, u' = .lst vs) ∨ (∃ vs, u' = .dK vs)) : Mkg (k.lay D u') D u' := ⟨upd_same, m.no, t⟩
theorem Mkg.leK {D : Addr} {u u' : HO} (m : Mkg k D u) (l : LeK N k0 k) (h0 : k0.H D = none) : LeK N k0 (k.lay D u') where
  nle := l.nle
  ag := l.ag
  fr := fun b o e q => (upd_ne (ne_of_none e h0)).trans (l.fr b o e q)
  nw := l.nw
  ke := fun b e => by
    by_cases hb : b = D
    · subst hb
      exact h0
    · rw [show (k.lay D u').H b = k.H b from upd_ne hb] at e
      exact l.ke b e
  st := fun b e hs => by
    have : b ≠ D := fun z => by
      subst z
      have := l.st b e hs
      rw [m.at_] at this
      cases this
    exact (upd_ne this).trans (l.st b e hs)
/-- it is told -/
def Kc.tell (k : Kc) (p : Addr) : Kc := ⟨k.n + 1, fun a => if a = k.n then p else k.ρ a, k.H⟩
theorem Mkg.told {D : Addr} {u : HO} {o : EO} (m : Mkg k D u) (s : Sim N k h) (l : LeK N k0 k) (h0 : k0.H D = none) (hr : ObR N k D o) : LeK N k0 (k.tell D) ∧ Sim N (k.tell D) (h ++ [o]) ∧ Rl N (k.tell D) (.ref h.length) (.ref D) := by
  have r : LeR N k (k.tell D) := ⟨Nat.le_succ _, fun a ha => if_neg (Nat.ne_of_lt ha), fun _ _ e => e, fun _ _ _ e => e⟩
  refine ⟨⟨Nat.le_trans l.nle (Nat.le_succ _), fun a ha => ?_, l.fr, fun a h1 h2 => ?_, l.ke, l.st⟩, ⟨?_, ?_, ?_, s.nok⟩, ?_⟩
  · rw [r.ag a (Nat.lt_of_lt_of_le ha l.nle)]
    exact l.ag a ha
  · have h2 : a < k.n + 1 := h2
    by_cases e : a = k.n
    · subst e
      show k0.H (if k.n = k.n then D else _) = none
      rw [if_pos rfl]
      exact h0
    · rw [r.ag a (by omega)]
      exact l.nw a h1 (by omega)
  · rw [List.length_append, s.len]
    rfl
  · intro a b ha hb e
    have ha : a < k.n + 1 := ha
    have hb : b < k.n + 1 := hb
    have e : (if a = k.n then D else k.ρ a) = (if b = k.n then D else k.ρ b) := e
    by_cases h1 : a = k.n <;> by_cases h2 : b = k.n
    · omega
    · rw [if_pos h1, if_neg h2] at e
      exact absurd e.symm (m.no b (by omega))
    · rw [if_neg h1, if_pos h2] at e
      exact absurd e (m.no a (by omega))
    · rw [if_neg h1, if_neg h2] at e
      exact s.inj a b (by omega) (by omega) e
  · intro a u' e
    by_cases ha : a < k.n
    · rw [List.getElem?_append_left (by rw [s.len]; exact ha)] at e
      rw [r.ag a ha]
      exact (s.obj a u' e).monoR r rfl
    · rw [List.getElem?_append_right (by rw [s.len]; omega), s.len] at e
      have h0 : a - k.n = 0 := by
        cases q : a - k.n with
        | zero => rfl
        | succ m => rw [q] at e; simp at e
      rw [h0] at e
      cases e
      have : a = k.n := by omega
      subst this
      show ObR N _ (if k.n = k.n then D else _) _
      rw [if_pos rfl]
      exact hr.monoR r rfl
  · rw [s.len]
    have : Rl N (k.tell D) (.ref k.n) (.ref ((k.tell D).ρ k.n)) := .ref (Nat.lt_succ_self _)
    rw [show (k.tell D).ρ k.n = D from if_pos rfl] at this
    exact this
theorem keep_one {a : Nat} {o : EO} (e : keepsE [(a, o)] h = true) : h[a]? = some o := by
  unfold keepsE at e
  simp only [List.all_cons, List.all_nil, Bool.and_true] at e
  split at e
  · rename_i q
    rw [q, beqO_eq e]
  · cases e
theorem keep_app {p q : List (Nat × EO)} (e : keepsE (p ++ q) h = true) : keepsE p h = true ∧ keepsE q h = true := by
  unfold keepsE at e ⊢
  rw [List.all_append, Bool.and_eq_true] at e
  exact e
theorem its_v {xs : List EV} {vs : List V} (r : Rls N k xs vs) : Paired (ItR N k) xs (vs.map .v) := by
  induction xs generalizing vs with
  | nil => cases r; exact .nil
  | cons x xs ih => cases r with | cons a b => exact .cons a (ih b)
theorem its_e : ∀ {xs : List EV} {vs : List V} (i : Nat), Rls N k xs vs → Paired (ItR N k) (enE i xs) (enumI i vs)
  | _, _, _, .nil => .nil
  | _, _, i, .cons a b => .cons (.cons (.int _) (.cons a .nil)) (its_e (i + 1) b)
theorem its_z : ∀ {xs ys : List EV} {vs ws : List V}, Rls N k xs vs → Rls N k ys ws → Paired (ItR N k) (ziE xs ys) (zipI vs ws)
  | _, _, _, _, .nil, .nil => .nil
  | _, _, _, _, .nil, .cons _ _ => .nil
  | _, _, _, _, .cons _ _, .nil => .nil
  | _, _, _, _, .cons a b, .cons c d => .cons (.cons a (.cons c .nil)) (its_z b d)
theorem enE_len : ∀ (xs : List EV) (i : Nat), (enE i xs).length = xs.length
  | [], _ => rfl
  | _ :: xs, i => by rw [enE, List.length_cons, List.length_cons, enE_len xs]
theorem ziE_len : ∀ (xs ys : List EV), (ziE xs ys).length = min xs.length ys.length
  | [], ys => by simp [ziE]
  | _ :: _, [] => by simp [ziE]
  | _ :: xs, _ :: ys => by rw [ziE, List.length_cons, List.length_cons, List.length_cons, ziE_len xs ys]; omega
/-- a list that is walked -/
structure WkR (N : Nm) (k : Kc) (p : List EV × List (Nat × EO)) (q : List V × (Hp → List V → Prop)) : Prop where
  len : p.1.length = q.1.length
  cur : ∀ k' h', LeR N k k' → Sim N k' h' → keepsE p.2 h' = true → ∃ vs, q.2 k'.H vs ∧ Rls N k' p.1 vs
theorem walkE_ok (s : Sim N k h) {x : EV} {w : V} {B : List V × (Hp → List V → Prop) → Hp → Prop} (r : Rl N k x w) (p : Po N (WkR N) k (walkE x h) B X) : seqK N.so w k.H fun xs cur => B (xs, cur) k.H := by
  unfold walkE at p
  cases r with
  | tup q r =>
    simp only at p
    unfold seqK
    simp only [q]
    exact p.ok s ⟨r.length, fun k' h' l s' _ => ⟨_, l.tp _ _ q, r.monoR l⟩⟩
  | ref ha =>
    simp only at p
    unfold seqK
    split at p
    · rename_i q
      obtain ⟨vs, h1, h2⟩ := lst_at s q
      simp only [rd_l (N := N) h1]
      refine p.ok s ⟨h2.length, fun k' h' l s' e => ?_⟩
      obtain ⟨vs', g1, g2⟩ := lst_at s' (keep_one e)
      rw [l.ag _ ha] at g1
      exact ⟨vs', rd_l g1, g2⟩
    · rename_i q
      obtain ⟨vs, h1, h2⟩ := fls_at s q
      simp only [h1]
      refine p.ok s ⟨h2.length, fun k' h' l s' e => ?_⟩
      obtain ⟨vs', g1, g2⟩ := fls_at s' (keep_one e)
      rw [l.ag _ ha] at g1
      exact ⟨vs', g1, g2⟩
    · exact p.elim
  | _ => exact p.elim
theorem walkQ_ok (s : Sim N k h) {x : EV} {w : V} {B : List V × (Hp → List V → Prop) → Hp → Prop} (r : Rl N k x w) (p : Po N (WkR N) k (walkQ x h) B X) : lsqK N.so w k.H fun xs cur => B (xs, cur) k.H := by
  unfold walkQ at p
  cases r with
  | tup q r => exact p.elim
  | ref ha =>
    simp only [walkE] at p
    unfold lsqK
    split at p
    · rename_i q
      obtain ⟨vs, h1, h2⟩ := lst_at s q
      simp only [rd_l (N := N) h1]
      refine p.ok s ⟨h2.length, fun k' h' l s' e => ?_⟩
      obtain ⟨vs', g1, g2⟩ := lst_at s' (keep_one e)
      rw [l.ag _ ha] at g1
      exact ⟨vs', rd_l g1, g2⟩
    · rename_i q
      obtain ⟨vs, h1, h2⟩ := fls_at s q
      simp only [h1]
      refine p.ok s ⟨h2.length, fun k' h' l s' e => ?_⟩
      obtain ⟨vs', g1, g2⟩ := fls_at s' (keep_one e)
      rw [l.ag _ ha] at g1
      exact ⟨vs', g1, g2⟩
    · exact p.elim
  | _ => exact p.elim
/-- a turn's item is yielded -/
theorem ylK_ok (s : Sim N k h) {x : EV} {it : Itm} {B : V → Hp → Prop} (r : ItR N k x it) (q : ∀ k1 w, LeK N k k1 → Sim N k1 h → Rl N k1 x w → B w k1.H) : ylK N.so it k.H B := by
  cases it with
  | v w => exact q k w LeK.refl s r
  | p ws =>
    intro T h1 h2
    cases x with
    | tup ys =>
      have r : Rls N k ys ws := r
      exact q (k.lay T (.tup ws)) (.ref T) (LeK.lay h1 h2) (s.lay h1 h2) (.tup (rd_tracked (show (k.lay T (.tup ws)).H T = _ from upd_same) (fun _ _ z => by cases z)) (r.mono (LeK.lay h1 h2) s))
    | _ => exact r.elim
theorem its_get {xs : List EV} {its : List Itm} {i : Nat} {x : EV} (r : Paired (ItR N k) xs its) (e : xs[i]? = some x) : ∃ it, its[i]? = some it ∧ ItR N k x it := by
  induction r generalizing i with
  | nil => simp at e
  | cons a b ih =>
    cases i with
    | zero => simp at e; subst e; exact ⟨_, rfl, a⟩
    | succ i =>
      obtain ⟨it, h1, h2⟩ := ih (by simpa using e)
      exact ⟨it, by simpa using h1, h2⟩
end
end QL
set_option Elab.async false
set_option linter.all false
set_option maxRecDepth 100000
set_option maxHeartbeats 4000000
/-! E7: loops of comprehensions, led over. -/
namespace QL
open PySem PySem.Spec
open L2 hiding wE wT
open PyProof.Rows hiding St
section
variable {N : Nm} {S : Stat} {E : ES} (O : EsOk N S E) {k k' k0 kb : Kc} {h h' : EH} {X : XK} {Q : VK}
theorem LeR.trans {k1 k2 k3 : Kc} (x : LeR N k1 k2) (y : LeR N k2 k3) : LeR N k1 k3 := ⟨Nat.le_trans x.nle y.nle, fun a ha => (y.ag a (Nat.lt_of_lt_of_le ha x.nle)).trans (x.ag a ha), fun p vs e => y.tp p vs (x.tp p vs e), fun p C fs e => y.xp p C fs (x.xp p C fs e)⟩
theorem LeR.refl : LeR N k k := ⟨Nat.le_refl _, fun _ _ => rfl, fun _ _ e => e, fun _ _ _ e => e⟩
/-- an object being made is told at last -/
theorem Po.told {D : Addr} {u : HO} {o : EO} (p : Po N (Rl N) k0 (QL.newE o h) Q X) (m : Mkg k D u) (s : Sim N k h) (l : LeK N k0 k) (h0 : k0.H D = none) (hr : ObR N k D o) : Q (.ref D) k.H := by
  obtain ⟨a, b, c⟩ := m.told s l h0 hr
  exact p (k.tell D) (.ref D) a b c
def noX : XK := fun _ _ _ => False
/-- what a test is worth -/
def TOk (N : Nm) (te : ESt → EH → R Bool) (tt : TT) : Prop := ∀ σ τ k h (B : Bool → Hp → Prop), Sim N k h → Rst N k σ τ → Po N Same k (te σ h) B noX → tt τ k.H B
def VOk (N : Nm) (te : ESt → EH → R EV) (tt : TE) : Prop := ∀ σ τ k h (B : VK), Sim N k h → Rst N k σ τ → Po N (Rl N) k (te σ h) B noX → tt τ k.H B
theorem nox_ok {α β : Type} {r : R α} {f : α → EH → R β} {b : β} {h' : EH} (e : r.nox.bind f = .ok b h') : ∃ a h1, r = .ok a h1 ∧ f a h1 = .ok b h' := by
  cases r with
  | ok a h1 => exact ⟨a, h1, rfl, e⟩
  | ex c d h => cases e
  | bad => cases e
theorem chk_ok {α : Type} {b : Bool} {r : Unit → R α} {a : α} {h' : EH} (e : chk b r = .ok a h') : b = true ∧ r () = .ok a h' := by
  cases b with
  | true => exact ⟨rfl, e⟩
  | false => cases e
theorem drop_at {α : Type} {all : List α} {i : Nat} {x : α} {r : List α} (e : all.drop i = x :: r) : all[i]? = some x ∧ all.drop (i + 1) = r ∧ all.length - (r.length + 1) = i := by
  have h1 : all[i]? = some x := by
    have := congrArg (fun l => l[0]?) e
    simpa [List.getElem?_drop] using this
  refine ⟨h1, ?_, ?_⟩
  · rw [← List.drop_drop, e]
    rfl
  · have := congrArg List.length e
    rw [List.length_drop, List.length_cons] at this
    have := (List.getElem?_eq_some_iff.mp h1).1
    omega
theorem paired_len {α β : Type} {F : α → β → Prop} {x : List α} {y : List β} (r : Paired F x y) : y.length = x.length := by
  induction r with
  | nil => rfl
  | cons a b ih => rw [List.length_cons, List.length_cons, ih]
include O
theorem lcE_ok {kp : List (Nat × EO)} {t : Tg} {te : ESt → EH → R Bool} {ee : ESt → EH → R EV} {tt : TT} {tE : TE} {cur : Hp → List Itm → Prop} {all acc' : List EV} {D : Addr} {B : Hp → Prop} {σ : ESt} {τ : St}
    (Te : TOk N te tt) (Ee : VOk N ee tE) (src : ∀ k' h', LeR N kb k' → Sim N k' h' → keepsE kp h' = true → ∃ its, cur k'.H its ∧ Paired (ItR N k') all its) (h0 : k0.H D = none)
    (fin : ∀ accV k', LeK N k0 k' → LeR N kb k' → Sim N k' h' → Mkg k' D (.lst accV) → Rls N k' acc' accV → B k'.H) :
    ∀ (xs : List EV) (i : Nat) {acc : List EV} {accV : List V} {h : EH} {k : Kc}, all.drop i = xs → LeK N k0 k → LeR N kb k → Sim N k h → Rst N k σ τ → Mkg k D (.lst accV) → Rls N k acc accV →
      lcE kp t te ee σ xs acc h = .ok acc' h' → lcL N.so cur all.length (gT N.so t) tt tE D τ xs.length k.H B
  | [], i, acc, accV, h, k, e, l, lb, s, rs, m, ra, q => by
    unfold lcE at q
    obtain ⟨q1, q2⟩ := chk_ok q
    obtain ⟨its, g1, g2⟩ := src k h lb s q1
    cases q2
    exact ⟨⟨its, g1, paired_len g2⟩, fin accV k l lb s m ra⟩
  | x :: r, i, acc, accV, h, k, e, l, lb, s, rs, m, ra, q => by
    unfold lcE at q
    obtain ⟨q1, q2⟩ := chk_ok q
    simp only [Bool.and_eq_true, decide_eq_true_eq] at q1
    obtain ⟨its, g1, g2⟩ := src k h lb s q1.1
    obtain ⟨d1, d2, d3⟩ := drop_at e
    obtain ⟨it, g3, g4⟩ := its_get g2 d1
    split at q2
    · rename_i σ' hg
      obtain ⟨b, h1, t1, q3⟩ := nox_ok q2
      show lcL N.so cur all.length (gT N.so t) tt tE D τ (r.length + 1) k.H B
      unfold lcL
      refine ⟨its, it, g1, paired_len g2, ?_, ?_⟩
      · rw [d3]
        exact g3
      refine ylK_ok s g4 fun k1 w l1 s1 r1 => ?_
      have lb1 := lb.trans (l1.r s)
      have ga := gE_ok O s1 (B := fun σ2 H2 => tt σ2 H2 fun b H3 => if b = true then tE σ2 H3 fun y H4 => ∃ acc, H4 D = some (.lst acc) ∧ acc.length < sizeLine ∧ lcL N.so cur all.length (gT N.so t) tt tE D τ r.length (upd H4 D (.lst (acc ++ [y]))) B else lcL N.so cur all.length (gT N.so t) tt tE D τ r.length H3 B) r1 (rs.mono l1 s) hg ?_
      · rw [O.so] at ga
        exact ga
      · intro τ' rs'
        refine Te σ' τ' k1 h _ s1 rs' ?_
        rw [t1]
        intro k2 w2 l2 s2 e2
        have e2 : b = w2 := e2
        subst e2
        have l02 := (l.trans l1).trans l2
        have lb2 := lb1.trans (l2.r s1)
        have m2 := (m.le l1).le l2
        cases b with
        | true =>
          rw [if_pos rfl]
          have q3 : (ee σ' h1).nox.bind _ = _ := q3
          obtain ⟨y, h2, t2, q4⟩ := nox_ok q3
          refine Ee σ' τ' k2 h1 _ s2 (rs'.mono l2 s1) ?_
          rw [t2]
          intro k3 w3 l3 s3 r3
          have m3 := m2.le l3
          refine ⟨accV, m3.at_, ?_, ?_⟩
          · rw [← ra.length]
            exact q1.2
          have lr := m3.r (N := N) (u' := .lst (accV ++ [w3]))
          exact lcE_ok Te Ee src h0 fin r (i + 1) d2 (m3.leK (l02.trans l3) h0) ((lb2.trans (l3.r s2)).trans lr) (m3.sim s3) ((((rs.mono l1 s).mono l2 s1).mono l3 s2).monoR lr) (m3.put (.inl ⟨_, rfl⟩)) (((((ra.mono l1 s).mono l2 s1).mono l3 s2).monoR lr).app (.cons (r3.monoR lr) .nil)) q4
        | false =>
          rw [if_neg (by decide)]
          exact lcE_ok Te Ee src h0 fin r (i + 1) d2 l02 lb2 s2 ((rs.mono l1 s).mono l2 s1) m2 ((ra.mono l1 s).mono l2 s1) q3
    · cases q2
theorem dcE_ok {kp : List (Nat × EO)} {t : Tg} {te : ESt → EH → R Bool} {ke ve : ESt → EH → R EV} {tt : TT} {tk tv : TE} {cur : Hp → List Itm → Prop} {all : List EV} {acc' : List (Key × EV)} {D : Addr} {B : Hp → Prop} {σ : ESt} {τ : St}
    (Te : TOk N te tt) (Ke : VOk N ke tk) (Ve : VOk N ve tv) (src : ∀ k' h', LeR N kb k' → Sim N k' h' → keepsE kp h' = true → ∃ its, cur k'.H its ∧ Paired (ItR N k') all its) (h0 : k0.H D = none)
    (fin : ∀ accV k', LeK N k0 k' → LeR N kb k' → Sim N k' h' → Mkg k' D (.dK accV) → Rkv N k' acc' accV → B k'.H) :
    ∀ (xs : List EV) (i : Nat) {acc : List (Key × EV)} {accV : List (Key × V)} {h : EH} {k : Kc}, all.drop i = xs → LeK N k0 k → LeR N kb k → Sim N k h → Rst N k σ τ → Mkg k D (.dK accV) → Rkv N k acc accV →
      dcE kp t te ke ve σ xs acc h = .ok acc' h' → dcL N.so cur all.length (gT N.so t) tt tk tv D τ xs.length k.H B
  | [], i, acc, accV, h, k, e, l, lb, s, rs, m, ra, q => by
    unfold dcE at q
    obtain ⟨q1, q2⟩ := chk_ok q
    obtain ⟨its, g1, g2⟩ := src k h lb s q1
    cases q2
    exact ⟨⟨its, g1, paired_len g2⟩, fin accV k l lb s m ra⟩
  | x :: r, i, acc, accV, h, k, e, l, lb, s, rs, m, ra, q => by
    unfold dcE at q
    obtain ⟨q1, q2⟩ := chk_ok q
    simp only [Bool.and_eq_true, decide_eq_true_eq] at q1
    obtain ⟨its, g1, g2⟩ := src k h lb s q1.1
    obtain ⟨d1, d2, d3⟩ := drop_at e
    obtain ⟨it, g3, g4⟩ := its_get g2 d1
    split at q2
    · rename_i σ' hg
      obtain ⟨b, h1, t1, q3⟩ := nox_ok q2
      show dcL N.so cur all.length (gT N.so t) tt tk tv D τ (r.length + 1) k.H B
      unfold dcL
      refine ⟨its, it, g1, paired_len g2, ?_, ?_⟩
      · rw [d3]
        exact g3
      refine ylK_ok s g4 fun k1 w l1 s1 r1 => ?_
      have lb1 := lb.trans (l1.r s)
      have ga := gE_ok O s1 (B := fun σ2 H2 => tt σ2 H2 fun b H3 => if b = true then tk σ2 H3 fun y H4 => tv σ2 H4 fun z H5 => ∃ kvs k, y = kV k ∧ H5 D = some (.dK kvs) ∧ kvs.length < sizeLine ∧ dcL N.so cur all.length (gT N.so t) tt tk tv D τ r.length (upd H5 D (.dK (putK kvs k z))) B else dcL N.so cur all.length (gT N.so t) tt tk tv D τ r.length H3 B) r1 (rs.mono l1 s) hg ?_
      · rw [O.so] at ga
        exact ga
      · intro τ' rs'
        refine Te σ' τ' k1 h _ s1 rs' ?_
        rw [t1]
        intro k2 w2 l2 s2 e2
        have e2 : b = w2 := e2
        subst e2
        have l02 := (l.trans l1).trans l2
        have lb2 := lb1.trans (l2.r s1)
        have m2 := (m.le l1).le l2
        cases b with
        | true =>
          rw [if_pos rfl]
          have q3 : (ke σ' h1).nox.bind _ = _ := q3
          obtain ⟨y, h2, t2, q4⟩ := nox_ok q3
          obtain ⟨z, h3, t3, q5⟩ := nox_ok q4
          refine Ke σ' τ' k2 h1 _ s2 (rs'.mono l2 s1) ?_
          rw [t2]
          intro k3 w3 l3 s3 r3
          refine Ve σ' τ' k3 h2 _ s3 ((rs'.mono l2 s1).mono l3 s2) ?_
          rw [t3]
          intro k4 w4 l4 s4 r4
          have m4 := (m2.le l3).le l4
          split at q5
          · rename_i κ hk
            refine ⟨accV, κ, keyV_eq r3 hk, m4.at_, ?_, ?_⟩
            · rw [← kv_len ra]
              exact q1.2
            have lr := m4.r (N := N) (u' := .dK (putK accV κ w4))
            exact dcE_ok Te Ke Ve src h0 fin r (i + 1) d2 (m4.leK ((l02.trans l3).trans l4) h0) (((lb2.trans (l3.r s2)).trans (l4.r s3)).trans lr) (m4.sim s4) (((((rs.mono l1 s).mono l2 s1).mono l3 s2).mono l4 s3).monoR lr) (m4.put (.inr ⟨_, rfl⟩)) (put_ok (((((ra.mono l1 s).mono l2 s1).mono l3 s2).mono l4 s3).monoR lr) κ (r4.monoR lr)) q5
          · cases q5
        | false =>
          rw [if_neg (by decide)]
          exact dcE_ok Te Ke Ve src h0 fin r (i + 1) d2 l02 lb2 s2 ((rs.mono l1 s).mono l2 s1) m2 ((ra.mono l1 s).mono l2 s1) q3
    · cases q2
theorem lgE_ok {kp : List (Nat × EO)} {t : Tg} {te : ESt → EH → R Bool} {body : ESt → List EV → EH → R (List EV)} {tt : TT} {bw : St → Hp → (Hp → Prop) → Prop} {cur : Hp → List Itm → Prop} {all acc' : List EV} {D : Addr} {B : Hp → Prop} {σ : ESt} {τ : St}
    (Te : TOk N te tt) (h0 : k0.H D = none)
    (bd : ∀ σ τ acc accV k h acc2 h2 (B : Hp → Prop), Sim N k h → Rst N k σ τ → LeK N k0 k → Mkg k D (.lst accV) → Rls N k acc accV → body σ acc h = .ok acc2 h2 →
      (∀ accV2 k2, LeK N k0 k2 → LeR N k k2 → Sim N k2 h2 → Mkg k2 D (.lst accV2) → Rls N k2 acc2 accV2 → B k2.H) → bw τ k.H B)
    (src : ∀ k' h', LeR N kb k' → Sim N k' h' → keepsE kp h' = true → ∃ its, cur k'.H its ∧ Paired (ItR N k') all its)
    (fin : ∀ accV k', LeK N k0 k' → Sim N k' h' → Mkg k' D (.lst accV) → Rls N k' acc' accV → B k'.H) :
    ∀ (xs : List EV) (i : Nat) {acc : List EV} {accV : List V} {h : EH} {k : Kc}, all.drop i = xs → LeK N k0 k → LeR N kb k → Sim N k h → Rst N k σ τ → Mkg k D (.lst accV) → Rls N k acc accV →
      lgE kp t te body σ xs acc h = .ok acc' h' → lcG N.so cur all.length (gT N.so t) tt bw τ xs.length k.H B
  | [], i, acc, accV, h, k, e, l, lb, s, rs, m, ra, q => by
    unfold lgE at q
    obtain ⟨q1, q2⟩ := chk_ok q
    obtain ⟨its, g1, g2⟩ := src k h lb s q1
    cases q2
    exact ⟨⟨its, g1, paired_len g2⟩, fin accV k l s m ra⟩
  | x :: r, i, acc, accV, h, k, e, l, lb, s, rs, m, ra, q => by
    unfold lgE at q
    obtain ⟨q1, q2⟩ := chk_ok q
    obtain ⟨its, g1, g2⟩ := src k h lb s q1
    obtain ⟨d1, d2, d3⟩ := drop_at e
    obtain ⟨it, g3, g4⟩ := its_get g2 d1
    split at q2
    · rename_i σ' hg
      obtain ⟨b, h1, t1, q3⟩ := nox_ok q2
      show lcG N.so cur all.length (gT N.so t) tt bw τ (r.length + 1) k.H B
      unfold lcG
      refine ⟨its, it, g1, paired_len g2, ?_, ?_⟩
      · rw [d3]
        exact g3
      refine ylK_ok s g4 fun k1 w l1 s1 r1 => ?_
      have lb1 := lb.trans (l1.r s)
      have ga := gE_ok O s1 (B := fun σ2 H2 => tt σ2 H2 fun b H3 => if b = true then bw σ2 H3 (fun H4 => lcG N.so cur all.length (gT N.so t) tt bw τ r.length H4 B) else lcG N.so cur all.length (gT N.so t) tt bw τ r.length H3 B) r1 (rs.mono l1 s) hg ?_
      · rw [O.so] at ga
        exact ga
      · intro τ' rs'
        refine Te σ' τ' k1 h _ s1 rs' ?_
        rw [t1]
        intro k2 w2 l2 s2 e2
        have e2 : b = w2 := e2
        subst e2
        have l02 := (l.trans l1).trans l2
        have lb2 := lb1.trans (l2.r s1)
        have m2 := (m.le l1).le l2
        have rs2 := (rs.mono l1 s).mono l2 s1
        cases b with
        | true =>
          rw [if_pos rfl]
          have q3 : (body σ' acc h1).nox.bind _ = _ := q3
          obtain ⟨y, h2, t2, q4⟩ := nox_ok q3
          refine bd σ' τ' acc accV k2 h1 y h2 _ s2 (rs'.mono l2 s1) l02 m2 ((ra.mono l1 s).mono l2 s1) t2 fun accV2 k3 l3 lr3 s3 m3 ra3 => ?_
          exact lgE_ok Te h0 bd src fin r (i + 1) d2 l3 (lb2.trans lr3) s3 (rs2.monoR lr3) m3 ra3 q4
        | false =>
          rw [if_neg (by decide)]
          exact lgE_ok Te h0 bd src fin r (i + 1) d2 l02 lb2 s2 rs2 m2 ((ra.mono l1 s).mono l2 s1) q3
    · cases q2
end
end QL
set_option Elab.async false
set_option linter.all false
set_option maxRecDepth 100000
set_option maxHeartbeats 4000000
/-! E8: what the evaluator answers, the weakest precondition grants. -/
namespace QL
open PySem PySem.Spec
open L2 hiding wE wT
open PyProof.Rows hiding St
section
variable {N : Nm} {S : Stat} {E : ES} {k : Kc} {h : EH} {X : XK} {Q : VK}
/-- what the defs answer, they promise -/
def FOk (N : Nm) (F : Str → List EV → EH → R EV) (G : Sm) : Prop := ∀ f vs ws h k (Q : VK) (X : XK), Sim N k h → Rls N k vs ws → Po N (Rl N) k (F f vs h) Q X → G.fn f ws k.H Q X
def PrR (N : Nm) (k : Kc) : List (EV × EV) → List (V × V) → Prop := Paired fun p q => Rl N k p.1 q.1 ∧ Rl N k p.2 q.2
theorem PrR.mono {k' : Kc} (l : LeK N k k') (s : Sim N k h) {x : List (EV × EV)} {y : List (V × V)} (r : PrR N k x y) : PrR N k' x y := Paired.mapQ (fun _ _ z => ⟨z.1.mono l s, z.2.mono l s⟩) r
theorem prs_ok : ∀ {qs : List (EV × EV)} {ws : List (V × V)} {kvs : List (Key × EV)}, PrR N k qs ws → prsE qs = some kvs → ∃ us : List (Key × V), ws = us.map (fun kv => (kV kv.1, kv.2)) ∧ Rkv N k kvs us
  | _, _, _, .nil, e => by
    cases e
    exact ⟨[], rfl, .nil⟩
  | _, _, _, .cons (a := a) (b := b) x y, e => by
    obtain ⟨a1, a2⟩ := a
    obtain ⟨b1, b2⟩ := b
    unfold prsE at e
    split at e
    · rename_i κ l h1 h2
      cases e
      obtain ⟨us, g1, g2⟩ := prs_ok y h2
      refine ⟨(κ, b2) :: us, ?_, .cons ⟨rfl, x.2⟩ g2⟩
      rw [List.map_cons, ← g1, ← keyV_eq x.1 h1]
    · cases e
theorem merge_ok : ∀ {more : List (Key × EV)} {mw : List (Key × V)} {kvs : List (Key × EV)} {ws : List (Key × V)}, Rkv N k kvs ws → Rkv N k more mw → Rkv N k (mergeE kvs more) (mergeK ws mw)
  | _, _, _, _, r, .nil => r
  | _, _, kvs, ws, r, .cons (a := a) (b := b) x y => by
    obtain ⟨a1, a2⟩ := a
    obtain ⟨b1, b2⟩ := b
    have x1 : a1 = b1 := x.1
    subst x1
    have z := merge_ok (kvs := putE kvs a1 a2) (ws := putK ws a1 b2) (put_ok r a1 x.2) y
    exact z
theorem rg_ok {l u : Int} (e : rgB l u = true) : RgOk l u := by
  unfold rgB at e
  simp only [Bool.and_eq_true, decide_eq_true_eq] at e
  exact ⟨e.1, e.2.1, e.2.2.1, e.2.2.2.1, e.2.2.2.2⟩
theorem rgs_ok (l u : Int) : Rls N k (rgE l u) (rgV l u) := by
  unfold rgE rgV
  generalize List.range _ = r
  induction r with
  | nil => exact .nil
  | cons a r ih => exact .cons (.int _) ih
theorem rgi_ok (l u : Int) : Paired (ItR N k) (rgE l u) ((List.range (u - l).toNat).map fun i => .v (.int (l + (i : Nat)))) := by
  unfold rgE
  generalize List.range _ = r
  induction r with
  | nil => exact .nil
  | cons a r ih => exact .cons (Rl.int _) ih
theorem rg_len (l u : Int) : (rgE l u).length = (u - l).toNat := by
  unfold rgE
  rw [List.length_map, List.length_range]
theorem ch_ok (z : Str) : Rls N k (chE z) (chs z) := by
  unfold chE chs
  generalize z.cps.toList = l
  induction l with
  | nil => exact .nil
  | cons c l ih => exact .cons (.str _) ih
theorem chE_len (z : Str) : (chE z).length = z.cps.size := by
  unfold chE
  rw [List.length_map, Array.length_toList]
theorem walkQ_nx {x : EV} {c : Str} {d : Option (Str × EV)} {h' : EH} (e : walkQ x h = .ex c d h') : False := by
  unfold walkQ at e
  split at e
  · cases e
  · unfold walkE at e
    split at e
    · cases e
    · split at e <;> cases e
    · cases e
theorem walkQ_at (s : Sim N k h) {x : EV} {w : V} {q : List EV × List (Nat × EO)} {h' : EH} (r : Rl N k x w) (e : walkQ x h = .ok q h') : h' = h ∧ ∃ a vs, w = .ref a ∧ rd N.so k.H a = some (.lst vs) ∧ Rls N k q.1 vs ∧
    ∀ k' h', LeR N k k' → Sim N k' h' → keepsE q.2 h' = true → ∃ us, rd N.so k'.H a = some (.lst us) ∧ Rls N k' q.1 us := by
  unfold walkQ at e
  cases r with
  | tup q r => cases e
  | @ref a ha =>
    simp only [walkE] at e
    split at e
    · rename_i g
      cases e
      obtain ⟨vs, h1, h2⟩ := lst_at s g
      refine ⟨rfl, _, vs, rfl, rd_l h1, h2, fun k' h' l s' e => ?_⟩
      obtain ⟨us, g1, g2⟩ := lst_at s' (keep_one e)
      rw [l.ag _ ha] at g1
      exact ⟨us, rd_l g1, g2⟩
    · rename_i g
      cases e
      obtain ⟨vs, h1, h2⟩ := fls_at s g
      refine ⟨rfl, _, vs, rfl, h1, h2, fun k' h' l s' e => ?_⟩
      obtain ⟨us, g1, g2⟩ := fls_at s' (keep_one e)
      rw [l.ag _ ha] at g1
      exact ⟨us, g1, g2⟩
    · cases e
  | _ => cases e
def OpR (N : Nm) (k : Kc) (o : Option EV) (o' : Option V) : Prop := match o, o' with
    | some v, some w => Rl N k v w
    | none, none => True
    | _, _ => False
theorem gdE_ok (O : EsOk N S E) (s : Sim N k h) {x : Str} {y : EV} {w : V} {o : Option EV} {B : Option V → Prop} (r : Rl N k y w) (e : gdE E x y = some o) (q : ∀ o', OpR N k o o' → B o') : gdK (S.gd x) w B := by
  unfold gdE at e
  cases h1 : E.gd x with
  | none => rw [h1] at e; cases e
  | some l =>
    rw [h1] at e
    obtain ⟨l', g1, g2⟩ := O.gd x l h1
    cases r with
    | str z =>
      cases e
      unfold gdK
      rw [g1]
      refine q _ ?_
      have g3 : Rkv N k l l' := Paired.mapQ (fun _ _ z => ⟨z.1, z.2 k h s⟩) g2
      exact look_ok g3 z
    | _ => cases e
theorem cnd_po {α β : Type} {rel : Kc → α → β → Prop} {b : Bool} {x y : Unit → R α} {B : β → Hp → Prop} {P P' : Prop} (p : Po N rel k (cnd b x y) B X) (h1 : Po N rel k (x ()) B X → P) (h2 : Po N rel k (y ()) B X → P') : if b = true then P else P' := by
  cases b with
  | true => rw [if_pos rfl]; exact h1 p
  | false => rw [if_neg (by decide)]; exact h2 p
theorem cmp_bl {so : Addr → Option HO} {o : CmpOp} {x y : V} {H : Hp} (q : cmpV so o x y H (boolV fun b H' => Q (.bl b) H')) : cmpV so o x y H Q := cmpV_mono (fun v H' z => by
  unfold boolV at z
  split at z
  · exact z
  · exact z.elim) q
end
section
variable {N : Nm} {S : Stat} {E : ES} (O : EsOk N S E) {F : Str → List EV → EH → R EV} {G : Sm} (hF : FOk N F G)
include O hF
mutual
theorem evE_ok : ∀ (e : Ex) {σ : ESt} {τ : St} {h : EH} {k : Kc} {Q : VK} {W : WX}, Sim N k h → Rst N k σ τ → Po N (Rl N) k (evE E F e σ h) Q (fun c d H => W c d τ H) → wE S G W e τ k.H Q
  | .var i, σ, τ, h, k, Q, W, s, rs, p => by
    unfold evE varE at p
    unfold wE varK
    split at p
    · rename_i v e
      obtain ⟨w, h1, h2⟩ := rs.get e
      rw [h1]
      exact p.ok s h2
    · exact p.elim
  | .lit v, σ, τ, h, k, Q, W, s, rs, p => by
    unfold evE at p
    unfold wE
    split at p
    · exact p.ok s .non
    · exact p.ok s (.bl _)
    · exact p.ok s (.int _)
    · exact p.ok s (.str _)
    · exact p.elim
  | .cst x, σ, τ, h, k, Q, W, s, rs, p => by
    unfold evE at p
    unfold wE cstK
    obtain ⟨v, h1, p⟩ := p.opt
    obtain ⟨w, h2, h3⟩ := O.gv x v h1
    rw [h2]
    exact p.ok s (h3 k h s)
  | .op o a b, σ, τ, h, k, Q, W, s, rs, p => by
    unfold evE at p
    unfold wE
    refine evE_ok a s rs (Po.bind p fun x h1 k1 u _ l1 s1 r1 p1 => ?_)
    refine evE_ok b s1 (rs.mono l1 s) (Po.bind p1 fun y h2 k2 w _ l2 s2 r2 p2 => ?_)
    rw [O.so]
    exact opE_ok s2 (r1.mono l2 s1) r2 p2
  | .neg a, σ, τ, h, k, Q, W, s, rs, p => by
    unfold evE at p
    unfold wE
    refine evE_ok a s rs (Po.bind p fun x h1 k1 u _ l1 s1 r1 p1 => ?_)
    cases r1 with
    | int i => exact p1.ok s1 (.int _)
    | _ => exact p1.elim
  | .cmp o a b, σ, τ, h, k, Q, W, s, rs, p => by
    unfold evE at p
    unfold wE
    refine evE_ok a s rs (Po.bind p fun x h1 k1 u _ l1 s1 r1 p1 => ?_)
    refine evE_ok b s1 (rs.mono l1 s) (Po.bind p1 fun y h2 k2 w _ l2 s2 r2 p2 => ?_)
    rw [O.so]
    refine cmp_bl (cmpE_ok s2 (r1.mono l2 s1) r2 (Po.bind p2 fun b h3 k3 b' _ l3 s3 r3 p3 => ?_))
    have r3 : b = b' := r3
    subst r3
    exact p3.ok s3 (.bl _)
  | .chn o o' a b c, σ, τ, h, k, Q, W, s, rs, p => by
    unfold evE at p
    unfold wE
    refine evE_ok a s rs (Po.bind p fun x h1 k1 u _ l1 s1 r1 p1 => ?_)
    refine evE_ok b s1 (rs.mono l1 s) (Po.bind p1 fun y h2 k2 w _ l2 s2 r2 p2 => ?_)
    rw [O.so]
    refine cmpE_ok s2 (r1.mono l2 s1) r2 (Po.bind p2 fun b h3 k3 b' _ l3 s3 r3 p3 => ?_)
    have r3 : b = b' := r3
    subst r3
    refine cnd_po p3 (fun p3 => ?_) (fun p3 => p3.ok s3 (.bl _))
    refine evE_ok c s3 (((rs.mono l1 s).mono l2 s1).mono l3 s2) (Po.bind p3 fun z h4 k4 w4 _ l4 s4 r4 p4 => ?_)
    refine cmp_bl (cmpE_ok s4 ((r2.mono l3 s2).mono l4 s3) r4 (Po.bind p4 fun b h3 k3 b' _ l3 s3 r3 p3 => ?_))
    have r3 : b = b' := r3
    subst r3
    exact p3.ok s3 (.bl _)
  | .and a b, σ, τ, h, k, Q, W, s, rs, p => by
    unfold evE at p
    unfold wE
    refine evE_ok a s rs (Po.bind p fun x h1 k1 u _ l1 s1 r1 p1 => ?_)
    cases ht : truE h1 x with
    | none => rw [ht] at p1; exact p1.elim
    | some bb =>
      rw [ht] at p1
      rw [O.so]
      refine truK_ok s1 r1 ht ?_
      have p1 : Po N (Rl N) k1 (cnd bb (fun _ => evE E F b σ h1) (fun _ => .ok x h1)) Q (fun c d H => W c d τ H) := p1
      exact cnd_po p1 (fun p1 => evE_ok _ s1 (rs.mono l1 s) p1) (fun p1 => p1.ok s1 r1)
  | .or a b, σ, τ, h, k, Q, W, s, rs, p => by
    unfold evE at p
    unfold wE
    refine evE_ok a s rs (Po.bind p fun x h1 k1 u _ l1 s1 r1 p1 => ?_)
    cases ht : truE h1 x with
    | none => rw [ht] at p1; exact p1.elim
    | some bb =>
      rw [ht] at p1
      rw [O.so]
      refine truK_ok s1 r1 ht ?_
      have p1 : Po N (Rl N) k1 (cnd bb (fun _ => .ok x h1) (fun _ => evE E F b σ h1)) Q (fun c d H => W c d τ H) := p1
      exact cnd_po p1 (fun p1 => p1.ok s1 r1) (fun p1 => evE_ok _ s1 (rs.mono l1 s) p1)
  | .not a, σ, τ, h, k, Q, W, s, rs, p => by
    unfold evE at p
    unfold wE
    refine evE_ok a s rs (Po.bind p fun x h1 k1 u _ l1 s1 r1 p1 => ?_)
    cases ht : truE h1 x with
    | none => rw [ht] at p1; exact p1.elim
    | some b =>
      rw [ht] at p1
      rw [O.so]
      refine truK_ok s1 r1 ht ?_
      exact Po.ok p1 s1 (.bl _)
  | .ite t a b, σ, τ, h, k, Q, W, s, rs, p => by
    unfold evE at p
    unfold wE
    refine evT_ok t s rs (Po.bind p fun x h1 k1 u _ l1 s1 r1 p1 => ?_)
    have r1 : x = u := r1
    subst r1
    exact cnd_po p1 (fun p1 => evE_ok _ s1 (rs.mono l1 s) p1) (fun p1 => evE_ok _ s1 (rs.mono l1 s) p1)
  | .fld o f, σ, τ, h, k, Q, W, s, rs, p => by
    unfold evE at p
    unfold wE
    refine evE_ok o s rs (Po.bind p fun x h1 k1 u _ l1 s1 r1 p1 => ?_)
    exact fldE_ok O s1 r1 p1
  | .idx a b, σ, τ, h, k, Q, W, s, rs, p => by
    unfold evE at p
    unfold wE
    refine evE_ok a s rs (Po.bind p fun x h1 k1 u _ l1 s1 r1 p1 => ?_)
    refine evE_ok b s1 (rs.mono l1 s) (Po.bind p1 fun y h2 k2 w _ l2 s2 r2 p2 => ?_)
    rw [O.so]
    exact idxE_ok s2 (r1.mono l2 s1) r2 p2
  | .slc o lo hi, σ, τ, h, k, Q, W, s, rs, p => by
    unfold evE at p
    unfold wE
    refine evE_ok o s rs (Po.bind p fun x h1 k1 u _ l1 s1 r1 p1 => ?_)
    refine evO_ok lo s1 (rs.mono l1 s) (Po.bind p1 fun y h2 k2 w _ l2 s2 r2 p2 => ?_)
    refine evO_ok hi s2 ((rs.mono l1 s).mono l2 s1) (Po.bind p2 fun z h3 k3 w3 _ l3 s3 r3 p3 => ?_)
    have r2 : y = w := r2
    have r3 : z = w3 := r3
    subst r2 r3
    rw [O.so]
    exact slcE_ok s3 ((r1.mono l2 s1).mono l3 s2) p3
  | .lst es, σ, τ, h, k, Q, W, s, rs, p => by
    unfold evE at p
    unfold wE
    refine evA_ok es s rs (Po.bind p fun xs h1 k1 us _ l1 s1 r1 p1 => ?_)
    obtain ⟨c, p1⟩ := p1.chk
    refine ⟨?_, fun a ha hs => p1.newL s1 r1 ha (O.so ▸ hs)⟩
    rw [← r1.length]
    exact of_decide_eq_true c
  | .tup es, σ, τ, h, k, Q, W, s, rs, p => by
    unfold evE at p
    unfold wE
    refine evA_ok es s rs (Po.bind p fun xs h1 k1 us _ l1 s1 r1 p1 => ?_)
    obtain ⟨c, p1⟩ := p1.chk
    refine ⟨?_, fun a ha hs => p1.layT s1 r1 ha (O.so ▸ hs)⟩
    rw [← r1.length]
    exact of_decide_eq_true c
  | .fn f es, σ, τ, h, k, Q, W, s, rs, p => by
    unfold evE at p
    unfold wE
    refine evA_ok es s rs (Po.bind p fun xs h1 k1 us _ l1 s1 r1 p1 => ?_)
    exact hF f xs us h1 k1 _ _ s1 r1 p1
  | .bi b es, σ, τ, h, k, Q, W, s, rs, p => by
    unfold evE at p
    unfold wE
    refine evA_ok es s rs (Po.bind p fun xs h1 k1 us _ l1 s1 r1 p1 => ?_)
    rw [O.so]
    exact biE_ok s1 r1 p1
  | .isi e T, σ, τ, h, k, Q, W, s, rs, p => by
    unfold evE at p
    unfold wE
    refine evE_ok e s rs (Po.bind p fun x h1 k1 u _ l1 s1 r1 p1 => ?_)
    cases ht : btE h1 T x with
    | none => rw [ht] at p1; exact p1.elim
    | some b =>
      rw [ht] at p1
      rw [O.so]
      unfold btK
      rw [btE_ok s1 r1 ht]
      exact Po.ok p1 s1 (.bl _)
  | .isx e c, σ, τ, h, k, Q, W, s, rs, p => by
    unfold evE at p
    unfold wE
    refine evE_ok e s rs (Po.bind p fun x h1 k1 u _ l1 s1 r1 p1 => ?_)
    cases ht : isxE E c x h1 with
    | none => rw [ht] at p1; exact p1.elim
    | some b =>
      rw [ht] at p1
      exact isxE_ok O s1 r1 ht (Po.ok p1 s1 (.bl _))
  | .mkx c es, σ, τ, h, k, Q, W, s, rs, p => by
    unfold evE at p
    unfold wE
    refine evA_ok es s rs (Po.bind p fun xs h1 k1 us _ l1 s1 r1 p1 => ?_)
    exact mkxE_ok O s1 r1 p1
  | .dct0, σ, τ, h, k, Q, W, s, rs, p => by
    unfold evE at p
    unfold wE
    exact fun a ha hs => p.newD s .nil ha (O.so ▸ hs)
  | .met o m es, σ, τ, h, k, Q, W, s, rs, p => by
    unfold evE at p
    unfold wE
    refine evE_ok o s rs (Po.bind p fun x h1 k1 u _ l1 s1 r1 p1 => ?_)
    cases ht : metE E m x h1 with
    | none => rw [ht] at p1; exact p1.elim
    | some g =>
      rw [ht] at p1
      refine metE_ok O s1 r1 ht ?_
      refine evA_ok es s1 (rs.mono l1 s) (Po.bind p1 fun xs h2 k2 us _ l2 s2 r2 p2 => ?_)
      exact hF g (x :: xs) (u :: us) h2 k2 _ _ s2 (.cons (r1.mono l2 s1) r2) p2
  | .bm m o es, σ, τ, h, k, Q, W, s, rs, p => by
    unfold evE at p
    unfold wE
    refine evE_ok o s rs (Po.bind p fun x h1 k1 u _ l1 s1 r1 p1 => ?_)
    obtain ⟨c, p1⟩ := p1.chk
    refine ⟨bmTy_ok s1 O.so r1 c, ?_⟩
    refine evA_ok es s1 (rs.mono l1 s) (Po.bind p1 fun xs h2 k2 us _ l2 s2 r2 p2 => ?_)
    exact bmE_ok s2 O.so (r1.mono l2 s1) r2 p2
  | .mkC c ks es, σ, τ, h, k, Q, W, s, rs, p => by
    unfold evE at p
    unfold wE
    refine evA_ok es s rs (Po.bind p fun xs h1 k1 us _ l1 s1 r1 p1 => ?_)
    unfold mkE at p1
    unfold mkK
    rw [← r1.length]
    split at p1
    · rename_i g pm hm
      obtain ⟨C, pm', c1, c2, c3⟩ := O.mkc _ _ _ _ _ hm
      rw [c2]
      split at p1
      · rename_i ws hw
        obtain ⟨zs, z1, z2⟩ := pm_ok s1 c3 r1 hw
        simp only [z1]
        intro x dx hx hd hne sx sd
        rw [O.so] at sx sd
        have ld : LeK N k1 (k1.lay dx (.own x)) := LeK.lay hd sd
        have sd' := s1.lay (u := .own x) hd sd
        have hx' : (k1.lay dx (.own x)).H x = none := (upd_ne (Ne.symm hne)).trans hx
        have ln : LeK N (k1.lay dx (.own x)) ((k1.lay dx (.own x)).new x (.ins C dx [])) := LeK.new hx' sx
        have sn := sd'.new (u := .ins C dx []) (o := .ins c []) hx' sx ⟨C, dx, [], upd_same, c1, .nil⟩
        have rn : Rl N ((k1.lay dx (.own x)).new x (.ins C dx [])) (.ref h1.length) (.ref x) := by
          rw [s1.len]
          have : Rl N ((k1.lay dx (.own x)).new x (.ins C dx [])) (.ref k1.n) (.ref (((k1.lay dx (.own x)).new x (.ins C dx [])).ρ k1.n)) := .ref (Nat.lt_succ_self _)
          rw [show ((k1.lay dx (.own x)).new x (.ins C dx [])).ρ k1.n = x from if_pos rfl] at this
          exact this
        refine hF g (.ref h1.length :: ws) (.ref x :: zs) (h1 ++ [.ins c []]) ((k1.lay dx (.own x)).new x (.ins C dx [])) _ _ sn (.cons rn ((z2.mono ld s1).mono ln sd')) ?_
        refine Po.bind (Po.le (ld.trans ln) p1) fun v h2 k2 w _ l2 s2 r2 p2 => ?_
        cases r2 with
        | non => exact ⟨rfl, p2.ok s2 (rn.mono l2 sn)⟩
        | _ => exact p2.elim
      · exact p1.elim
    · exact p1.elim
  | .lc t sr c e vs, σ, τ, h, k, Q, W, s, rs, p => by
    unfold evE at p
    unfold wE
    refine evI_ok sr s rs (Po.bind p fun q h1 k1 u _ l1 s1 r1 p1 => ?_)
    intro D hD sD
    rw [O.so] at sD ⊢
    cases hl : lcE q.2 t (evT E F c) (evE E F e) (wipeE σ vs) q.1 [] h1 with
    | bad => rw [hl] at p1; exact p1.elim
    | ex _ _ _ => rw [hl] at p1; exact p1.elim
    | ok acc h2 =>
      rw [hl] at p1
      have p1 : Po N (Rl N) k1 (newE (.lst acc) h2) Q (fun c d H => W c d τ H) := p1
      rw [← r1.1]
      have ll : LeK N k1 (k1.lay D (.lst [])) := LeK.lay hD sD
      exact lcE_ok O (k0 := k1) (kb := k1) (fun σ τ k h B a b c => evT_ok _ a b c) (fun σ τ k h B a b c => evE_ok _ a b c) r1.2 hD
        (fun accV k' a1 a2 a3 a4 a5 => p1.told a4 a3 a1 hD ⟨accV, a4.at_, a5⟩)
        q.1 0 rfl ll (ll.r s1) (s1.lay hD sD) (((rs.mono l1 s).mono ll s1).wipe vs) ⟨upd_same, s1.fresh hD sD, .inl ⟨_, rfl⟩⟩ .nil hl
  | .lc2 t sr c t1 sr1 c1 e vs vs1, σ, τ, h, k, Q, W, s, rs, p => by
    unfold evE at p
    unfold wE
    refine evI_ok sr s rs (Po.bind p fun q h1 k1 u _ l1 s1 r1 p1 => ?_)
    intro D hD sD
    rw [O.so] at sD ⊢
    cases hl : lgE q.2 t (evT E F c) (fun σ2 acc h3 => (evI E F sr1 σ2 h3).nox.bind fun q h4 => lcE q.2 t1 (evT E F c1) (evE E F e) (wipeE σ2 vs1) q.1 acc h4) (wipeE σ vs) q.1 [] h1 with
    | bad => rw [hl] at p1; exact p1.elim
    | ex _ _ _ => rw [hl] at p1; exact p1.elim
    | ok acc h2 =>
      rw [hl] at p1
      have p1 : Po N (Rl N) k1 (newE (.lst acc) h2) Q (fun c d H => W c d τ H) := p1
      rw [← r1.1]
      have ll : LeK N k1 (k1.lay D (.lst [])) := LeK.lay hD sD
      refine lgE_ok O (k0 := k1) (kb := k1) (fun σ τ k h B a b c => evT_ok _ a b c) hD ?_ r1.2
        (fun accV k' a1 a3 a4 a5 => p1.told a4 a3 a1 hD ⟨accV, a4.at_, a5⟩)
        q.1 0 rfl ll (ll.r s1) (s1.lay hD sD) (((rs.mono l1 s).mono ll s1).wipe vs) ⟨upd_same, s1.fresh hD sD, .inl ⟨_, rfl⟩⟩ .nil hl
      intro σ2 τ2 ac acV k2 h3 ac2 h4 B s2 rs2 l2 m2 ra e2 fin
      obtain ⟨q2, h5, e3, e4⟩ := nox_ok e2
      refine evI_ok sr1 s2 rs2 ?_
      rw [e3]
      intro k3 w3 l3 s3 r3
      rw [← r3.1]
      exact lcE_ok O (k0 := k1) (kb := k3) (fun σ τ k h B a b c => evT_ok _ a b c) (fun σ τ k h B a b c => evE_ok _ a b c) r3.2 hD
        (fun accV k' a1 a2 a3 a4 a5 => fin accV k' a1 ((l3.r s2).trans a2) a3 a4 a5)
        q2.1 0 rfl (l2.trans l3) LeR.refl s3 ((rs2.mono l3 s2).wipe vs1) (m2.le l3) (ra.mono l3 s2) e4
  | .nev, σ, τ, h, k, Q, W, s, rs, p => by
    unfold evE at p
    exact p.elim
  | .dsp ps, σ, τ, h, k, Q, W, s, rs, p => by
    unfold evE at p
    unfold wE
    intro D hD sD
    rw [O.so] at sD
    have ll : LeK N k (k.lay D (.dK [])) := LeK.lay hD sD
    have s' := s.lay (u := .dK []) hD sD
    have m0 : Mkg (k.lay D (.dK [])) D (.dK []) := ⟨upd_same, s.fresh hD sD, .inr ⟨_, rfl⟩⟩
    refine evP_ok ps s' (rs.mono ll s) ?_
    cases hl : evP E F ps σ h with
    | bad => rw [hl] at p; exact p.elim
    | ex c d h1 =>
      rw [hl] at p
      exact fun k2 C dd a b c d => p k2 C dd (ll.trans a) b c d
    | ok qs h1 =>
      rw [hl] at p
      intro k2 ws l2 s2 r2
      have p : Po N (Rl N) k (match prsE qs with
        | some kvs => chk (decide (kvs.length ≤ 15)) fun _ => newE (.dct (mergeE [] kvs)) h1
        | none => .bad) Q (fun c d H => W c d τ H) := p
      have m2 := m0.le l2
      refine ⟨m2.at_, ?_⟩
      split at p
      · rename_i kvs hk
        obtain ⟨c, p⟩ := p.chk
        obtain ⟨us, g1, g2⟩ := prs_ok r2 hk
        refine ⟨us, g1, ?_, ?_⟩
        · rw [← kv_len g2]
          exact of_decide_eq_true c
        have lr := m2.r (N := N) (u' := .dK (mergeK [] us))
        exact p.told (m2.put (.inr ⟨_, rfl⟩)) (m2.sim s2) (m2.leK (ll.trans l2) hD) hD ⟨_, upd_same, merge_ok .nil (g2.monoR lr)⟩
      · exact p.elim
  | .dc t sr c ke ve vs, σ, τ, h, k, Q, W, s, rs, p => by
    unfold evE at p
    unfold wE
    refine evI_ok sr s rs (Po.bind p fun q h1 k1 u _ l1 s1 r1 p1 => ?_)
    intro D hD sD
    rw [O.so] at sD ⊢
    cases hl : dcE q.2 t (evT E F c) (evE E F ke) (evE E F ve) (wipeE σ vs) q.1 [] h1 with
    | bad => rw [hl] at p1; exact p1.elim
    | ex _ _ _ => rw [hl] at p1; exact p1.elim
    | ok acc h2 =>
      rw [hl] at p1
      have p1 : Po N (Rl N) k1 (newE (.dct acc) h2) Q (fun c d H => W c d τ H) := p1
      rw [← r1.1]
      have ll : LeK N k1 (k1.lay D (.dK [])) := LeK.lay hD sD
      exact dcE_ok O (k0 := k1) (kb := k1) (fun σ τ k h B a b c => evT_ok _ a b c) (fun σ τ k h B a b c => evE_ok _ a b c) (fun σ τ k h B a b c => evE_ok _ a b c) r1.2 hD
        (fun accV k' a1 a2 a3 a4 a5 => p1.told a4 a3 a1 hD ⟨accV, a4.at_, a5⟩)
        q.1 0 rfl ll (ll.r s1) (s1.lay hD sD) (((rs.mono l1 s).mono ll s1).wipe vs) ⟨upd_same, s1.fresh hD sD, .inr ⟨_, rfl⟩⟩ .nil hl
  | .isi2 e T U, σ, τ, h, k, Q, W, s, rs, p => by
    unfold evE at p
    unfold wE
    refine evE_ok e s rs (Po.bind p fun x h1 k1 u _ l1 s1 r1 p1 => ?_)
    intro D hD sD
    rw [O.so] at sD ⊢
    have ll : LeK N k1 (k1.lay D (.tup [.ty (btS T), .ty (btS U)])) := LeK.lay hD sD
    have s' := s1.lay (u := .tup [.ty (btS T), .ty (btS U)]) hD sD
    unfold bt2K
    split at p1
    · rename_i a b ha hb
      have g1 := btE_ok s' (r1.mono ll s1) ha
      have g2 := btE_ok s' (r1.mono ll s1) hb
      have g1 : btV N.so (upd k1.H D (.tup [.ty (btS T), .ty (btS U)])) T u = some a := g1
      have g2 : btV N.so (upd k1.H D (.tup [.ty (btS T), .ty (btS U)])) U u = some b := g2
      rw [g1, g2]
      exact (Po.le ll p1).ok s' (.bl _)
    · exact p1.elim
  | .lrg lo hi, σ, τ, h, k, Q, W, s, rs, p => by
    unfold evE at p
    unfold wE
    refine evE_ok lo s rs (Po.bind p fun x h1 k1 u _ l1 s1 r1 p1 => ?_)
    refine evE_ok hi s1 (rs.mono l1 s) (Po.bind p1 fun y h2 k2 w _ l2 s2 r2 p2 => ?_)
    split at p2
    · cases r1
      cases r2
      obtain ⟨c, p2⟩ := p2.chk
      exact ⟨rg_ok c, fun a ha hs => p2.newL s2 (rgs_ok _ _) ha (O.so ▸ hs)⟩
    · exact p2.elim
  | .gin neg x e, σ, τ, h, k, Q, W, s, rs, p => by
    unfold evE at p
    unfold wE
    refine evE_ok e s rs (Po.bind p fun y h1 k1 u _ l1 s1 r1 p1 => ?_)
    cases ht : gdE E x y with
    | none => rw [ht] at p1; exact p1.elim
    | some o =>
      rw [ht] at p1
      refine gdE_ok O s1 r1 ht fun o' ho => ?_
      have e1 : o.isSome = o'.isSome := by cases o <;> cases o' <;> first | rfl | exact ho.elim
      rw [← e1]
      exact Po.ok p1 s1 (.bl _)
  | .gix x e, σ, τ, h, k, Q, W, s, rs, p => by
    unfold evE at p
    unfold wE
    refine evE_ok e s rs (Po.bind p fun y h1 k1 u _ l1 s1 r1 p1 => ?_)
    cases ht : gdE E x y with
    | none => rw [ht] at p1; exact p1.elim
    | some o =>
      rw [ht] at p1
      refine gdE_ok O s1 r1 ht fun o' ho => ?_
      have p1 : Po N (Rl N) k1 (R.opt o h1) Q (fun c d H => W c d τ H) := p1
      cases o with
      | none => exact p1.elim
      | some v =>
        cases o' with
        | none => exact ho.elim
        | some w => exact Po.ok p1 s1 ho
theorem evP_ok : ∀ (e : Prs) {σ : ESt} {τ : St} {h : EH} {k : Kc} {Q : List (V × V) → Hp → Prop} {W : WX}, Sim N k h → Rst N k σ τ → Po N (PrR N) k (evP E F e σ h) Q (fun c d H => W c d τ H) → wP S G W e τ k.H Q
  | .nil, σ, τ, h, k, Q, W, s, rs, p => by
    unfold evP at p
    unfold wP
    exact p.ok s .nil
  | .cons a b r, σ, τ, h, k, Q, W, s, rs, p => by
    unfold evP at p
    unfold wP
    refine evE_ok a s rs (Po.bind p fun x h1 k1 u _ l1 s1 r1 p1 => ?_)
    refine evE_ok b s1 (rs.mono l1 s) (Po.bind p1 fun y h2 k2 w _ l2 s2 r2 p2 => ?_)
    refine evP_ok r s2 ((rs.mono l1 s).mono l2 s1) (Po.bind p2 fun z h3 k3 w3 _ l3 s3 r3 p3 => ?_)
    exact p3.ok s3 (.cons ⟨(r1.mono l2 s1).mono l3 s2, r2.mono l3 s2⟩ r3)
theorem evI_ok : ∀ (e : Sr) {σ : ESt} {τ : St} {h : EH} {k : Kc} {B : Nat → (Hp → List Itm → Prop) → Hp → Prop} {W : WX}, Sim N k h → Rst N k σ τ → Po N (SrR N) k (evI E F e σ h) (fun q H => B q.1 q.2 H) (fun c d H => W c d τ H) → wI S G W e τ k.H B
  | .rng lo hi, σ, τ, h, k, B, W, s, rs, p => by
    unfold evI at p
    unfold wI
    refine evE_ok lo s rs (Po.bind p fun x h1 k1 u _ l1 s1 r1 p1 => ?_)
    refine evE_ok hi s1 (rs.mono l1 s) (Po.bind p1 fun y h2 k2 w _ l2 s2 r2 p2 => ?_)
    cases r1 with
    | int l =>
      cases r2 with
      | int u => exact p2.ok s2 (w := ((u - l).toNat, fun _ its => its = (List.range (u - l).toNat).map fun i => Itm.v (.int (l + (i : Nat))))) ⟨rg_len l u, fun k' h' _ _ _ => ⟨_, rfl, rgi_ok l u⟩⟩
      | _ => exact p2.elim
    | _ => exact p2.elim
  | .val e, σ, τ, h, k, B, W, s, rs, p => by
    unfold evI at p
    unfold wI
    refine evE_ok e s rs (Po.bind p fun x h1 k1 u _ l1 s1 r1 p1 => ?_)
    rw [O.so]
    refine walkE_ok s1 (X := fun c d H => W c d τ H) (B := fun q H => B q.1.length (fun H' its => ∃ ys, q.2 H' ys ∧ its = ys.map Itm.v) H) r1 ?_
    cases hw : walkE x h1 with
    | bad => rw [hw] at p1; exact p1.elim
    | ex _ _ _ => rw [hw] at p1; exact p1
    | ok q h2 =>
      rw [hw] at p1
      intro k2 w2 l2 s2 r2
      refine p1 k2 (w2.1.length, fun H' its => ∃ ys, w2.2 H' ys ∧ its = ys.map Itm.v) l2 s2 ⟨r2.len, fun k' h' a b c => ?_⟩
      obtain ⟨vs, g1, g2⟩ := r2.cur k' h' a b c
      exact ⟨_, ⟨vs, g1, rfl⟩, its_v g2⟩
  | .enm e, σ, τ, h, k, B, W, s, rs, p => by
    unfold evI at p
    unfold wI
    refine evE_ok e s rs (Po.bind p fun x h1 k1 u _ l1 s1 r1 p1 => ?_)
    rw [O.so]
    refine walkQ_ok s1 (X := fun c d H => W c d τ H) (B := fun q H => B q.1.length (fun H' its => ∃ ys, q.2 H' ys ∧ its = enumI 0 ys) H) r1 ?_
    refine Po.bind p1 fun q h2 k2 w2 _ l2 s2 r2 p2 => ?_
    refine p2.ok s2 (w := (w2.1.length, fun H' its => ∃ ys, w2.2 H' ys ∧ its = enumI 0 ys)) ⟨(enE_len _ _).trans r2.len, fun k' h' a b c => ?_⟩
    obtain ⟨vs, g1, g2⟩ := r2.cur k' h' a b c
    exact ⟨_, ⟨vs, g1, rfl⟩, its_e 0 g2⟩
  | .zip a b, σ, τ, h, k, B, W, s, rs, p => by
    unfold evI at p
    unfold wI
    refine evE_ok a s rs (Po.bind p fun x h1 k1 u _ l1 s1 r1 p1 => ?_)
    refine evE_ok b s1 (rs.mono l1 s) (Po.bind p1 fun y h2 k2 w _ l2 s2 r2 p2 => ?_)
    rw [O.so]
    refine walkQ_ok s2 (X := fun c d H => W c d τ H) (B := fun q H => lsqK N.so w H fun ys cur' => B (min q.1.length ys.length) (fun H' its => ∃ us vs, q.2 H' us ∧ cur' H' vs ∧ its = zipI us vs) H) (r1.mono l2 s1) ?_
    refine Po.bind p2 fun q h3 k3 w3 e3 l3 s3 r3 p3 => ?_
    refine walkQ_ok s3 (X := fun c d H => W c d τ H) (B := fun q2 H => B (min w3.1.length q2.1.length) (fun H' its => ∃ us vs, w3.2 H' us ∧ q2.2 H' vs ∧ its = zipI us vs) H) (r2.mono l3 s2) ?_
    refine Po.bind p3 fun q2 h4 k4 w4 e4 l4 s4 r4 p4 => ?_
    refine p4.ok s4 (w := (min w3.1.length w4.1.length, fun H' its => ∃ us vs, w3.2 H' us ∧ w4.2 H' vs ∧ its = zipI us vs)) ⟨?_, fun k' h' a b c => ?_⟩
    · show (ziE q.1 q2.1).length = _
      rw [ziE_len, r3.len, r4.len]
    obtain ⟨c1, c2⟩ := keep_app c
    obtain ⟨vs, g1, g2⟩ := r3.cur k' h' ((l4.r s3).trans a) b c1
    obtain ⟨vs2, g3, g4⟩ := r4.cur k' h' a b c2
    exact ⟨_, ⟨vs, vs2, g1, g3, rfl⟩, its_z g2 g4⟩
  | .zst a b, σ, τ, h, k, B, W, s, rs, p => by
    unfold evI at p
    unfold wI
    refine evE_ok a s rs (Po.bind p fun x h1 k1 u _ l1 s1 r1 p1 => ?_)
    refine evE_ok b s1 (rs.mono l1 s) (Po.bind p1 fun y h2 k2 w _ l2 s2 r2 p2 => ?_)
    rw [O.so]
    have r1' := r1.mono l2 s1
    cases hq : walkQ x h2 with
    | bad => rw [hq] at p2; exact p2.elim
    | ex c d h3 => exact (walkQ_nx hq).elim
    | ok q h3 =>
      rw [hq] at p2
      obtain ⟨rfl, a0, vs, rfl, g1, g2, g3⟩ := walkQ_at s2 r1' hq
      cases r2 with
      | str z =>
        have p2 : Po N (SrR N) k2 (chk (decide (q.1.length = z.cps.size) && asciiB z) fun _ => .ok (ziE q.1 (chE z), q.2) h3) (fun q H => B q.1 q.2 H) (fun c d H => W c d τ H) := p2
        obtain ⟨c, p2⟩ := p2.chk
        simp only [Bool.and_eq_true, decide_eq_true_eq] at c
        unfold zstK
        simp only [g1]
        refine ⟨g2.length.symm.trans c.1, c.2, ?_⟩
        refine p2.ok s2 (w := (vs.length, fun H' its => ∃ us, rd N.so H' a0 = some (.lst us) ∧ us.length = z.cps.size ∧ its = zipI us (chs z))) ⟨?_, fun k' h' la sa kp => ?_⟩
        · show (ziE q.1 (chE z)).length = vs.length
          rw [ziE_len, chE_len, ← g2.length, c.1]
          omega
        · obtain ⟨us, i1, i2⟩ := g3 k' h' la sa kp
          exact ⟨_, ⟨us, i1, i2.length.symm.trans c.1, rfl⟩, its_z i2 (ch_ok z)⟩
      | _ => exact p2.elim
theorem evA_ok : ∀ (e : Exs) {σ : ESt} {τ : St} {h : EH} {k : Kc} {Q : List V → Hp → Prop} {W : WX}, Sim N k h → Rst N k σ τ → Po N (Rls N) k (evA E F e σ h) Q (fun c d H => W c d τ H) → wA S G W e τ k.H Q
  | .nil, σ, τ, h, k, Q, W, s, rs, p => by
    unfold evA at p
    unfold wA
    exact p.ok s .nil
  | .cons a r, σ, τ, h, k, Q, W, s, rs, p => by
    unfold evA at p
    unfold wA
    refine evE_ok a s rs (Po.bind p fun x h1 k1 u _ l1 s1 r1 p1 => ?_)
    refine evA_ok r s1 (rs.mono l1 s) (Po.bind p1 fun y h2 k2 w _ l2 s2 r2 p2 => ?_)
    exact p2.ok s2 (.cons (r1.mono l2 s1) r2)
theorem evO_ok : ∀ (e : Ox) {σ : ESt} {τ : St} {h : EH} {k : Kc} {Q : Option Int → Hp → Prop} {W : WX}, Sim N k h → Rst N k σ τ → Po N Same k (evO E F e σ h) Q (fun c d H => W c d τ H) → wO S G W e τ k.H Q
  | .none, σ, τ, h, k, Q, W, s, rs, p => by
    unfold evO at p
    unfold wO
    exact p.ok s rfl
  | .some e, σ, τ, h, k, Q, W, s, rs, p => by
    unfold evO at p
    unfold wO
    refine evE_ok e s rs (Po.bind p fun x h1 k1 u _ l1 s1 r1 p1 => ?_)
    cases r1 with
    | int i => exact p1.ok s1 rfl
    | _ => exact p1.elim
theorem evT_ok : ∀ (e : Te) {σ : ESt} {τ : St} {h : EH} {k : Kc} {Q : Bool → Hp → Prop} {W : WX}, Sim N k h → Rst N k σ τ → Po N Same k (evT E F e σ h) Q (fun c d H => W c d τ H) → wT S G W e τ k.H Q
  | .val e, σ, τ, h, k, Q, W, s, rs, p => by
    unfold evT at p
    unfold wT
    refine evE_ok e s rs (Po.bind p fun x h1 k1 u _ l1 s1 r1 p1 => ?_)
    obtain ⟨b, ht, p1⟩ := p1.opt
    rw [O.so]
    exact truK_ok s1 r1 ht (p1.ok s1 rfl)
  | .cmp o a b, σ, τ, h, k, Q, W, s, rs, p => by
    unfold evT at p
    unfold wT
    refine evE_ok a s rs (Po.bind p fun x h1 k1 u _ l1 s1 r1 p1 => ?_)
    refine evE_ok b s1 (rs.mono l1 s) (Po.bind p1 fun y h2 k2 w _ l2 s2 r2 p2 => ?_)
    rw [O.so]
    exact cmpE_ok s2 (r1.mono l2 s1) r2 p2
  | .chn o o' a b c, σ, τ, h, k, Q, W, s, rs, p => by
    unfold evT at p
    unfold wT
    refine evE_ok a s rs (Po.bind p fun x h1 k1 u _ l1 s1 r1 p1 => ?_)
    refine evE_ok b s1 (rs.mono l1 s) (Po.bind p1 fun y h2 k2 w _ l2 s2 r2 p2 => ?_)
    rw [O.so]
    refine cmpE_ok s2 (r1.mono l2 s1) r2 (Po.bind p2 fun b h3 k3 b' _ l3 s3 r3 p3 => ?_)
    have r3 : b = b' := r3
    subst r3
    refine cnd_po p3 (fun p3 => ?_) (fun p3 => p3.ok s3 rfl)
    refine evE_ok c s3 (((rs.mono l1 s).mono l2 s1).mono l3 s2) (Po.bind p3 fun z h4 k4 w4 _ l4 s4 r4 p4 => ?_)
    exact cmpE_ok s4 ((r2.mono l3 s2).mono l4 s3) r4 p4
  | .and a b, σ, τ, h, k, Q, W, s, rs, p => by
    unfold evT at p
    unfold wT
    refine evT_ok a s rs (Po.bind p fun x h1 k1 u _ l1 s1 r1 p1 => ?_)
    have r1 : x = u := r1
    subst r1
    exact cnd_po p1 (fun p1 => evT_ok _ s1 (rs.mono l1 s) p1) (fun p1 => p1.ok s1 rfl)
  | .or a b, σ, τ, h, k, Q, W, s, rs, p => by
    unfold evT at p
    unfold wT
    refine evT_ok a s rs (Po.bind p fun x h1 k1 u _ l1 s1 r1 p1 => ?_)
    have r1 : x = u := r1
    subst r1
    exact cnd_po p1 (fun p1 => p1.ok s1 rfl) (fun p1 => evT_ok _ s1 (rs.mono l1 s) p1)
  | .not a, σ, τ, h, k, Q, W, s, rs, p => by
    unfold evT at p
    unfold wT
    refine evT_ok a s rs (Po.bind p fun x h1 k1 u _ l1 s1 r1 p1 => ?_)
    have r1 : x = u := r1
    subst r1
    exact p1.ok s1 rfl
  | .yes, σ, τ, h, k, Q, W, s, rs, p => by
    unfold evT at p
    unfold wT
    exact p.ok s rfl
  | .gin neg x e, σ, τ, h, k, Q, W, s, rs, p => by
    unfold evT at p
    unfold wT
    refine evE_ok e s rs (Po.bind p fun y h1 k1 u _ l1 s1 r1 p1 => ?_)
    cases ht : gdE E x y with
    | none => rw [ht] at p1; exact p1.elim
    | some o =>
      rw [ht] at p1
      refine gdE_ok O s1 r1 ht fun o' ho => ?_
      have e1 : o.isSome = o'.isSome := by cases o <;> cases o' <;> first | rfl | exact ho.elim
      rw [← e1]
      exact Po.ok p1 s1 rfl
end
end
end QL
set_option Elab.async false
set_option linter.all false
set_option maxRecDepth 100000
set_option maxHeartbeats 4000000
/-! E9: statements and defs led over. -/
namespace QL
open PySem PySem.Spec
open L2 hiding wE wT
open PyProof.Rows hiding St
/-- what a statement's end promises -/
def PoS (N : Nm) (k : Kc) (r : RS) (D : Ends) (W : WX) : Prop := match r with
  | .nx σ h' => ∀ k' τ, LeK N k k' → Sim N k' h' → Rst N k' σ τ → D.nx τ k'.H
  | .rt v h' => ∀ k' w, LeK N k k' → Sim N k' h' → Rl N k' v w → D.rt w k'.H
  | .ex c d σ h' => ∀ k' C dd τ, LeK N k k' → Sim N k' h' → N.cl c = some C → XdR N k' d dd → Rst N k' σ τ → W (.ref C) dd τ k'.H
  | .bad => False
section
variable {N : Nm} {k k' : Kc} {h : EH} {D D' : Ends} {W W' : WX}
theorem PoS.le {r : RS} (l : LeK N k k') (p : PoS N k r D W) : PoS N k' r D W := by
  cases r with
  | nx σ h => exact fun k2 w a b c => p k2 w (l.trans a) b c
  | rt v h => exact fun k2 w a b c => p k2 w (l.trans a) b c
  | ex c d σ h => exact fun k2 C dd τ a b c d e => p k2 C dd τ (l.trans a) b c d e
  | bad => exact p
theorem PoS.st {α β : Type} {rel : Kc → α → β → Prop} {r : R α} {f : α → EH → RS} {B : β → Hp → Prop} {σ : ESt} {τ : St} (p : PoS N k (r.st σ f) D W) (s : Sim N k h) (rs : Rst N k σ τ)
    (q : ∀ v h1 k1 w, r = .ok v h1 → LeK N k k1 → Sim N k1 h1 → rel k1 v w → PoS N k1 (f v h1) D W → B w k1.H) : Po N rel k r B (fun c d H => W c d τ H) := by
  cases r with
  | ok v h1 => exact fun k1 w a b c => q v h1 k1 w rfl a b c (PoS.le (r := f v h1) a p)
  | ex c d h1 => exact fun k1 C dd a b c d => p k1 C dd τ a b c d (rs.mono a s)
  | bad => exact p
theorem PoS.bind {r : RS} {f : ESt → EH → RS} (p : PoS N k (r.bind f) D W) (hr : D'.rt = D.rt)
    (q : ∀ σ h1 k1 τ, LeK N k k1 → Sim N k1 h1 → Rst N k1 σ τ → PoS N k1 (f σ h1) D W → D'.nx τ k1.H) : PoS N k r D' W := by
  cases r with
  | nx σ h1 => exact fun k1 w a b c => q σ h1 k1 w a b c (PoS.le (r := f σ h1) a p)
  | rt v h1 => exact fun k1 w a b c => by rw [hr]; exact p k1 w a b c
  | ex c d σ h1 => exact p
  | bad => exact p
theorem PoS.nx {σ : ESt} {τ : St} (p : PoS N k (.nx σ h) D W) (s : Sim N k h) (rs : Rst N k σ τ) : D.nx τ k.H := p k τ LeK.refl s rs
theorem PoS.chk {b : Bool} {r : Unit → RS} (p : PoS N k (chkS b r) D W) : b = true ∧ PoS N k (r ()) D W := by
  cases b with
  | true => exact ⟨rfl, p⟩
  | false => exact p.elim
theorem PoS.opt {o : Option ESt} (p : PoS N k (optS o h) D W) : ∃ σ, o = some σ ∧ PoS N k (.nx σ h) D W := by
  cases o with
  | none => exact p.elim
  | some v => exact ⟨v, rfl, p⟩
theorem cnd_pos {b : Bool} {x y : Unit → RS} {P P' : Prop} (p : PoS N k (cnd b x y) D W) (h1 : PoS N k (x ()) D W → P) (h2 : PoS N k (y ()) D W → P') : if b = true then P else P' := by
  cases b with
  | true => rw [if_pos rfl]; exact h1 p
  | false => rw [if_neg (by decide)]; exact h2 p
end
section
variable {N : Nm} {S : Stat} {E : ES} (O : EsOk N S E) {k kb : Kc} {h : EH} {X : XK} {Q : VK} {D : Ends} {W : WX}
include O
theorem setFE_ok (s : Sim N k h) {f : Str} {x y : EV} {w u : V} {B : Hp → Prop} (rx : Rl N k x w) (ry : Rl N k y u) (p : Po N Same k (setFE E f x y h) (fun _ H => B H) X) : setFV S f w u k.H B := by
  unfold setFE at p
  cases rx with
  | ref ha =>
    simp only at p
    split at p
    · rename_i c fs e
      obtain ⟨c1, p⟩ := p.chk
      simp only [Bool.and_eq_true, decide_eq_true_eq] at c1
      obtain ⟨C, dx, vs, g1, g2, g3⟩ := ins_at s e
      unfold setFV
      simp only [g1]
      refine ⟨O.fl c f C c1.1 g2, ?_, ?_⟩
      · rw [← kv_len g3]
        exact c1.2
      have l := LeK.put (u := .ins C dx (putF f u vs)) s ha (some_ne g1)
      exact p.put s ha (some_ne g1) (u := .ins C dx (putF f u vs)) ⟨C, dx, _, upd_same, g2, putF_ok (g3.mono l s) f (ry.mono l s)⟩ (w := ()) rfl
    · exact p.elim
  | _ => exact p.elim
theorem isaE_ok {c : Str} {C : Addr} (hc : N.cl c = some C) : ∀ {cs : List Str} {b : Bool}, isaE E c cs = some b → isaAny S C cs = some b
  | [], _, e => e
  | d :: r, b, e => by
    unfold isaE at e
    split at e
    · rename_i b1 b2 h1 h2
      cases e
      unfold isaAny
      rw [O.isa c d b1 C h1 hc, isaE_ok hc h2]
    · cases e
omit O in
theorem augE_ok (s : Sim N k h) {o : Operator} {x y : EV} {w u : V} (rx : Rl N k x w) (ry : Rl N k y u) (p : Po N (Rl N) k (augE o x y h) Q X) : augV o w u k.H Q := by
  unfold augE at p
  split at p
  · cases rx
    cases ry
    exact p.ok s (.int _)
  · cases rx
    cases ry
    exact p.ok s (.int _)
  · exact p.elim
theorem loE_ok {kp : List (Nat × EO)} {t : Tg} {body : ESt → EH → RS} {tb : TS} {cur : Hp → List Itm → Prop} {all : List EV}
    (Bd : ∀ σ τ k h (D : Ends), Sim N k h → Rst N k σ τ → PoS N k (body σ h) D W → tb D τ k.H)
    (src : ∀ k' h', LeR N kb k' → Sim N k' h' → keepsE kp h' = true → ∃ its, cur k'.H its ∧ Paired (ItR N k') all its) :
    ∀ (xs : List EV) (i : Nat) {σ : ESt} {τ : St} {h : EH} {k : Kc}, all.drop i = xs → LeR N kb k → Sim N k h → Rst N k σ τ → PoS N k (loE kp t body xs σ h) D W → lpS N.so cur all.length (gT N.so t) tb D xs.length τ k.H
  | [], i, σ, τ, h, k, e, lb, s, rs, p => by
    unfold loE at p
    obtain ⟨c, p⟩ := p.chk
    obtain ⟨its, g1, g2⟩ := src k h lb s c
    exact ⟨⟨its, g1, paired_len g2⟩, p.nx s rs⟩
  | x :: r, i, σ, τ, h, k, e, lb, s, rs, p => by
    unfold loE at p
    obtain ⟨c, p⟩ := p.chk
    obtain ⟨its, g1, g2⟩ := src k h lb s c
    obtain ⟨d1, d2, d3⟩ := drop_at e
    obtain ⟨it, g3, g4⟩ := its_get g2 d1
    split at p
    · rename_i σ' hg
      show lpS N.so cur all.length (gT N.so t) tb D (r.length + 1) τ k.H
      unfold lpS
      refine ⟨its, it, g1, paired_len g2, ?_, ?_⟩
      · rw [d3]
        exact g3
      refine ylK_ok s g4 fun k1 w l1 s1 r1 => ?_
      have ga := gE_ok O s1 (B := fun σ2 H2 => tb { D with nx := lpS N.so cur all.length (gT N.so t) tb D r.length, ct := lpS N.so cur all.length (gT N.so t) tb D r.length, bk := D.nx } σ2 H2) r1 (rs.mono l1 s) hg ?_
      · rw [O.so] at ga
        exact ga
      · intro τ' rs'
        refine Bd σ' τ' k1 h _ s1 rs' ?_
        refine PoS.bind (PoS.le l1 p) rfl fun σ2 h2 k2 τ2 l2 s2 rs2 p2 => ?_
        exact loE_ok Bd src r (i + 1) d2 ((lb.trans (l1.r s)).trans (l2.r s1)) s2 rs2 p2
    · exact p.elim
omit O in
theorem lrE_ok {i : Nat} {body : ESt → EH → RS} {tb : TS}
    (Bd : ∀ σ τ k h (D : Ends), Sim N k h → Rst N k σ τ → PoS N k (body σ h) D W → tb D τ k.H) :
    ∀ (m : Nat) (l : Int) {σ : ESt} {τ : St} {h : EH} {k : Kc}, Sim N k h → Rst N k σ τ → PoS N k (loE [] (.nm i) body ((List.range m).map fun j => .int (l + (j : Nat))) σ h) D W → lpR (gName i) tb D m l τ k.H
  | 0, l, σ, τ, h, k, s, rs, p => PoS.nx (show PoS N k (.nx σ h) D W from p) s rs
  | m + 1, l, σ, τ, h, k, s, rs, p => by
    have e : ((List.range (m + 1)).map fun j => EV.int (l + (j : Nat))) = .int l :: (List.range m).map fun j => EV.int (l + 1 + (j : Nat)) := by
      rw [List.range_succ_eq_map, List.map_cons, List.map_map]
      congr 1
      · simp
      · apply List.map_congr_left
        intro j _
        simp only [Function.comp, Nat.succ_eq_add_one, EV.int.injEq]
        omega
    rw [e] at p
    unfold loE at p
    have p : PoS N k ((body (σ.set i (some (.int l))) h).bind fun σ2 h2 => loE [] (.nm i) body ((List.range m).map fun j => .int (l + 1 + (j : Nat))) σ2 h2) D W := p
    show tb _ _ _
    refine Bd (σ.set i (some (.int l))) _ k h _ s (rs.set (.int l)) ?_
    refine PoS.bind p rfl fun σ2 h2 k2 τ2 l2 s2 rs2 p2 => ?_
    exact lrE_ok Bd m (l + 1) s2 rs2 p2
omit O in
theorem whE_ok {te : ESt → EH → R Bool} {tt : TT} {body : ESt → EH → RS} {tb : TS}
    (Te : ∀ σ τ k h (B : Bool → Hp → Prop), Sim N k h → Rst N k σ τ → Po N Same k (te σ h) B (fun c d H => W c d τ H) → tt τ k.H B)
    (Bd : ∀ σ τ k h (D : Ends), Sim N k h → Rst N k σ τ → PoS N k (body σ h) D W → tb D τ k.H) :
    ∀ (m : Nat) {σ : ESt} {τ : St} {h : EH} {k : Kc}, Sim N k h → Rst N k σ τ → PoS N k (whE te body m σ h) D W → lpW tt tb D m τ k.H
  | 0, σ, τ, h, k, s, rs, p => p.elim
  | m + 1, σ, τ, h, k, s, rs, p => by
    unfold whE at p
    unfold lpW
    refine Te σ τ k h _ s rs (PoS.st p s rs fun b h1 k1 b' _ l1 s1 r1 p1 => ?_)
    have r1 : b = b' := r1
    subst r1
    refine cnd_pos p1 (fun p1 => ?_) (fun p1 => p1.nx s1 (rs.mono l1 s))
    refine Bd σ τ k1 h1 _ s1 (rs.mono l1 s) (PoS.bind p1 rfl fun σ2 h2 k2 τ2 l2 s2 rs2 p2 => ?_)
    exact whE_ok Te Bd m s2 rs2 p2
theorem tryE_ok {r : RS} {cs : List Str} {i j : Nat} (p : PoS N k (tryE E r cs i j) D W) : PoS N k r D (trW S cs i j D) := by
  cases r with
  | nx σ h => exact p
  | rt v h => exact p
  | bad => exact p
  | ex c d σ h1 =>
    unfold tryE at p
    simp only at p
    split at p
    · rename_i hi
      intro k1 C dd τ l1 s1 hc hd rs
      refine ⟨C, rfl, isaE_ok O hc hi, fun a ha sa => ?_⟩
      rw [O.so] at sa
      have l2 : LeK N k1 (k1.lay a (exV a C dd)) := LeK.lay ha sa
      have s2 := s1.lay (u := exV a C dd) ha sa
      refine p (k1.lay a (exV a C dd)) _ (l1.trans l2) s2 (((rs.mono l2 s1).set ?_).setN)
      cases d with
      | none =>
        cases dd with
        | none => exact .exc0 ⟨none, upd_same, rfl⟩ hc
        | some _ => exact hd.elim
      | some fv =>
        obtain ⟨f, v⟩ := fv
        cases dd with
        | none => exact hd.elim
        | some d =>
          obtain ⟨w, g1, g2⟩ := hd
          refine .exc ⟨some d, upd_same, ?_⟩ hc (g2.mono l2 s1)
          exact l2.fr d _ g1 (s1.notX g1 (.inr ⟨_, rfl⟩))
    · exact p.elim
theorem raiE_ok (s : Sim N k h) {c : Str} {xs : List EV} {ws : List V} {σ : ESt} {τ : St} (rs : Rst N k σ τ) (r : Rls N k xs ws) (p : PoS N k (raiE E c xs σ h) D W) : raiV S c ws k.H fun c d H' => W c d τ H' := by
  unfold raiE at p
  split at p
  · rename_i g v e
    obtain ⟨C, h1, h2⟩ := O.xc _ _ e
    cases r with
    | cons a b =>
      cases b
      unfold raiV
      simp only [h2]
      rename_i w
      intro d hd sd
      rw [O.so] at sd
      have l1 := LeK.lay (N := N) (u := .xd [(g, w)]) hd sd
      exact p (k.lay d (.xd [(g, w)])) C (some d) τ l1 (s.lay hd sd) h1 ⟨w, upd_same, a.mono l1 s⟩ (rs.mono l1 s)
  · exact p.elim
end
section
variable {N : Nm} {S : Stat} {E : ES} (O : EsOk N S E) {F : Str → List EV → EH → R EV} {G : Sm} (hF : FOk N F G)
include O hF
theorem lvE_ok (t : Lv) {v : EV} {w : V} {σ : ESt} {τ : St} {h : EH} {k : Kc} {D : Ends} {W : WX} (s : Sim N k h) (rs : Rst N k σ τ) (rv : Rl N k v w) (p : PoS N k (lvE E F t v σ h) D W) : wLv S G W t w τ k.H D.nx := by
  cases t with
  | nm i => exact PoS.nx (show PoS N k (.nx (σ.set i (some v)) h) D W from p) s (rs.set rv)
  | sub o i =>
    unfold lvE at p
    unfold wLv
    refine evE_ok O hF o s rs (PoS.st p s rs fun y h1 k1 u _ l1 s1 r1 p1 => ?_)
    refine evE_ok O hF i s1 (rs.mono l1 s) (PoS.st p1 s1 (rs.mono l1 s) fun z h2 k2 u2 _ l2 s2 r2 p2 => ?_)
    refine setE_ok s2 (r1.mono l2 s1) r2 ((rv.mono l1 s).mono l2 s1) (PoS.st p2 s2 ((rs.mono l1 s).mono l2 s1) fun _ h3 k3 _ _ l3 s3 _ p3 => ?_)
    exact p3.nx s3 (((rs.mono l1 s).mono l2 s1).mono l3 s2)
  | fld o f =>
    unfold lvE at p
    unfold wLv gFld
    refine evE_ok O hF o s rs (PoS.st p s rs fun y h1 k1 u _ l1 s1 r1 p1 => ?_)
    have g := setFE_ok O s1 (f := f) r1 (rv.mono l1 s) (B := fun H => D.nx τ H) (PoS.st p1 s1 (rs.mono l1 s) fun _ h3 k3 _ _ l3 s3 _ p3 => p3.nx s3 ((rs.mono l1 s).mono l3 s1))
    exact g
theorem lvsE_ok : ∀ (ts : List Lv) {vs : List EV} {ws : List V} {σ : ESt} {τ : St} {h : EH} {k : Kc} {D : Ends} {W : WX}, Sim N k h → Rst N k σ τ → Rls N k vs ws → PoS N k (lvsE E F ts vs σ h) D W → wLvs S G W ts ws τ k.H D.nx
  | [], _, _, σ, τ, h, k, D, W, s, rs, .nil, p => ⟨rfl, PoS.nx p s rs⟩
  | [], _, _, σ, τ, h, k, D, W, s, rs, .cons _ _, p => p.elim
  | _ :: _, _, _, σ, τ, h, k, D, W, s, rs, .nil, p => p.elim
  | t :: ts, _, _, σ, τ, h, k, D, W, s, rs, .cons (w := w) (ws := ws) a b, p => by
    refine ⟨w, ws, rfl, ?_⟩
    unfold lvsE at p
    refine lvE_ok O hF t (D := { D with nx := fun σ' H' => wLvs S G W ts ws σ' H' D.nx }) s rs a (PoS.bind p rfl fun σ2 h2 k2 τ2 l2 s2 rs2 p2 => ?_)
    exact lvsE_ok ts s2 rs2 (b.mono l2 s) p2
mutual
theorem evS_ok : ∀ (e : Sx) {σ : ESt} {τ : St} {h : EH} {k : Kc} {D : Ends} {W : WX}, Sim N k h → Rst N k σ τ → PoS N k (evS E F e σ h) D W → wS S G W e D τ k.H
  | .asg i e, σ, τ, h, k, D, W, s, rs, p => by
    unfold evS at p
    unfold wS
    exact evE_ok O hF e s rs (PoS.st p s rs fun x h1 k1 u _ l1 s1 r1 p1 => p1.nx s1 ((rs.mono l1 s).set r1))
  | .setI o i e, σ, τ, h, k, D, W, s, rs, p => by
    unfold evS at p
    unfold wS
    refine evE_ok O hF e s rs (PoS.st p s rs fun x h1 k1 u _ l1 s1 r1 p1 => ?_)
    refine evE_ok O hF o s1 (rs.mono l1 s) (PoS.st p1 s1 (rs.mono l1 s) fun y h2 k2 u2 _ l2 s2 r2 p2 => ?_)
    have rs2 := (rs.mono l1 s).mono l2 s1
    refine evE_ok O hF i s2 rs2 (PoS.st p2 s2 rs2 fun z h3 k3 u3 _ l3 s3 r3 p3 => ?_)
    have rs3 := rs2.mono l3 s2
    refine setE_ok s3 (r2.mono l3 s2) r3 ((r1.mono l2 s1).mono l3 s2) (PoS.st p3 s3 rs3 fun _ h4 k4 _ _ l4 s4 _ p4 => ?_)
    exact p4.nx s4 (rs3.mono l4 s3)
  | .setF o f e, σ, τ, h, k, D, W, s, rs, p => by
    unfold evS at p
    unfold wS
    refine evE_ok O hF e s rs (PoS.st p s rs fun x h1 k1 u _ l1 s1 r1 p1 => ?_)
    refine evE_ok O hF o s1 (rs.mono l1 s) (PoS.st p1 s1 (rs.mono l1 s) fun y h2 k2 u2 _ l2 s2 r2 p2 => ?_)
    have rs2 := (rs.mono l1 s).mono l2 s1
    refine setFE_ok O s2 r2 (r1.mono l2 s1) (PoS.st p2 s2 rs2 fun _ h4 k4 _ _ l4 s4 _ p4 => ?_)
    exact p4.nx s4 (rs2.mono l4 s2)
  | .par is es, σ, τ, h, k, D, W, s, rs, p => by
    unfold evS at p
    unfold wS
    refine evA_ok O hF es s rs (PoS.st p s rs fun x h1 k1 u _ l1 s1 r1 p1 => ?_)
    obtain ⟨σ', e1, p1⟩ := p1.opt
    obtain ⟨τ', g1, g2⟩ := setL_ok r1 (rs.mono l1 s) e1
    unfold parK
    rw [g1]
    exact p1.nx s1 g2
  | .exp e, σ, τ, h, k, D, W, s, rs, p => by
    unfold evS at p
    unfold wS
    exact evE_ok O hF e s rs (PoS.st p s rs fun x h1 k1 u _ l1 s1 r1 p1 => p1.nx s1 (rs.mono l1 s))
  | .ret e, σ, τ, h, k, D, W, s, rs, p => by
    unfold evS at p
    unfold wS
    exact evE_ok O hF e s rs (PoS.st p s rs fun x h1 k1 u _ l1 s1 r1 p1 => p1 k1 u LeK.refl s1 r1)
  | .retN, σ, τ, h, k, D, W, s, rs, p => by
    unfold evS at p
    unfold wS
    exact p k .non LeK.refl s .non
  | .ifs t a b, σ, τ, h, k, D, W, s, rs, p => by
    unfold evS at p
    unfold wS
    refine evT_ok O hF t s rs (PoS.st p s rs fun x h1 k1 u _ l1 s1 r1 p1 => ?_)
    have r1 : x = u := r1
    subst r1
    exact cnd_pos p1 (fun p1 => evSs_ok a s1 (rs.mono l1 s) p1) (fun p1 => evSs_ok b s1 (rs.mono l1 s) p1)
  | .rng i lo hi b, σ, τ, h, k, D, W, s, rs, p => by
    unfold evS at p
    unfold wS
    refine evE_ok O hF lo s rs (PoS.st p s rs fun x h1 k1 u _ l1 s1 r1 p1 => ?_)
    have rs1 := rs.mono l1 s
    refine evE_ok O hF hi s1 rs1 (PoS.st p1 s1 rs1 fun y h2 k2 u2 _ l2 s2 r2 p2 => ?_)
    have rs2 := rs1.mono l2 s1
    cases r1 with
    | int l =>
      cases r2 with
      | int u => exact lrE_ok (fun σ τ k h D a c d => evSs_ok b a c d) _ l s2 rs2 p2
      | _ => exact p2.elim
    | _ => exact p2.elim
  | .forL t e b, σ, τ, h, k, D, W, s, rs, p => by
    unfold evS at p
    unfold wS
    refine evE_ok O hF e s rs (PoS.st p s rs fun x h1 k1 u _ l1 s1 r1 p1 => ?_)
    have rs1 := rs.mono l1 s
    rw [O.so]
    refine walkQ_ok s1 (X := fun c d H => W c d τ H) (B := fun q H => lpS N.so (fun H' its => ∃ ys, q.2 H' ys ∧ its = ys.map Itm.v) q.1.length (gT N.so t) (wSs S G W b) D q.1.length τ H) r1 ?_
    refine PoS.st p1 s1 rs1 fun q h2 k2 w2 _ l2 s2 r2 p2 => ?_
    rw [← r2.len]
    refine loE_ok O (kb := k2) (fun σ τ k h D a c d => evSs_ok b a c d) (fun k' h' a b c => ?_) q.1 0 rfl LeR.refl s2 (rs1.mono l2 s1) p2
    obtain ⟨vs, g1, g2⟩ := r2.cur k' h' a b c
    exact ⟨_, ⟨vs, g1, rfl⟩, its_v g2⟩
  | .forS t sr b, σ, τ, h, k, D, W, s, rs, p => by
    unfold evS at p
    unfold wS
    refine evI_ok O hF sr s rs (PoS.st p s rs fun q h1 k1 w _ l1 s1 r1 p1 => ?_)
    rw [O.so, ← r1.1]
    exact loE_ok O (kb := k1) (fun σ τ k h D a c d => evSs_ok b a c d) r1.2 q.1 0 rfl LeR.refl s1 (rs.mono l1 s) p1
  | .whl t b, σ, τ, h, k, D, W, s, rs, p => by
    unfold evS at p
    unfold wS
    exact ⟨fuE, whE_ok (fun σ τ k h B a c d => evT_ok O hF t a c d) (fun σ τ k h D a c d => evSs_ok b a c d) fuE s rs p⟩
  | .pass, σ, τ, h, k, D, W, s, rs, p => by
    unfold evS at p
    unfold wS
    exact p.nx s rs
  | .never, σ, τ, h, k, D, W, s, rs, p => by
    unfold evS at p
    exact p.elim
  | .rai c es, σ, τ, h, k, D, W, s, rs, p => by
    unfold evS at p
    unfold wS
    refine evA_ok O hF es s rs (PoS.st p s rs fun x h1 k1 u _ l1 s1 r1 p1 => ?_)
    exact raiE_ok O s1 (rs.mono l1 s) r1 p1
  | .trx b cs i j, σ, τ, h, k, D, W, s, rs, p => by
    unfold evS at p
    unfold wS
    exact evSs_ok b s rs (tryE_ok O p)
  | .unp is e, σ, τ, h, k, D, W, s, rs, p => by
    unfold evS at p
    unfold wS
    refine evE_ok O hF e s rs (PoS.st p s rs fun x h1 k1 u _ l1 s1 r1 p1 => ?_)
    obtain ⟨σ', e1, p1⟩ := p1.opt
    exact gE_ok O s1 r1 (rs.mono l1 s) e1 fun τ' rs' => p1.nx s1 rs'
  | .aug i o e, σ, τ, h, k, D, W, s, rs, p => by
    unfold evS varE at p
    unfold wS varK
    split at p
    · rename_i v e1
      obtain ⟨w, g1, g2⟩ := rs.get e1
      rw [g1]
      have p : PoS N k ((evE E F e σ h).st σ fun x h2 => (augE o v x h2).st σ fun y h3 => .nx (σ.set i (some y)) h3) D W := p
      refine evE_ok O hF e s rs (PoS.st p s rs fun x h1 k1 u _ l1 s1 r1 p1 => ?_)
      refine augE_ok s1 (g2.mono l1 s) r1 (PoS.st p1 s1 (rs.mono l1 s) fun y h2 k2 u2 _ l2 s2 r2 p2 => ?_)
      exact p2.nx s2 (((rs.mono l1 s).mono l2 s1).set r2)
    · exact p.elim
  | .augF o f op e, σ, τ, h, k, D, W, s, rs, p => by
    unfold evS at p
    unfold wS
    refine evE_ok O hF o s rs (PoS.st p s rs fun x h1 k1 u _ l1 s1 r1 p1 => ?_)
    have rs1 := rs.mono l1 s
    cases r1 with
    | @ref a ha =>
      unfold augFE fldE at p1
      simp only at p1
      cases he : h1[a]? with
      | none => rw [he] at p1; exact p1.elim
      | some ob =>
        rw [he] at p1
        cases ob with
        | ins c fs =>
          obtain ⟨C, dx, vs, g1, g2, g3⟩ := ins_at s1 he
          simp only at p1
          cases hc : E.fl c f with
          | false => rw [hc] at p1; exact p1.elim
          | true =>
            rw [hc] at p1
            rw [lookK_eq] at p1
            cases hv : fs.lookup f with
            | none => rw [hv] at p1; exact p1.elim
            | some v =>
              rw [hv] at p1
              obtain ⟨w, g4, g5⟩ := look_some g3 hv
              unfold augFK
              simp only [g1, g4]
              refine ⟨O.fl c f C hc g2, ?_⟩
              have p1 : PoS N k1 ((evE E F e σ h1).st σ fun y h3 => (augE op v y h3).st σ fun z h4 => chkS (sameC (.ref a) h1 h4) fun _ => (setFE E f (.ref a) z h4).st σ fun _ h5 => .nx σ h5) D W := p1
              refine evE_ok O hF e s1 rs1 (PoS.st p1 s1 rs1 fun y h2 k2 u2 _ l2 s2 r2 p2 => ?_)
              have rs2 := rs1.mono l2 s1
              refine augE_ok s2 (g5.mono l2 s1) r2 (PoS.st p2 s2 rs2 fun z h3 k3 u3 _ l3 s3 r3 p3 => ?_)
              have rs3 := rs2.mono l3 s2
              obtain ⟨c1, p3⟩ := p3.chk
              unfold sameC at c1
              simp only [he] at c1
              have ha3 : a < k3.n := Nat.lt_of_lt_of_le ha (Nat.le_trans l2.nle l3.nle)
              have ea : k3.ρ a = k1.ρ a := (l3.ag a (Nat.lt_of_lt_of_le ha l2.nle)).trans (l2.ag a ha)
              have q := setFE_ok O s3 (f := f) (.ref ha3) r3 (B := fun H => D.nx τ H) (PoS.st p3 s3 rs3 fun _ h5 k5 _ _ l5 s5 _ p5 => p5.nx s5 (rs3.mono l5 s3))
              cases he3 : h3[a]? with
              | none => simp [he3] at c1
              | some ob3 =>
                simp only [he3] at c1
                cases ob3 with
                | ins c3 fs3 =>
                  have c1 : (c == c3) = true := c1
                  have c1 : c = c3 := by simpa using c1
                  subst c1
                  obtain ⟨C3, dx3, vs3, i1, i2, i3⟩ := ins_at s3 he3
                  rw [g2] at i2
                  cases i2
                  unfold setFV at q
                  simp only [i1] at q
                  unfold augFS
                  rw [ea] at i1 q
                  rw [i1]
                  exact ⟨rfl, q.2.1, q.2.2⟩
                | _ => cases c1
        | _ => exact p1.elim
    | _ => exact p1.elim
  | .augI o i op e, σ, τ, h, k, D, W, s, rs, p => by
    unfold evS at p
    unfold wS
    refine evE_ok O hF o s rs (PoS.st p s rs fun x h1 k1 u _ l1 s1 r1 p1 => ?_)
    have rs1 := rs.mono l1 s
    refine evE_ok O hF i s1 rs1 (PoS.st p1 s1 rs1 fun y h2 k2 u2 _ l2 s2 r2 p2 => ?_)
    have rs2 := rs1.mono l2 s1
    have r1' := r1.mono l2 s1
    cases r1' with
    | @ref a ha =>
      cases r2 with
      | int j =>
        unfold augIE at p2
        simp only at p2
        cases he : h2[a]? with
        | none => rw [he] at p2; exact p2.elim
        | some ob =>
          rw [he] at p2
          cases ob with
          | lst xs =>
            obtain ⟨vs, g1, g2⟩ := lst_at s2 he
            simp only at p2
            by_cases hj : 0 ≤ j
            · rw [decide_eq_true hj] at p2
              cases hv : xs[j.toNat]? with
              | none => rw [hv] at p2; exact p2.elim
              | some v =>
                rw [hv] at p2
                obtain ⟨w, g4, g5⟩ := g2.get hv
                unfold augIK
                simp only [g1, g4]
                refine ⟨hj, ?_⟩
                have p2 : PoS N k2 ((evE E F e σ h2).st σ fun u h4 => (augE op v u h4).st σ fun z h5 => (setE (.ref a) (.int j) z h5).st σ fun _ h6 => .nx σ h6) D W := p2
                refine evE_ok O hF e s2 rs2 (PoS.st p2 s2 rs2 fun y h3 k3 u3 _ l3 s3 r3 p3 => ?_)
                have rs3 := rs2.mono l3 s2
                refine augE_ok s3 (g5.mono l3 s2) r3 (PoS.st p3 s3 rs3 fun z h4 k4 u4 _ l4 s4 r4 p4 => ?_)
                have rs4 := rs3.mono l4 s3
                exact setE_ok s4 (((Rl.ref ha).mono l3 s2).mono l4 s3) (.int j) r4 (PoS.st p4 s4 rs4 fun _ h5 k5 _ _ l5 s5 _ p5 => p5.nx s5 (rs4.mono l5 s4))
            · rw [decide_eq_false hj] at p2
              exact p2.elim
          | _ => exact p2.elim
      | _ => exact p2.elim
    | _ => exact p2.elim
  | .asgT ts e, σ, τ, h, k, D, W, s, rs, p => by
    unfold evS at p
    unfold wS
    refine evE_ok O hF e s rs (PoS.st p s rs fun x h1 k1 u _ l1 s1 r1 p1 => ?_)
    split at p1
    · rename_i xs hx
      obtain ⟨c, p1⟩ := p1.chk
      obtain ⟨q, vs, rfl, g2, g3⟩ := seqE_ok s1 r1 hx
      have c : xs.length = ts.length := of_decide_eq_true c
      rw [O.so]
      unfold itmK
      rcases g2 with g2 | g2
      · simp only [g2]
        exact ⟨g3.length.symm.trans c, lvsE_ok O hF ts s1 (rs.mono l1 s) g3 p1⟩
      · simp only [g2]
        exact ⟨g3.length.symm.trans c, lvsE_ok O hF ts s1 (rs.mono l1 s) g3 p1⟩
    · exact p1.elim
  | .unpS is r e, σ, τ, h, k, D, W, s, rs, p => by
    unfold evS at p
    unfold wS
    refine evE_ok O hF e s rs (PoS.st p s rs fun x h1 k1 u _ l1 s1 r1 p1 => ?_)
    split at p1
    · rename_i xs hx
      obtain ⟨c, p1⟩ := p1.chk
      simp only [Bool.and_eq_true, decide_eq_true_eq] at c
      obtain ⟨q, vs, rfl, g2, g3⟩ := seqE_ok s1 r1 hx
      rw [O.so]
      obtain ⟨σ', e1, p1⟩ := p1.opt
      have main : ∀ a, k1.H a = none → N.so a = none → parK (setL (is ++ [r]) (vs.take is.length ++ [.ref a]) τ) fun σ2 => D.nx σ2 (upd k1.H a (.lst (vs.drop is.length))) := by
        intro a ha sa
        have ln : LeK N k1 (k1.new a (.lst (vs.drop is.length))) := LeK.new ha sa
        have sn := s1.new (u := .lst (vs.drop is.length)) (o := .lst (xs.drop is.length)) ha sa ⟨_, upd_same, (g3.mono ln s1).drop _⟩
        have rn : Rl N (k1.new a (.lst (vs.drop is.length))) (.ref h1.length) (.ref a) := by
          rw [s1.len]
          have : Rl N (k1.new a (.lst (vs.drop is.length))) (.ref k1.n) (.ref ((k1.new a (.lst (vs.drop is.length))).ρ k1.n)) := .ref (Nat.lt_succ_self _)
          rw [new_at] at this
          exact this
        obtain ⟨τ', t1, t2⟩ := setL_ok (((g3.mono ln s1).take _).app (.cons rn .nil)) ((rs.mono l1 s).mono ln s1) e1
        unfold parK
        rw [t1]
        exact (PoS.le ln p1).nx sn t2
      unfold gStar
      rcases g2 with g2 | g2
      · simp only [g2]
        exact ⟨by rw [← g3.length]; exact c.1, by rw [← g3.length]; exact c.2, main⟩
      · simp only [g2]
        exact ⟨by rw [← g3.length]; exact c.1, by rw [← g3.length]; exact c.2, main⟩
    · exact p1.elim
theorem evSs_ok : ∀ (e : Sxs) {σ : ESt} {τ : St} {h : EH} {k : Kc} {D : Ends} {W : WX}, Sim N k h → Rst N k σ τ → PoS N k (evSs E F e σ h) D W → wSs S G W e D τ k.H
  | .nil, σ, τ, h, k, D, W, s, rs, p => by
    unfold evSs at p
    unfold wSs
    exact p.nx s rs
  | .cons e r, σ, τ, h, k, D, W, s, rs, p => by
    unfold evSs at p
    unfold wSs
    exact evS_ok e s rs (PoS.bind p rfl fun σ2 h2 k2 τ2 l2 s2 rs2 p2 => evSs_ok r s2 rs2 p2)
end
end
section
variable {N : Nm} {S : Stat} {E : ES} (O : EsOk N S E)
include O
omit O in
theorem start_ok {k : Kc} {vs : List EV} {ws : List V} (r : Rls N k vs ws) (L : List Str) : Rst N k (startE L vs) (L2.start L ws) := by
  unfold startE L2.start
  rw [r.length]
  generalize L.length - ws.length = m
  induction vs generalizing ws with
  | nil =>
    cases r
    induction m with
    | zero => exact .nil
    | succ m ih => exact .cons trivial ih
  | cons v vs ih =>
    cases r with
    | cons a b => exact .cons a (ih b)
/-- what a def answers on heaps of its own, it promises -/
theorem evF_ok (T : Str → Option FnI) : ∀ n, FOk N (evF E T n) (sem S T n)
  | 0 => fun f vs ws h k Q X s r p => p.elim
  | n + 1 => fun f vs ws h k Q X s r p => by
    unfold evF at p
    unfold sem
    simp only
    split at p
    · rename_i fi hf
      obtain ⟨c, p⟩ := p.chk
      simp only [fcS_eq, fcH_eq] at p
      try simp only [hf]
      refine ⟨r.length.symm.trans (of_decide_eq_true c), ?_⟩
      refine evSs_ok O (evF_ok T n) fi.body s (start_ok r fi.N) ?_
      cases hr : evSs E (evF E T n) fi.body (startE fi.N vs) h with
      | nx σ h1 => rw [hr] at p; exact fun k1 w a b c => p k1 .non a b .non
      | rt v h1 => rw [hr] at p; exact p
      | ex c d σ h1 => rw [hr] at p; exact fun k1 C dd τ a b c d e => p k1 C dd a b c d
      | bad => rw [hr] at p; exact p.elim
    · exact p.elim
end
end QL
set_option Elab.async false
set_option linter.all false
set_option maxRecDepth 100000
set_option maxHeartbeats 4000000
/-! E10: a part of a run that is looked at from a smaller heap of its own. -/
namespace QL
open PySem PySem.Spec
open L2 hiding wE wT
open PyProof.Rows hiding St
section
variable {N : Nm} {k k' : Kc} {h h' : EH}
/-- nothing told -/
def Kc.cut0 (k : Kc) : Kc := ⟨0, k.ρ, k.H⟩
/-- one object told -/
def Kc.cut1 (k : Kc) (a : Nat) : Kc := ⟨1, fun _ => k.ρ a, k.H⟩
/-- the old view, the new heap -/
def Kc.back (k k' : Kc) : Kc := ⟨k.n, k.ρ, k'.H⟩
theorem Sim.cut0 (s : Sim N k h) : Sim N k.cut0 [] where
  len := rfl
  inj := fun a b ha => absurd ha (Nat.not_lt_zero a)
  obj := fun a o e => by simp at e
  nok := s.nok
theorem Rl.flat {v : EV} {w : V} (f : flatE v = true) (r : Rl N k v w) : Rl N k' v w := by
  cases r with
  | non => exact .non
  | bl b => exact .bl b
  | int i => exact .int i
  | str x => exact .str x
  | _ => cases f
theorem Rls.flats : ∀ {v : List EV} {w : List V}, v.all flatE = true → Rls N k v w → Rls N k' v w
  | _, _, _, .nil => .nil
  | _, _, f, .cons a b => by
    rw [List.all_cons, Bool.and_eq_true] at f
    exact .cons (a.flat f.1) (b.flats f.2)
theorem Sim.cut1 (s : Sim N k h) {a : Nat} {xs : List EV} (e : h[a]? = some (.lst xs)) (f : xs.all flatE = true) : Sim N (k.cut1 a) [.lst xs] where
  len := rfl
  inj := fun a b ha hb _ => by
    have ha : a < 1 := ha
    have hb : b < 1 := hb
    omega
  obj := fun b o e2 => by
    cases b with
    | zero =>
      cases e2
      obtain ⟨vs, h1, h2⟩ := lst_at s e
      exact ⟨vs, h1, h2.flats f⟩
    | succ b => simp at e2
  nok := s.nok
theorem back_le {k0 : Kc} (hH : k0.H = k.H) (hi : ∀ i, i < k0.n → ∃ a, a < k.n ∧ k.ρ a = k0.ρ i) (l : LeK N k0 k') : LeK N k (k.back k') where
  nle := Nat.le_refl _
  ag := fun _ _ => rfl
  fr := fun b o e q => l.fr b o (by rw [hH]; exact e) fun i h1 z => by
    obtain ⟨a, h2, h3⟩ := hi i h1
    exact q a h2 (h3.trans z)
  nw := fun a h1 h2 => absurd h2 (Nat.not_lt.mpr h1)
  ke := fun b e => by
    rw [← hH]
    exact l.ke b e
  st := fun b e hs => l.st b (by rw [hH]; exact e) hs
theorem back_sim {k0 : Kc} (s : Sim N k h) (hH : k0.H = k.H) (hi : ∀ i, i < k0.n → ∃ a, a < k.n ∧ k.ρ a = k0.ρ i) (l : LeK N k0 k')
    (ho : ∀ a o, h[a]? = some o → (∃ i, i < k0.n ∧ k0.ρ i = k.ρ a) → ObR N (k.back k') (k.ρ a) o) : Sim N (k.back k') h where
  len := s.len
  inj := s.inj
  obj := fun a o e => by
    by_cases hx : ∃ i, i < k0.n ∧ k0.ρ i = k.ρ a
    · exact ho a o e hx
    · have le := back_le hH hi l
      refine (s.obj a o e).monoR (le.r s) ?_
      show k'.H (k.ρ a) = k.H (k.ρ a)
      cases q : k.H (k.ρ a) with
      | some u => exact l.fr _ _ (by rw [hH]; exact q) fun i h1 z => hx ⟨i, h1, z⟩
      | none =>
        refine l.st _ (by rw [hH]; exact q) fun z => ?_
        have r := s.obj a o e
        cases o with
        | lst xs => obtain ⟨_, g, _⟩ := r; rw [q] at g; cases g
        | dct xs => obtain ⟨_, g, _⟩ := r; rw [q] at g; cases g
        | ins c xs => obtain ⟨_, _, _, g, _⟩ := r; rw [q] at g; cases g
        | fls xs =>
          obtain ⟨_, g, _⟩ := r
          unfold rd at g
          rw [q] at g
          have g : N.so (k.ρ a) = _ := g
          rw [z] at g
          cases g
  nok := fun b hb => l.st b (by rw [hH]; exact s.nok b hb) hb
/-- from nothing told, back -/
theorem back0 (s : Sim N k h) (l : LeK N k.cut0 k') : LeK N k (k.back k') ∧ Sim N (k.back k') h :=
  have hi : ∀ i, i < k.cut0.n → ∃ a, a < k.n ∧ k.ρ a = k.cut0.ρ i := fun i z => absurd z (Nat.not_lt_zero i)
  ⟨back_le (k0 := k.cut0) rfl hi l, back_sim (k0 := k.cut0) s rfl hi l fun a o e ⟨i, z, _⟩ => absurd z (Nat.not_lt_zero i)⟩
/-- from one list told that stays, back -/
theorem back1 (s : Sim N k h) {a : Nat} {xs : List EV} (e : h[a]? = some (.lst xs)) (f : xs.all flatE = true) (l : LeK N (k.cut1 a) k') (s' : Sim N k' h') (e' : h'[0]? = some (.lst xs)) : LeK N k (k.back k') ∧ Sim N (k.back k') h := by
  have hi : ∀ i, i < (k.cut1 a).n → ∃ b, b < k.n ∧ k.ρ b = (k.cut1 a).ρ i := fun i _ => ⟨a, s.lt e, rfl⟩
  refine ⟨back_le (k0 := k.cut1 a) rfl hi l, back_sim (k0 := k.cut1 a) s rfl hi l fun b o e2 hb => ?_⟩
  obtain ⟨i, h1, h2⟩ := hb
  have h2 : k.ρ a = k.ρ b := h2
  have : a = b := s.inj a b (s.lt e) (s.lt e2) h2
  subst this
  rw [e] at e2
  cases e2
  obtain ⟨vs, g1, g2⟩ := lst_at s' e'
  rw [l.ag 0 (Nat.lt_succ_self 0)] at g1
  exact ⟨vs, g1, g2.flats f⟩
end
end QL
set_option Elab.async false
set_option linter.all false
set_option maxRecDepth 100000
set_option maxHeartbeats 4000000
/-! H1: the head by one run: what it tells of defs, classes, exceptions. -/
namespace QL
open PySem PySem.Spec L2
open PyProof.Rows hiding St
open He (ga ma fAd)
abbrev AlQ : Type := (Bool × List He.FnW) × List (Option (List (Option (Str × Int))))
def obsQ (ex : PySem.W.Frag → Bool) (fn : List He.DefD) (ts : List He.Tab) (K : PySem.W.Frag) : AlQ := ((ex K && fn.all fun d => d.ok K, fn.map fun d => He.fnW K d.at_), ts.map fun t => He.dicW K (t.1 K))
def valQ (fn : List He.DefD) (ts : List He.Tab) (w : World) : AlQ := ((true, fn.map He.DefD.val), ts.map fun t => some (He.keysIn w.params t.2))
def SaysQ (ex : PySem.W.Frag → Bool) (fn : List He.DefD) (ts : List He.Tab) (w : World) (K : PySem.W.Frag) : Prop := obsQ ex fn ts K = valQ fn ts w
def obsQG (n : Nat) (ex : PySem.W.Frag → Bool) (fn : List He.DefD) (ts : List He.Tab) (g : Addr → Option Obj) : AlQ := obsQ ex fn ts (He.frG g (List.range n))
def hookQ (n : Nat) (ex : PySem.W.Frag → Bool) (fn : List He.DefD) (ts : List He.Tab) : PySem.W.Hook where
  α := AlQ
  obs := fun s => obsQG n ex fn ts s.heap.get?
  val := fun w => valQ fn ts w
  says := fun w h => ∃ K : PySem.W.Frag, K.In h ∧ SaysQ ex fn ts w K
  of := fun _ _ e => ⟨_, He.frG_in, e⟩
  keeps := fun _ _ _ ⟨K, hK, c⟩ k => ⟨K, PySem.W.Frag.In.keeps hK k, c⟩
theorem obsQG_eq {n : Nat} {ex : PySem.W.Frag → Bool} {fn : List He.DefD} {ts : List He.Tab} {g : Addr → Option Obj} {s : Shared} (h : ∀ a, g a = s.heap.get? a) : obsQG n ex fn ts g = (hookQ n ex fn ts).obs s := by
  have e : g = s.heap.get? := funext h
  rw [e] <;> rfl
section
variable {ex : PySem.W.Frag → Bool} {fn : List He.DefD} {ts : List He.Tab} {w : World} {K : PySem.W.Frag}
theorem SaysQ.fst (c : SaysQ ex fn ts w K) : (ex K && fn.all fun d => d.ok K) = true := congrArg (fun z : AlQ => z.1.1) c
theorem SaysQ.more (c : SaysQ ex fn ts w K) : ex K = true := (He.ba c.fst).1
theorem SaysQ.def_ (c : SaysQ ex fn ts w K) (i : Nat) {d : He.DefD} (h : fn[i]? = some d := by rfl) : ∃ fd, FunD K d.name d.qual d.params d.body d.scope (d.dvs K) (d.kws K) (fAd K d.at_) fd := by
  have e : fn.map (fun d => He.fnW K d.at_) = fn.map He.DefD.val := congrArg (fun z : AlQ => z.1.2) c
  have e2 : (fn.map fun d => He.fnW K d.at_)[i]? = (fn.map He.DefD.val)[i]? := by rw [e]
  rw [List.getElem?_map, List.getElem?_map, h] at e2
  exact He.DefD.funD (Option.some.inj e2) (List.all_eq_true.mp (He.ba c.fst).2 d (List.mem_of_getElem? h))
theorem SaysQ.tab (c : SaysQ ex fn ts w K) (i : Nat) {t : He.Tab} (h : ts[i]? = some t := by rfl) : ∃ es n, KDict K w (t.1 K) es n := by
  have e : ts.map (fun t => He.dicW K (t.1 K)) = ts.map fun t => some (He.keysIn w.params t.2) := congrArg (fun z : AlQ => z.2) c
  have e2 : (ts.map fun t => He.dicW K (t.1 K))[i]? = (ts.map fun t => some (He.keysIn w.params t.2))[i]? := by rw [e]
  rw [List.getElem?_map, List.getElem?_map, h] at e2
  exact He.dicW_ok (Option.some.inj e2)
end
/-! ### dicts with text keys behind the top -/
def entB : List DictEntry → List (Str × V) → Bool
  | [], [] => true
  | e :: r, (k, v) :: l => (match e.key with
    | .str x _ => decide (x = k) && (He.relB v e.val && entB r l)
    | _ => false)
  | _, _ => false
def dctB (K : PySem.W.Frag) (d : Addr) (l : List (Str × V)) : Bool := match K.lookup d with
  | some ⟨_, _, .dict es _, _⟩ => entB es.toList l
  | _ => false
theorem entB_ok (z : Str) : ∀ {es : List DictEntry} {l : List (Str × V)}, entB es l = true → es.any (·.refKey) = false ∧ RelO (l.lookup z) ((es.find? (·.key.isStr z)).map (·.val))
  | [], [], _ => ⟨rfl, trivial⟩
  | e :: r, (k, v) :: l, h => by
    unfold entB at h
    split at h
    · rename_i x t hk
      simp only [Bool.and_eq_true, decide_eq_true_eq] at h
      obtain ⟨rfl, h1, h2⟩ := h
      obtain ⟨g1, g2⟩ := entB_ok z h2
      refine ⟨?_, ?_⟩
      · rw [List.any_cons, g1, Bool.or_false]
        unfold DictEntry.refKey
        rw [hk]
      · rw [List.lookup_cons, List.find?_cons, hk]
        by_cases e1 : z = x
        · subst e1
          simp only [beq_self_eq_true]
          have : Value.isStr (.str z t) z = true := by simp [Value.isStr]
          rw [this]
          exact He.relB_ok h1
        · have e2 : (z == x) = false := by simpa using e1
          have : Value.isStr (.str x t) z = false := by
            simp [Value.isStr]
            exact fun q => e1 q.symm
          rw [e2, this]
          exact g2
    · cases h
  | [], _ :: _, h => by cases h
  | _ :: _, [], h => by cases h
theorem dctB_ok {K : PySem.W.Frag} {d : Addr} {l : List (Str × V)} (h : dctB K d l = true) (z : Str) : ∃ r, PySem.W.nsIn K d z = some r ∧ RelO (l.lookup z) r := by
  unfold dctB at h
  unfold PySem.W.nsIn
  split at h
  · rename_i es n sl q
    rw [q]
    obtain ⟨g1, g2⟩ := entB_ok z h
    simp only
    cases e : es.toList.find? (·.key.isStr z) with
    | none =>
      rw [e] at g2
      simp only [g1]
      exact ⟨none, rfl, g2⟩
    | some u =>
      rw [e] at g2
      exact ⟨some u.val, rfl, g2⟩
  · cases h
def relsB : List V → List Value → Bool
  | [], [] => true
  | v :: vs, u :: us => He.relB v u && relsB vs us
  | _, _ => false
theorem relsB_ok : ∀ {vs : List V} {us : List Value}, relsB vs us = true → Vals vs us
  | [], [], _ => .nil
  | v :: vs, u :: us, h => by
    obtain ⟨h1, h2⟩ := He.ba h
    exact .cons (He.relB_ok h1) (relsB_ok h2)
  | [], _ :: _, h => by cases h
  | _ :: _, [], h => by cases h
/-- a tuple behind the top -/
def tupB (K : PySem.W.Frag) (a : Addr) (xs : List V) : Bool := match K.lookup a with
  | some ⟨.type c, _, .seq its _, _⟩ => decide (c = "tuple") && (decide (its.size ≤ sizeLine) && relsB xs its.toList)
  | _ => false
theorem tupB_ok {K : PySem.W.Frag} {a : Addr} {xs : List V} (h : tupB K a xs = true) : ∃ (o : Obj) (its : Array Value) (n : Nat), K.lookup a = some o ∧ o.cls = .type "tuple" ∧ o.data = .seq its n ∧ its.size ≤ sizeLine ∧ Vals xs its.toList := by
  unfold tupB at h
  split at h
  · rename_i c d its n sl q
    simp only [Bool.and_eq_true, decide_eq_true_eq] at h
    obtain ⟨rfl, h1, h2⟩ := h
    exact ⟨_, its, n, q, rfl, rfl, h1, relsB_ok h2⟩
  · cases h
/-- a keyword's default, if it is an object -/
def kwAt (f : Str × Option Str) (x : Str) (K : PySem.W.Frag) : Addr := match K.lookup (He.fAd K f) with
  | some ⟨_, _, .func fd, _⟩ => (match fd.kwdefaults with
    | .ref T => (match PySem.W.nsIn K T x with
      | some (some (.ref a)) => a
      | _ => 0)
    | _ => 0)
  | _ => 0
/-! ### exceptions -/
def bxs : List (Str × Value) := [("ValueError", .type "ValueError"), ("IndexError", .type "IndexError"), ("KeyError", .type "KeyError"), ("LookupError", .type "LookupError"), ("OverflowError", .type "OverflowError"), ("RuntimeError", .type "RuntimeError")]
theorem bxs_ok {c : Str} {u : Value} (h : bxs.lookup c = some u) : (c == ("__debug__" : Str)) = false ∧ bootBuiltins c = some u ∧ c ≠ "__name__" ∧ ∃ T, u = .type T := by
  have key : ∀ (l : List (Str × Value)), (l.all fun e => !(e.1 == ("__debug__" : Str)) && decide (bootBuiltins e.1 = some e.2) && decide (e.1 ≠ "__name__") && (match e.2 with | .type _ => true | _ => false)) = true → l.lookup c = some u → (c == ("__debug__" : Str)) = false ∧ bootBuiltins c = some u ∧ c ≠ "__name__" ∧ ∃ T, u = .type T := by
    intro l
    induction l with
    | nil => intro _ h; cases h
    | cons e l ih =>
      intro ha hl
      rw [List.all_cons, Bool.and_eq_true] at ha
      rw [List.lookup_cons] at hl
      split at hl
      · rename_i e1
        cases hl
        have e2 : c = e.1 := by simpa using e1
        obtain ⟨h1, h2⟩ := ha
        simp only [Bool.and_eq_true, Bool.not_eq_true', decide_eq_true_eq] at h1
        obtain ⟨⟨⟨g1, g2⟩, g3⟩, g4⟩ := h1
        rw [e2]
        refine ⟨g1, g2, g3, ?_⟩
        split at g4
        · rename_i T eT
          exact ⟨T, eT⟩
        · cases g4
      · exact ih ha.2 hl
  exact key bxs (by decide +kernel) h
/-- the class that a name stands for -/
def clV (K : PySem.W.Frag) (oc : List Str) (c : Str) : Option Value := if oc.contains c then some (.ref (ga K c)) else bxs.lookup c
def isaF (K : PySem.W.Frag) (oc : List Str) (C : Addr) (c : Str) : Option Bool := match clV K oc c with
  | some u => if (xvB K C && decide (PySem.W.kitOne K (.ref C) u = PySem.W.exmOne K (.ref C) u)) = true then PySem.W.kitOne K (.ref C) u else none
  | none => none
def ocB (K : PySem.W.Frag) (C : Addr) : Bool := PySem.W.plainGet K C Str.empty && PySem.W.hasDictIn K C && PySem.W.plainOver K C && decide (PySem.W.findIn K (.ref C) "__setattr__" = some (some (.builtin "object.__setattr__"))) &&
  decide (PySem.W.findIn K (.ref C) "__class__" = some (some (.builtin "object.__class__"))) && decide (PySem.W.specialIn K (.builtin "object.__class__") "__get__" = some (some (.builtin "getset_descriptor.__get__"))) &&
  decide (PySem.W.takesIn K (.builtin "object.__class__") = some true) && decide (PySem.W.mroIn K C (.type "object") = some true)
theorem ocB_ok {K : PySem.W.Frag} {C : Addr} (h : ocB K C = true) : OcC K C := by
  unfold ocB at h
  simp only [Bool.and_eq_true, decide_eq_true_eq] at h
  obtain ⟨⟨⟨⟨⟨⟨⟨h1, h2⟩, h3⟩, h4⟩, h5⟩, h6⟩, h7⟩, h8⟩ := h
  exact ⟨⟨h1, h2, h3, h4⟩, h5, h6, h7, h8⟩
def isoF (K : PySem.W.Frag) (oc : List Str) (C : Addr) (c : Str) : Option Bool := match clV K oc c with
  | some u => if ocB K C = true then PySem.W.kitOne K (.ref C) u else none
  | none => none
def isbF (K : PySem.W.Frag) (oc : List Str) (c : Str) : Bool := match clV K oc c with
  | some u => bTs.all fun T => decide (PySem.W.kitOne K (.type T) u = some false)
  | none => false
section
variable {K : PySem.W.Frag} {mg : Str → Option Value} {oc : List Str} {C : Addr} {c : Str} {b : Bool}
/-- the names that a law has of classes -/
structure ClsNs (K : PySem.W.Frag) (mg : Str → Option Value) (oc : List Str) : Prop where
  own : ∀ c ∈ oc, (c == ("__debug__" : Str)) = false ∧ mg c = some (.ref (ga K c))
  blt : ∀ c u, bxs.lookup c = some u → mg c = none
theorem clV_ok (N : ClsNs K mg oc) {u : Value} (h : clV K oc c = some u) : ClsN mg c u := by
  unfold clV at h
  split at h
  · rename_i hc
    cases h
    obtain ⟨h1, h2⟩ := N.own c (by simpa using hc)
    exact ⟨h1, .inl ⟨⟨_, rfl⟩, h2⟩⟩
  · obtain ⟨h1, h2, h3, h4⟩ := bxs_ok h
    exact ⟨h1, .inr ⟨h4, N.blt c u h, h2, h3⟩⟩
theorem isaF_ok (N : ClsNs K mg oc) (h : isaF K oc C c = some b) : XvC K C ∧ ∀ u, ClsN mg c u → PySem.W.kitOne K (.ref C) u = some b ∧ PySem.W.exmOne K (.ref C) u = some b := by
  unfold isaF at h
  split at h
  · rename_i u e
    split at h
    · rename_i hb
      simp only [Bool.and_eq_true, decide_eq_true_eq] at hb
      refine ⟨xvB_ok hb.1, fun u' hu => ?_⟩
      have := hu.one (clV_ok N e)
      subst this
      exact ⟨h, by rw [← hb.2]; exact h⟩
    · cases h
  · cases h
theorem isoF_ok (N : ClsNs K mg oc) (h : isoF K oc C c = some b) : OcC K C ∧ ∀ u, ClsN mg c u → PySem.W.kitOne K (.ref C) u = some b := by
  unfold isoF at h
  split at h
  · rename_i u e
    split at h
    · rename_i hb
      refine ⟨ocB_ok hb, fun u' hu => ?_⟩
      have := hu.one (clV_ok N e)
      subst this
      exact h
    · cases h
  · cases h
theorem isbF_ok (N : ClsNs K mg oc) (h : isbF K oc c = true) : ∀ u, ClsN mg c u → ∀ T ∈ bTs, PySem.W.kitOne K (.type T) u = some false := by
  unfold isbF at h
  split at h
  · rename_i u e
    intro u' hu T hT
    have := hu.one (clV_ok N e)
    subst this
    exact of_decide_eq_true (List.all_eq_true.mp h T hT)
  · cases h
end
/-- what the head says of an own exception class that is made -/
def xkB (K : PySem.W.Frag) (x : Str) (b : Xb) (f : Option Str) : Bool := xcB K (ga K x) b && xvB K (ga K x) && (match f with
  | some g => decide (PySem.W.findIn K (.ref (ga K x)) g = some none)
  | none => true) && decide (PySem.W.findIn K (.ref (ga K x)) "__init__" = some (some (.ref (ma K (ga K x) "__init__")))) && decide (PySem.W.typeIn K (.ref (ma K (ga K x) "__init__")) = some (.type "function")) &&
  (match PySem.W.findCls K (.type b.nm) (.type "type") "__init__" with
  | some (.val (.builtin n)) => n == b.it
  | _ => false)
theorem xk_mk {K : PySem.W.Frag} {mg : Str → Option Value} {x qual : Str} {b : Xb} {f : Option Str} {st : Stmt} {fd : FuncData} (h : xkB K x b f = true) (g : mg x = some (.ref (ga K x))) (nm : (x == ("__debug__" : Str)) = false)
    (F : FunD K "__init__" qual (defArgs st) (defBody st) (defScope st) [] [] (ma K (ga K x) "__init__") fd) (S : FnScope (xiN f) (xiN f) (defScope st)) (hb : xiB b f (defBody st)) (hs : xiS b f (defScope st) = true)
    (hbd : ∀ (kV doc pm : Value) (an : Option Addr) (cdv ct : Value) (us : List Value), us.length = (xiN f).length → bindArgs (PySem.W.fnOf "__init__" qual (defArgs st) (defBody st) (defScope st) .none kV doc pm an cdv ct) ⟨us, []⟩ = pure ((xiN f).zip us))
    (hm : mg b.st = none) (P : Program) (w : World) (base : Heap) : Xk P w K mg base x (ga K x) f := by
  unfold xkB at h
  simp only [Bool.and_eq_true, decide_eq_true_eq] at h
  obtain ⟨⟨⟨⟨⟨h1, h2⟩, h3⟩, h4⟩, h5⟩, h6'⟩ := h
  have h6 : PySem.W.findCls K (.type b.nm) (.type "type") "__init__" = some (.val (.builtin b.it)) := by
    split at h6'
    · rename_i n e
      rw [e, beq_iff_eq.mp h6']
    · cases h6'
  obtain ⟨oc, od, dV, kV, doc, pm, an, cdv, ct, osl, rfl, lk, hcd, hD, hK⟩ := F.ex
  rcases hD with ⟨_, rfl⟩ | ⟨e, _⟩
  · refine ⟨g, nm, xvB_ok h2, fun g' hg => ?_, b, ma K (ga K x) "__init__", _, xcB_ok h1, h4, h5, xi_fng lk hcd S hb hs hm h6, ?_⟩
    · subst hg
      simpa using h3
    · exact Binds.all fun us hl => hbd kV doc pm an cdv ct us hl
  · exact absurd rfl e
/-- a def without defaults binds its values -/
theorem bind_mk {K : PySem.W.Frag} {x qual : Str} {st : Stmt} {f : Addr} {fd : FuncData} {ps : List Str} (F : FunD K x qual (defArgs st) (defBody st) (defScope st) [] [] f fd)
    (h : ∀ (kV doc pm : Value) (an : Option Addr) (cdv ct : Value) (us : List Value), us.length = ps.length → bindArgs (PySem.W.fnOf x qual (defArgs st) (defBody st) (defScope st) .none kV doc pm an cdv ct) ⟨us, []⟩ = pure (ps.zip us)) : Binds K fd ps [] := by
  obtain ⟨oc, od, dV, kV, doc, pm, an, cdv, ct, osl, rfl, lk, hcd, hD, hK⟩ := F.ex
  rcases hD with ⟨_, rfl⟩ | ⟨e, _⟩
  · exact .all fun us hl => h kV doc pm an cdv ct us hl
  · exact absurd rfl e
theorem mem_pair {α : Type} {x : Str} {u : α} : ∀ {l : List (Str × α)}, l.lookup x = some u → (x, u) ∈ l
  | [], h => by cases h
  | (y, v) :: r, h => by
    rw [List.lookup_cons] at h
    split at h
    · rename_i e
      cases h
      have : x = y := by simpa using e
      rw [this]
      exact List.mem_cons_self ..
    · exact List.mem_cons_of_mem _ (mem_pair h)
theorem mem_fst {α : Type} {x : Str} {u : α} {l : List (Str × α)} (h : l.lookup x = some u) : x ∈ l.map (·.1) := List.mem_map.mpr ⟨_, mem_pair h, rfl⟩
end QL
set_option Elab.async false
set_option linter.all false
set_option maxRecDepth 100000
set_option maxHeartbeats 4000000
/-! H2: own classes behind the top: how C(.., k = v) is bound. -/
namespace QL
open PySem PySem.Spec L2
open PyProof.Rows hiding St
/-- the keyword-only parameters, in order: given (true), or by default -/
def pick {α : Type} : List (Bool × Nat) → List α → List α → List α
  | [], _, _ => []
  | (true, i) :: r, m, w => (w.drop i).take 1 ++ pick r m w
  | (false, i) :: r, m, w => (m.drop i).take 1 ++ pick r m w
theorem pick_rel : ∀ (l : List (Bool × Nat)) {mz zs : List V} {mv ws : List Value}, Vals mz mv → Vals zs ws → Vals (pick l mz zs) (pick l mv ws)
  | [], _, _, _, _, _, _ => .nil
  | (true, i) :: r, _, _, _, _, a, b => ((b.drop i).take 1).append (pick_rel r a b)
  | (false, i) :: r, _, _, _, _, a, b => ((a.drop i).take 1).append (pick_rel r a b)
def bg (l : List (Bool × Nat)) {α : Type} (us mv ws : List α) : List α := us ++ pick l mv ws
section
variable {K : PySem.W.Frag} {x qual : Str} {params : Arguments} {body : List Stmt} {scope : Scope} {kws : List (Str × V)} {f : Addr} {fd : FuncData} {ps : List Str}
theorem bindK_kw (F : FunD K x qual params body scope [] kws f fd) (np : Nat) (ks : List Str) (ms : List (Str × V)) (l : List (Bool × Nat)) (pm : List (Nat ⊕ V)) (hk : kws ≠ []) (hms : ∀ q ∈ ms, q ∈ kws)
    (h : ∀ (D : Addr) (doc pm : Value) (an : Option Addr) (cdv ct : Value) (us mv ws : List Value), us.length = np + 1 → mv.length = ms.length → ws.length = ks.length →
      KwChain D ((ms.map (·.1)).zip mv) (bindArgs (PySem.W.fnOf x qual params body scope .none (.ref D) doc pm an cdv ct) ⟨us, ks.zip ws⟩) (ps.zip (bg l us mv ws)))
    (hpm : ∀ (vs ws : List V), vs.length = np + ks.length → pmV pm vs = some ws → bg l (vs.take np) (ms.map (·.2)) (vs.drop np) = ws) : BindK K fd ps (np + ks.length) ks pm := by
  obtain ⟨mv, hb⟩ := F.kbinds0 (ps := ps) (np + 1) ks ms (fun us mv ws => bg l us mv ws) hk hms (fun a b c => a.append (pick_rel l b c)) h
  intro vs ws us hv hl hp
  have e := hpm vs ws hl hp
  have hlu : us.length = np + ks.length := by rw [← hl]; exact hv.length.symm
  refine ⟨bg l (us.take np) mv (us.drop np), ?_, fun s a X => ?_⟩
  · have r := hb.rel (show Vals (.non :: vs.take np) (Value.none :: us.take np) from .cons rfl (hv.take np)) (hv.drop np)
    rw [← e]
    cases r with
    | cons _ r => exact r
  · rw [Nat.add_sub_cancel]
    exact hb.to s (a :: us.take np) (us.drop np) X (by rw [List.length_cons, List.length_take, hlu]; omega) (by rw [List.length_drop, hlu]; omega)
theorem bindK_pos (F : FunD K x qual params body scope [] [] f fd) (np : Nat) (hp : ps.length = np + 1)
    (h : ∀ (kV doc pm : Value) (an : Option Addr) (cdv ct : Value) (us : List Value), us.length = ps.length → bindArgs (PySem.W.fnOf x qual params body scope .none kV doc pm an cdv ct) ⟨us, []⟩ = pure (ps.zip us)) :
    BindK K fd ps np [] ((List.range np).map .inl) := by
  have hb := F.bindsN (ps := ps) h
  intro vs ws us hv hl hw
  have hlu : us.length = np := by rw [← hl]; exact hv.length.symm
  have e : ws = vs := by
    have key : ∀ (n : Nat) (vs : List V), n ≤ vs.length → pmV ((List.range n).map .inl) vs = some (vs.take n) := by
      intro n
      induction n with
      | zero => intro vs _; rfl
      | succ n ih =>
        intro vs h
        unfold pmV at ih ⊢
        have hn : vs[n]? = some vs[n] := List.getElem?_eq_getElem h
        rw [List.range_succ, List.map_append, List.mapM_append, ih vs (by omega), List.take_succ, hn]
        show (do let ys ← (do let y ← vs[n]?; pure [y]); pure (vs.take n ++ ys) : Option (List V)) = _
        rw [hn]
        rfl
    have q := key np vs (by omega)
    rw [hw] at q
    cases q
    rw [List.take_of_length_le (by omega)]
  subst e
  refine ⟨us, hv, fun s a X => ?_⟩
  have q := hb s (a :: us) X (by rw [List.append_nil, List.length_cons, hlu, hp])
  rw [List.append_nil] at q
  have t : us.take (np - ([] : List Str).length) = us := List.take_of_length_le (by simp [hlu])
  rw [t]
  exact q
end
/-! ### tables of own classes -/
def mtF (K : PySem.W.Frag) (l : List (Str × Str × Str)) (C : Addr) (m : Str) : Option Str := (l.find? fun e => decide (He.ga K e.1 = C) && e.2.1 == m).map (·.2.2)
theorem mtF_mem {K : PySem.W.Frag} {l : List (Str × Str × Str)} {C : Addr} {m g : Str} (h : mtF K l C m = some g) : ∃ x, (x, m, g) ∈ l ∧ C = He.ga K x := by
  unfold mtF at h
  obtain ⟨e, h1, rfl⟩ := map_some h
  have a := List.mem_of_find?_eq_some h1
  have b := List.find?_some h1
  simp only [Bool.and_eq_true, decide_eq_true_eq, beq_iff_eq] at b
  exact ⟨e.1, by rw [← b.2]; exact a, b.1.symm⟩
abbrev MkR : Type := Str × Nat × List Str × Str × (PySem.W.Frag → List (Nat ⊕ V))
def mkF (K : PySem.W.Frag) (l : List MkR) (x : Str) (n : Nat) (ks : List Str) : Option (Addr × Str × List (Nat ⊕ V)) := (l.find? fun e => e.1 == x && (e.2.1 == n && e.2.2.1 == ks)).map fun e => (He.ga K e.1, e.2.2.2.1, e.2.2.2.2 K)
theorem mkF_mem {K : PySem.W.Frag} {l : List MkR} {x : Str} {n : Nat} {ks : List Str} {C : Addr} {g : Str} {pm : List (Nat ⊕ V)} (h : mkF K l x n ks = some (C, g, pm)) : ∃ pm', (x, n, ks, g, pm') ∈ l ∧ C = He.ga K x ∧ pm = pm' K := by
  unfold mkF at h
  obtain ⟨e, h1, h2⟩ := map_some h
  have a := List.mem_of_find?_eq_some h1
  have b := List.find?_some h1
  simp only [Bool.and_eq_true, beq_iff_eq] at b
  obtain ⟨b1, b2, b3⟩ := b
  cases h2
  subst b1 b2 b3
  exact ⟨_, a, rfl, rfl⟩
end QL
set_option Elab.async false
set_option linter.all false
set_option maxRecDepth 100000
set_option maxHeartbeats 4000000
/-! H3: the head's tables, by names. -/
namespace QL
open PySem PySem.Spec
open L2 hiding wE wT
open PyProof.Rows hiding St
/-- classes by their names -/
def nmOfK (K : PySem.W.Frag) (oc : List Str) (so : Addr → Option HO) : Nm := ⟨so, fun c => if oc.contains c = true then some (He.ga K c) else none⟩
section
variable {K : PySem.W.Frag} {oc : List Str} {so : Addr → Option HO}
theorem nm_cl {c : Str} {C : Addr} (h : (nmOfK K oc so).cl c = some C) : C = He.ga K c := by
  unfold nmOfK at h
  simp only at h
  split at h
  · cases h; rfl
  · cases h
theorem nm_at {c : Str} (h : oc.contains c = true) : (nmOfK K oc so).cl c = some (He.ga K c) := if_pos h
theorem eqK_eq {a b : Str} (h : eqK a b = true) : a = b := by
  rw [eqK_iff] at h
  simpa using h
theorem tup_rl {N : Nm} {k : Kc} {h : EH} {p : Addr} {xs : List EV} {vs : List V} (e : N.so p = some (.tup vs)) (s : Sim N k h) (r : Rls N k xs vs) : Rl N k (.tup xs) (.ref p) := by
  refine .tup ?_ r
  unfold rd
  rw [s.nok p (by rw [e]; simp)]
  exact e
theorem fl_ok {cfl : List (Str × Str)} {c f : Str} (h : (cfl.any fun e => eqK e.1 c && eqK e.2 f) = true) : (c, f) ∈ cfl := by
  obtain ⟨e, h1, h2⟩ := List.any_eq_true.mp h
  rw [Bool.and_eq_true] at h2
  have a := eqK_eq h2.1
  have b := eqK_eq h2.2
  subst a b
  exact h1
theorem mt_ok {cmt : List (Str × Str × Str)} (hm : (cmt.all fun e => decide (mtF K cmt (He.ga K e.1) e.2.1 = some e.2.2)) = true) {c m g : Str} (h : ((cmt.find? fun e => eqK e.1 c && eqK e.2.1 m).map (·.2.2)) = some g) : mtF K cmt (He.ga K c) m = some g := by
  obtain ⟨e, h1, rfl⟩ := map_some h
  have h2 := List.find?_some h1
  rw [Bool.and_eq_true] at h2
  have a := eqK_eq h2.1
  have b := eqK_eq h2.2
  subst a b
  exact of_decide_eq_true (List.all_eq_true.mp hm e (List.mem_of_find?_eq_some h1))
theorem mk_ok {α : Type} {emk : List (Str × Nat × List Str × α)} {c : Str} {n : Nat} {ks : List Str} {r : α} (h : ((emk.find? fun e => eqK e.1 c && (e.2.1 == n && e.2.2.1 == ks)).map fun e => e.2.2.2) = some r) : (c, n, ks, r) ∈ emk := by
  obtain ⟨e, h1, rfl⟩ := map_some h
  have h2 := List.find?_some h1
  simp only [Bool.and_eq_true, beq_iff_eq] at h2
  obtain ⟨a, b, d⟩ := h2
  have a := eqK_eq a
  subst a b d
  exact List.mem_of_find?_eq_some h1
/-- the script at the first place -/
theorem sim_script {a : Addr} {ns : List Int} {H : Hp} (hs : rd so H a = some (.lst (ns.map V.int))) (hz : ∀ b, b ≠ a → H b = none) (hf : ∀ o, H a = some o → ∃ x u, o = .frz x u) (hn : H a ≠ none → so a = none) :
    Sim (nmOfK K oc so) ⟨1, fun _ => a, H⟩ [.fls (ns.map .int)] where
  len := rfl
  inj := fun i j hi hj _ => by
    have hi : i < 1 := hi
    have hj : j < 1 := hj
    omega
  obj := fun i o e => by
    cases i with
    | zero =>
      cases e
      exact ⟨_, hs, hf, Rls.ints⟩
    | succ i => simp at e
  nok := fun b hb => by
    by_cases e : b = a
    · subst e
      cases q : H b with
      | none => exact q
      | some o => exact absurd (hn (by rw [q]; simp)) hb
    · exact hz b e
end
end QL
set_option Elab.async false
set_option linter.all false
set_option maxRecDepth 100000
set_option maxHeartbeats 4000000
/-! H4: the head's run by parts. -/
namespace QL
open PySem
theorem parts {σ β : Type} {X : Option σ} {L : σ → Bool} {Sn : σ → β} {Kf : σ → PySem.W.Frag} {good : β} {f1 f2 ex : PySem.W.Frag → Bool} {fn fn1 fn2 : List He.DefD} {ts : List He.Tab} {tv : List (Option (List (Option (Str × Int))))}
    (hex : ∀ K, (f1 K && f2 K) = ex K) (hfn : fn1 ++ fn2 = fn)
    (h1 : X.map (fun s => (L s, Sn s)) = some (true, good)) (h2 : X.map (fun s => f1 (Kf s)) = some true) (h3 : X.map (fun s => (f2 (Kf s), ts.map fun t => He.dicW (Kf s) (t.1 (Kf s)))) = some (true, tv))
    (h4 : X.map (fun s => (fn1.all (fun d => d.ok (Kf s)), fn1.map fun d => He.fnW (Kf s) d.at_)) = some (true, fn1.map He.DefD.val))
    (h5 : X.map (fun s => (fn2.all (fun d => d.ok (Kf s)), fn2.map fun d => He.fnW (Kf s) d.at_)) = some (true, fn2.map He.DefD.val)) :
    X.map (fun s => (L s, Sn s, obsQ ex fn ts (Kf s))) = some (true, good, ((true, fn.map He.DefD.val), tv)) := by
  cases X with
  | none => cases h1
  | some s =>
    simp only [Option.map_some, Option.some.injEq, Prod.mk.injEq] at h1 h2 h3 h4 h5 ⊢
    refine ⟨h1.1, h1.2, ?_⟩
    unfold obsQ
    subst hfn
    rw [← hex, h2, h3.1, h3.2, List.all_append, h4.1, h5.1, List.map_append, h4.2, h5.2, List.map_append]
    rfl
end QL
set_option Elab.async false
set_option linter.all false
set_option maxRecDepth 100000
set_option maxHeartbeats 4000000
/-! H5: the head's fragment: what the module's names reach. -/
namespace QL
open PySem
def refs2 (o : Obj) : List Addr := He.refV o.cls ++ match o.data with
  | .seq its _ => its.toList.flatMap He.refV
  | .dict es _ => es.toList.flatMap fun e => He.refV e.val
  | .func fd => He.refV fd.code ++ He.refV fd.defaults ++ He.refV fd.kwdefaults
  | .cls cd => cd.ns :: cd.mro.flatMap He.refV
  | _ => []
def cloA (g : Addr → Option Obj) : Nat → List Addr → Nat → List Addr
  | 0, _, _ => []
  | _ + 1, [], _ => []
  | f + 1, a :: r, m => match Nat.beq (Nat.land (Nat.shiftRight m a) 1) 1 with
    | true => cloA g f r m
    | false => match g a with
      | some o => a :: cloA g f (refs2 o ++ r) (Nat.lor m (Nat.shiftLeft 1 a))
      | none => cloA g f r m
def KG (g : Addr → Option Obj) : PySem.W.Frag := He.frG g (cloA g 20000 [mainGlobals] 0)
def hookC (ex : PySem.W.Frag → Bool) (fn : List He.DefD) (ts : List He.Tab) : PySem.W.Hook where
  α := AlQ
  obs := fun s => obsQ ex fn ts (KG s.heap.get?)
  val := fun w => valQ fn ts w
  says := fun w h => ∃ K : PySem.W.Frag, K.In h ∧ SaysQ ex fn ts w K
  of := fun _ _ e => ⟨_, He.frG_in, e⟩
  keeps := fun _ _ _ ⟨K, hK, c⟩ k => ⟨K, PySem.W.Frag.In.keeps hK k, c⟩
theorem obsC_eq {ex : PySem.W.Frag → Bool} {fn : List He.DefD} {ts : List He.Tab} {g : Addr → Option Obj} {s : Shared} (h : ∀ a, g a = s.heap.get? a) : obsQ ex fn ts (KG g) = (hookC ex fn ts).obs s := by
  have e : g = s.heap.get? := funext h
  rw [e] <;> rfl
theorem parts2 {σ β : Type} {X : Option σ} {L : σ → Bool} {Sn : σ → β} {Kf : σ → PySem.W.Frag} {good : β} {f1 f2 ex : PySem.W.Frag → Bool} {fn : List He.DefD} {ts : List He.Tab} {tv : List (Option (List (Option (Str × Int))))}
    (hex : ∀ K, (f1 K && f2 K) = ex K) (h1 : X.map (fun s => (L s, Sn s, f1 (Kf s))) = some (true, good, true))
    (h2 : X.map (fun s => (f2 (Kf s), ts.map (fun t => He.dicW (Kf s) (t.1 (Kf s))), fn.all (fun d => d.ok (Kf s)), fn.map fun d => He.fnW (Kf s) d.at_)) = some (true, tv, true, fn.map He.DefD.val)) :
    X.map (fun s => (L s, Sn s, obsQ ex fn ts (Kf s))) = some (true, good, ((true, fn.map He.DefD.val), tv)) := by
  cases X with
  | none => cases h1
  | some s =>
    simp only [Option.map_some, Option.some.injEq, Prod.mk.injEq] at h1 h2 ⊢
    refine ⟨h1.1, h1.2.1, ?_⟩
    unfold obsQ
    rw [← hex, h1.2.2, h2.1, h2.2.1, h2.2.2.1, h2.2.2.2]
    rfl
end QL
set_option Elab.async false
set_option linter.all false
set_option maxRecDepth 100000
set_option maxHeartbeats 4000000
namespace K46
open PySem QL
open L2 hiding wE wT
def topS (i : Nat) : Stmt := PySem.Challenge.pw_quietlanes_k46_rules_left_out_by_hand.main.body.getD i (.Pass ⟨0, 0, 0, 0⟩)
def topM (i j : Nat) : Stmt := match topS i with
  | .ClassDef _ _ _ b _ _ _ _ _ _ _ => b.getD j (.Pass ⟨0, 0, 0, 0⟩)
  | _ => .Pass ⟨0, 0, 0, 0⟩
def b_LaneSeat_init__ : Sxs := (.cons (.setF (.var 0) "word" (.cst "AWAKE"))
    (.cons (.setF (.var 0) "runs" (.lit .non))
    (.cons (.setF (.var 0) "looked" (.lit (.int 0)))
    (.cons (.setF (.var 0) "wants" (.lit (.bl false)))
    (.cons (.setF (.var 0) "passed" (.lit (.bl false)))
    (.cons (.setF (.var 0) "calls_by" (.dsp (.cons (.cst "PLAIN") (.lst .nil) (.cons (.cst "SWIFT") (.lst .nil) .nil))))
    .nil))))))
def i_LaneSeat_init__ : FnI := ⟨["self"], 1, b_LaneSeat_init__⟩
def b_LaneSeat_is_free : Sxs := (.cons (.ret (.and (.cmp .Eq (.fld (.var 0) "word") (.cst "AWAKE")) (.cmp .Is (.fld (.var 0) "runs") (.lit .non))))
    .nil)
def i_LaneSeat_is_free : FnI := ⟨["self"], 1, b_LaneSeat_is_free⟩
def b_ReaderSeat_init__ : Sxs := (.cons (.setF (.var 0) "deep" (.lit (.int 0)))
    (.cons (.setF (.var 0) "on" (.lit .non))
    (.cons (.setF (.var 0) "entered" (.tup (.cons (.lit (.int 0)) (.cons (.lit (.int 0)) .nil))))
    (.cons (.setF (.var 0) "listed_at" (.lit .non))
    (.cons (.setF (.var 0) "things" .dct0)
    .nil)))))
def i_ReaderSeat_init__ : FnI := ⟨["self"], 1, b_ReaderSeat_init__⟩
def b_ReaderSeat_is_running : Sxs := (.cons (.ret (.cmp .IsNot (.fld (.var 0) "on") (.lit .non)))
    .nil)
def i_ReaderSeat_is_running : FnI := ⟨["self"], 1, b_ReaderSeat_is_running⟩
def b_ReaderSeat_is_off : Sxs := (.cons (.ret (.and (.cmp .Gt (.fld (.var 0) "deep") (.lit (.int 0))) (.cmp .Is (.fld (.var 0) "on") (.lit .non))))
    .nil)
def i_ReaderSeat_is_off : FnI := ⟨["self"], 1, b_ReaderSeat_is_off⟩
def b_ReaderSeat_leave : Sxs := (.cons (.setF (.var 0) "deep" (.lit (.int 0)))
    (.cons (.setF (.var 0) "on" (.lit .non))
    (.cons (.setF (.var 0) "entered" (.tup (.cons (.lit (.int 0)) (.cons (.lit (.int 0)) .nil))))
    (.cons (.setF (.var 0) "listed_at" (.lit .non))
    (.cons (.setF (.var 0) "things" .dct0)
    .nil)))))
def i_ReaderSeat_leave : FnI := ⟨["self"], 1, b_ReaderSeat_leave⟩
def b_NodeSeat_init__ : Sxs := (.cons (.setF (.var 0) "bits" .dct0)
    (.cons (.setF (.var 0) "listed" (.lst .nil))
    (.cons (.setF (.var 0) "held" .dct0)
    (.cons (.setF (.var 0) "opened_for" (.lit (.int 0)))
    (.cons (.setF (.var 0) "stopped" .dct0)
    .nil)))))
def i_NodeSeat_init__ : FnI := ⟨["self"], 1, b_NodeSeat_init__⟩
def b_NodeSeat_is_quiet : Sxs := (.cons (.ret (.and (.cmp .Eq (.fld (.var 0) "bits") .dct0) (.cmp .Eq (.fld (.var 0) "held") .dct0)))
    .nil)
def i_NodeSeat_is_quiet : FnI := ⟨["self"], 1, b_NodeSeat_is_quiet⟩
def b_is_within : Sxs := (.cons (.ret (.and (.isi (.var 0) .int) (.and (.not (.isi (.var 0) .bool)) (.chn .LtE .LtE (.var 1) (.var 0) (.var 2)))))
    .nil)
def i_is_within : FnI := ⟨["thing", "least", "most"], 3, b_is_within⟩
def b_halves_up : Sxs := (.cons (.ret (.op .FloorDiv (.op .Sub (.op .Add (.var 0) (.var 1)) (.lit (.int 1))) (.var 1)))
    .nil)
def i_halves_up : FnI := ⟨["many", "fan"], 2, b_halves_up⟩
def b_Shape_init__ : Sxs := (.cons (.ifs (.not (.val (.fn "is_within" (.cons (.var 1) (.cons (.lit (.int 1)) (.cons (.cst "MOST_LANES") .nil)))))) (.cons .never
    .nil) .nil)
    (.cons (.ifs (.not (.val (.fn "is_within" (.cons (.var 2) (.cons (.cst "LEAST_FAN") (.cons (.cst "MOST_FAN") .nil)))))) (.cons .never
    .nil) .nil)
    (.cons (.setF (.var 0) "own_lanes" (.var 1))
    (.cons (.setF (.var 0) "own_fan" (.var 2))
    (.cons (.setF (.var 0) "rows" (.lst (.cons (.fn "halves_up" (.cons (.var 1) (.cons (.var 2) .nil))) .nil)))
    (.cons (.whl (.cmp .Gt (.idx (.fld (.var 0) "rows") (.lit (.int 0))) (.lit (.int 1))) (.cons (.exp (.bm .insert (.fld (.var 0) "rows") (.cons (.lit (.int 0)) (.cons (.fn "halves_up" (.cons (.idx (.fld (.var 0) "rows") (.lit (.int 0))) (.cons (.var 2) .nil))) .nil))))
    .nil))
    .nil))))))
def i_Shape_init__ : FnI := ⟨["self", "lanes", "fan"], 3, b_Shape_init__⟩
def b_Shape_lanes : Sxs := (.cons (.ret (.fld (.var 0) "own_lanes"))
    .nil)
def i_Shape_lanes : FnI := ⟨["self"], 1, b_Shape_lanes⟩
def b_Shape_nodes : Sxs := (.cons (.ret (.bi .sum (.cons (.fld (.var 0) "rows") .nil)))
    .nil)
def i_Shape_nodes : FnI := ⟨["self"], 1, b_Shape_nodes⟩
def b_Shape_first_of : Sxs := (.cons (.ret (.bi .sum (.cons (.slc (.fld (.var 0) "rows") .none (.some (.var 1))) .nil)))
    .nil)
def i_Shape_first_of : FnI := ⟨["self", "row"], 2, b_Shape_first_of⟩
def b_Shape_leaves : Sxs := (.cons (.ret (.lrg (.met (.var 0) "first_of" (.cons (.op .Sub (.bi .len (.cons (.fld (.var 0) "rows") .nil)) (.lit (.int 1))) .nil)) (.met (.var 0) "nodes" .nil)))
    .nil)
def i_Shape_leaves : FnI := ⟨["self"], 1, b_Shape_leaves⟩
def b_Shape_leaf_of : Sxs := (.cons (.ifs (.not (.val (.fn "is_within" (.cons (.var 1) (.cons (.lit (.int 0)) (.cons (.op .Sub (.fld (.var 0) "own_lanes") (.lit (.int 1))) .nil)))))) (.cons .never
    .nil) .nil)
    (.cons (.ret (.op .Add (.met (.var 0) "first_of" (.cons (.op .Sub (.bi .len (.cons (.fld (.var 0) "rows") .nil)) (.lit (.int 1))) .nil)) (.op .FloorDiv (.var 1) (.fld (.var 0) "own_fan"))))
    .nil))
def i_Shape_leaf_of : FnI := ⟨["self", "lane"], 2, b_Shape_leaf_of⟩
def b_Shape_seat_of : Sxs := (.cons (.ifs (.not (.val (.fn "is_within" (.cons (.var 1) (.cons (.lit (.int 0)) (.cons (.op .Sub (.met (.var 0) "nodes" .nil) (.lit (.int 1))) .nil)))))) (.cons .never
    .nil) .nil)
    (.cons (.asg 2 (.lit (.int 0)))
    (.cons (.whl (.cmp .GtE (.var 1) (.met (.var 0) "first_of" (.cons (.op .Add (.var 2) (.lit (.int 1))) .nil))) (.cons (.aug 2 .Add (.lit (.int 1)))
    .nil))
    (.cons (.ret (.tup (.cons (.var 2) (.cons (.op .Sub (.var 1) (.met (.var 0) "first_of" (.cons (.var 2) .nil))) .nil))))
    .nil))))
def i_Shape_seat_of : FnI := ⟨["self", "node", "row"], 2, b_Shape_seat_of⟩
def b_Shape_parent_of : Sxs := (.cons (.unp [2, 3] (.met (.var 0) "seat_of" (.cons (.var 1) .nil)))
    (.cons (.ret (.ite (.cmp .Eq (.var 2) (.lit (.int 0))) (.lit .non) (.op .Add (.met (.var 0) "first_of" (.cons (.op .Sub (.var 2) (.lit (.int 1))) .nil)) (.op .FloorDiv (.var 3) (.fld (.var 0) "own_fan")))))
    .nil))
def i_Shape_parent_of : FnI := ⟨["self", "node", "row", "place"], 2, b_Shape_parent_of⟩
def b_Shape_beneath : Sxs := (.cons (.unp [3, 4] (.met (.var 0) "seat_of" (.cons (.var 1) .nil)))
    (.cons (.asgT [.nm 5, .nm 6] (.tup (.cons (.fld (.var 0) "own_lanes") (.cons (.lit (.int 0)) .nil))))
    (.cons (.ifs (.cmp .Lt (.op .Add (.var 3) (.lit (.int 1))) (.bi .len (.cons (.fld (.var 0) "rows") .nil))) (.cons (.asgT [.nm 5, .nm 6] (.tup (.cons (.idx (.fld (.var 0) "rows") (.op .Add (.var 3) (.lit (.int 1)))) (.cons (.met (.var 0) "first_of" (.cons (.op .Add (.var 3) (.lit (.int 1))) .nil)) .nil))))
    .nil) .nil)
    (.cons (.asg 2 (.op .Mult (.var 4) (.fld (.var 0) "own_fan")))
    (.cons (.ret (.lc (.nm 7) (.rng (.var 2) (.bi .min (.cons (.op .Add (.var 2) (.fld (.var 0) "own_fan")) (.cons (.var 5) .nil)))) .yes (.op .Add (.var 6) (.var 7)) [7]))
    .nil)))))
def i_Shape_beneath : FnI := ⟨["self", "node", "start", "row", "place", "many", "first", "one"], 2, b_Shape_beneath⟩
def b_look_at_number : Sxs := (.cons (.ifs (.or (.not (.val (.isi (.var 0) .int))) (.or (.val (.isi (.var 0) .bool)) (.cmp .Lt (.var 0) (.lit (.int 0))))) (.cons .never
    .nil) .nil)
    .nil)
def i_look_at_number : FnI := ⟨["thing"], 1, b_look_at_number⟩
def b_due_of : Sxs := (.cons (.exp (.fn "look_at_number" (.cons (.var 0) .nil)))
    (.cons (.ret (.op .Add (.op .Add (.var 0) (.lit (.int 2))) (.op .Mod (.var 0) (.lit (.int 2)))))
    .nil))
def i_due_of : FnI := ⟨["number"], 1, b_due_of⟩
def b_Core_init__ : Sxs := (.cons (.setF (.var 0) "own_shape" (.var 1))
    (.cons (.setF (.var 0) "without" (.dc (.nm 3) (.val (.var 2)) .yes (.var 3) (.lit (.bl true)) [3]))
    (.cons (.setF (.var 0) "lane_seats" (.lc (.nm 4) (.rng (.lit (.int 0)) (.met (.var 1) "lanes" .nil)) .yes (.mkC "LaneSeat" [] .nil) [4]))
    (.cons (.setF (.var 0) "reader_seats" (.lc (.nm 5) (.rng (.lit (.int 0)) (.cst "READERS")) .yes (.mkC "ReaderSeat" [] .nil) [5]))
    (.cons (.setF (.var 0) "node_seats" (.lc (.nm 6) (.rng (.lit (.int 0)) (.met (.var 1) "nodes" .nil)) .yes (.mkC "NodeSeat" [] .nil) [6]))
    (.cons (.setF (.var 0) "things_in" (.dc (.nm 7) (.rng (.lit (.int 0)) (.cst "THINGS")) .yes (.var 7) (.lit (.bl true)) [7]))
    (.cons (.setF (.var 0) "things_gone" .dct0)
    (.cons (.setF (.var 0) "numbers" (.lst (.cons (.lit (.int 0)) (.cons (.lit (.int 0)) .nil))))
    (.cons (.setF (.var 0) "wanted_by" (.lst (.cons (.lit (.int 0)) (.cons (.lit (.int 0)) .nil))))
    (.cons (.setF (.var 0) "opened" (.lit (.int 0)))
    (.cons (.setF (.var 0) "sought" (.lit (.int 0)))
    (.cons (.setF (.var 0) "closed" (.lit (.int 0)))
    (.cons (.setF (.var 0) "asked" (.lit (.int 0)))
    (.cons (.setF (.var 0) "waited" .dct0)
    .nil))))))))))))))
def i_Core_init__ : FnI := ⟨["self", "shape", "without", "rule", "lane", "reader", "node", "thing"], 3, b_Core_init__⟩
def b_Core_lacks : Sxs := (.cons (.ret (.cmp .In (.var 1) (.fld (.var 0) "without")))
    .nil)
def i_Core_lacks : FnI := ⟨["self", "rule"], 2, b_Core_lacks⟩
def b_Core_goes_on : Sxs := (.cons (.ret (.cmp .Eq (.op .Mod (.idx (.fld (.var 0) "numbers") (.lit (.int 0))) (.lit (.int 2))) (.lit (.int 1))))
    .nil)
def i_Core_goes_on : FnI := ⟨["self"], 1, b_Core_goes_on⟩
def b_Core_leaf : Sxs := (.cons (.ret (.idx (.fld (.var 0) "node_seats") (.met (.fld (.var 0) "own_shape") "leaf_of" (.cons (.var 1) .nil))))
    .nil)
def i_Core_leaf : FnI := ⟨["self", "lane"], 2, b_Core_leaf⟩
def b_Core_due : Sxs := (.cons (.ifs (.val (.met (.var 0) "lacks" (.cons (.lit (.str "whole")) .nil))) (.cons (.ret (.op .Sub (.op .Add (.idx (.fld (.var 0) "numbers") (.var 1)) (.lit (.int 2))) (.op .Mod (.idx (.fld (.var 0) "numbers") (.var 1)) (.lit (.int 2)))))
    .nil) .nil)
    (.cons (.ret (.fn "due_of" (.cons (.idx (.fld (.var 0) "numbers") (.var 1)) .nil)))
    .nil))
def i_Core_due : FnI := ⟨["self", "which"], 2, b_Core_due⟩
def b_Core_ask : Sxs := (.cons (.asg 2 (.met (.var 0) "due" (.cons (.var 1) .nil)))
    (.cons (.setI (.fld (.var 0) "wanted_by") (.var 1) (.bi .max (.cons (.idx (.fld (.var 0) "wanted_by") (.var 1)) (.cons (.var 2) .nil))))
    (.cons (.ret (.var 2))
    .nil)))
def i_Core_ask : FnI := ⟨["self", "which", "found"], 2, b_Core_ask⟩
def b_Core_is_old : Sxs := (.cons (.ret (.and (.met (.var 0) "goes_on" .nil) (.cmp .Lt (.idx (.fld (.idx (.fld (.var 0) "reader_seats") (.var 1)) "entered") (.lit (.int 0))) (.idx (.fld (.var 0) "numbers") (.lit (.int 0))))))
    .nil)
def i_Core_is_old : FnI := ⟨["self", "reader"], 2, b_Core_is_old⟩
def b_Core_is_here : Sxs := (.cons (.ret (.cmp .NotEq (.fld (.idx (.fld (.var 0) "lane_seats") (.var 1)) "word") (.lit (.str "gone"))))
    .nil)
def i_Core_is_here : FnI := ⟨["self", "lane"], 2, b_Core_is_here⟩
def b_Core_others_here : Sxs := (.cons (.ret (.lc (.nm 2) (.rng (.lit (.int 0)) (.met (.fld (.var 0) "own_shape") "lanes" .nil)) (.and (.cmp .NotEq (.var 2) (.var 1)) (.val (.met (.var 0) "is_here" (.cons (.var 2) .nil)))) (.var 2) [2]))
    .nil)
def i_Core_others_here : FnI := ⟨["self", "lane", "one"], 2, b_Core_others_here⟩
def b_Core_is_quiet : Sxs := (.cons (.asg 2 (.idx (.fld (.var 0) "node_seats") (.var 1)))
    (.cons (.ret (.or (.met (.var 2) "is_quiet" .nil) (.and (.met (.var 0) "lacks" (.cons (.lit (.str "wait")) .nil)) (.cmp .Eq (.fld (.var 2) "bits") .dct0))))
    .nil))
def i_Core_is_quiet : FnI := ⟨["self", "node", "seat"], 2, b_Core_is_quiet⟩
def b_Core_tell_up : Sxs := (.cons (.asg 2 (.met (.fld (.var 0) "own_shape") "parent_of" (.cons (.var 1) .nil)))
    (.cons (.whl (.and (.cmp .IsNot (.var 2) (.lit .non)) (.val (.met (.var 0) "is_quiet" (.cons (.var 1) .nil)))) (.cons (.exp (.bm .dpop2 (.fld (.idx (.fld (.var 0) "node_seats") (.var 2)) "bits") (.cons (.var 1) (.cons (.lit .non) .nil))))
    (.cons (.asg 1 (.var 2))
    (.cons (.asg 2 (.met (.fld (.var 0) "own_shape") "parent_of" (.cons (.var 1) .nil)))
    .nil))))
    .nil))
def i_Core_tell_up : FnI := ⟨["self", "node", "parent"], 2, b_Core_tell_up⟩
def b_Core_clear : Sxs := (.cons (.asg 2 (.met (.fld (.var 0) "own_shape") "leaf_of" (.cons (.var 1) .nil)))
    (.cons (.ifs (.cmp .In (.var 1) (.fld (.idx (.fld (.var 0) "node_seats") (.var 2)) "bits")) (.cons (.exp (.bm .dpop1 (.fld (.idx (.fld (.var 0) "node_seats") (.var 2)) "bits") (.cons (.var 1) .nil)))
    (.cons (.exp (.met (.var 0) "tell_up" (.cons (.var 2) .nil)))
    .nil)) .nil)
    .nil))
def i_Core_clear : FnI := ⟨["self", "lane", "leaf"], 2, b_Core_clear⟩
def b_Core_list_at : Sxs := (.cons (.asg 3 (.met (.var 0) "leaf" (.cons (.var 2) .nil)))
    (.cons (.setF (.idx (.fld (.var 0) "reader_seats") (.var 1)) "listed_at" (.met (.fld (.var 0) "own_shape") "leaf_of" (.cons (.var 2) .nil)))
    (.cons (.exp (.bm .append (.fld (.var 3) "listed") (.cons (.var 1) .nil)))
    (.cons (.asg 4 (.and (.met (.var 0) "goes_on" .nil) (.cmp .Eq (.fld (.var 3) "opened_for") (.idx (.fld (.var 0) "numbers") (.lit (.int 0))))))
    (.cons (.ifs (.and (.val (.var 4)) (.and (.cmp .In (.var 2) (.fld (.var 3) "bits")) (.and (.val (.met (.var 0) "is_old" (.cons (.var 1) .nil))) (.not (.val (.met (.var 0) "lacks" (.cons (.lit (.str "late")) .nil))))))) (.cons (.setI (.fld (.var 3) "held") (.var 1) (.lit (.bl true)))
    .nil) .nil)
    .nil)))))
def i_Core_list_at : FnI := ⟨["self", "reader", "lane", "seat", "is_open"], 3, b_Core_list_at⟩
def b_Core_unlist : Sxs := (.cons (.asg 2 (.fld (.idx (.fld (.var 0) "reader_seats") (.var 1)) "listed_at"))
    (.cons (.exp (.bm .dpop2 (.fld (.var 0) "waited") (.cons (.var 1) (.cons (.lit .non) .nil))))
    (.cons (.ifs (.cmp .IsNot (.var 2) (.lit .non)) (.cons (.asg 3 (.idx (.fld (.var 0) "node_seats") (.var 2)))
    (.cons (.exp (.bm .remove (.fld (.var 3) "listed") (.cons (.var 1) .nil)))
    (.cons (.ifs (.cmp .In (.var 1) (.fld (.var 3) "held")) (.cons (.exp (.bm .dpop1 (.fld (.var 3) "held") (.cons (.var 1) .nil)))
    (.cons (.exp (.met (.var 0) "tell_up" (.cons (.var 2) .nil)))
    .nil)) .nil)
    .nil))) .nil)
    .nil)))
def i_Core_unlist : FnI := ⟨["self", "reader", "leaf", "seat"], 2, b_Core_unlist⟩
def b_Core_stop : Sxs := (.cons (.setF (.idx (.fld (.var 0) "lane_seats") (.var 1)) "word" (.var 2))
    (.cons (.setI (.fld (.met (.var 0) "leaf" (.cons (.var 1) .nil)) "stopped") (.var 1) (.lit (.bl true)))
    .nil))
def i_Core_stop : FnI := ⟨["self", "lane", "word"], 3, b_Core_stop⟩
def b_Core_is_stopped : Sxs := (.cons (.ret (.cmp .NotEq (.fld (.idx (.fld (.var 0) "lane_seats") (.var 1)) "word") (.cst "AWAKE")))
    .nil)
def i_Core_is_stopped : FnI := ⟨["self", "lane"], 2, b_Core_is_stopped⟩
def b_opened_number : Sxs := (.cons (.ifs (.and (.val (.met (.var 0) "lacks" (.cons (.lit (.str "order")) .nil))) (.not (.val (.met (.var 0) "goes_on" .nil)))) (.cons (.ret (.op .Add (.idx (.fld (.var 0) "numbers") (.lit (.int 0))) (.lit (.int 1))))
    .nil) .nil)
    (.cons (.ret (.idx (.fld (.var 0) "numbers") (.lit (.int 0))))
    .nil))
def i_opened_number : FnI := ⟨["core"], 1, b_opened_number⟩
def b_is_under_way : Sxs := (.cons (.ret (.or (.met (.var 0) "goes_on" .nil) (.and (.met (.var 0) "lacks" (.cons (.lit (.str "order")) .nil)) (.cmp .Lt (.fld (.var 0) "opened") (.lit (.int 0))))))
    .nil)
def i_is_under_way : FnI := ⟨["core"], 1, b_is_under_way⟩
def b_open_leaf : Sxs := (.cons (.asg 2 (.idx (.fld (.var 0) "node_seats") (.var 1)))
    (.cons (.asg 3 (.met (.fld (.var 0) "own_shape") "beneath" (.cons (.var 1) .nil)))
    (.cons (.setF (.var 2) "bits" (.dc (.nm 4) (.val (.var 3)) (.val (.met (.var 0) "is_here" (.cons (.var 4) .nil))) (.var 4) (.lit (.bl true)) [4]))
    (.cons (.setF (.var 2) "stopped" (.dc (.nm 4) (.val (.var 3)) (.val (.met (.var 0) "is_stopped" (.cons (.var 4) .nil))) (.var 4) (.lit (.bl true)) [4]))
    (.cons (.setF (.var 2) "held" .dct0)
    (.cons (.ifs (.not (.val (.met (.var 0) "lacks" (.cons (.lit (.str "held")) .nil)))) (.cons (.setF (.var 2) "held" (.dc (.nm 5) (.val (.fld (.var 2) "listed")) (.or (.val (.met (.var 0) "is_old" (.cons (.var 5) .nil))) (.not (.val (.met (.var 0) "goes_on" .nil)))) (.var 5) (.lit (.bl true)) [5]))
    .nil) .nil)
    .nil))))))
def i_open_leaf : FnI := ⟨["core", "node", "seat", "lanes", "lane", "reader"], 2, b_open_leaf⟩
def b_open_next : Sxs := (.cons (.asg 2 (.idx (.fld (.var 0) "node_seats") (.var 1)))
    (.cons (.setF (.var 2) "opened_for" (.fn "opened_number" (.cons (.var 0) .nil)))
    (.cons (.ifs (.cmp .In (.var 1) (.met (.fld (.var 0) "own_shape") "leaves" .nil)) (.cons (.exp (.fn "open_leaf" (.cons (.var 0) (.cons (.var 1) .nil))))
    .nil) (.cons (.setF (.var 2) "bits" (.dc (.nm 3) (.val (.met (.fld (.var 0) "own_shape") "beneath" (.cons (.var 1) .nil))) .yes (.var 3) (.lit (.bl true)) [3]))
    .nil))
    (.cons (.exp (.met (.var 0) "tell_up" (.cons (.var 1) .nil)))
    (.cons (.ret (.tup (.cons (.lit (.str "open")) (.cons (.var 1) .nil))))
    .nil)))))
def i_open_next : FnI := ⟨["core", "node", "seat", "one"], 2, b_open_next⟩
def b_seek_next : Sxs := (.cons (.asg 1 (.met (.fld (.var 0) "own_shape") "leaves" .nil))
    (.cons (.asg 2 (.idx (.var 1) (.op .Mod (.fld (.var 0) "sought") (.bi .len (.cons (.var 1) .nil)))))
    (.cons (.setF (.var 0) "sought" (.op .Mod (.op .Add (.fld (.var 0) "sought") (.lit (.int 1))) (.bi .len (.cons (.var 1) .nil))))
    (.cons (.asg 3 (.idx (.fld (.var 0) "node_seats") (.var 2)))
    (.cons (.asg 4 (.lc (.nm 5) (.val (.bi .sorted (.cons (.fld (.var 3) "bits") .nil))) (.or (.cmp .In (.var 5) (.fld (.var 3) "stopped")) (.or (.val (.met (.var 0) "is_stopped" (.cons (.var 5) .nil))) (.val (.met (.var 0) "lacks" (.cons (.lit (.str "idle")) .nil))))) (.var 5) [5]))
    (.cons (.forS (.nm 5) (.val (.var 4)) (.cons (.exp (.met (.var 0) "clear" (.cons (.var 5) .nil)))
    .nil))
    (.cons (.ret (.tup (.cons (.lit (.str "seek")) (.cons (.var 2) (.cons (.var 4) .nil)))))
    .nil)))))))
def i_seek_next : FnI := ⟨["core", "leaves", "leaf", "seat", "some", "lane"], 1, b_seek_next⟩
def b_close_next : Sxs := (.cons (.ifs (.cmp .Lt (.fld (.var 0) "closed") (.met (.fld (.var 0) "own_shape") "nodes" .nil)) (.cons (.augF (.var 0) "closed" .Add (.lit (.int 1)))
    (.cons (.ret (.tup (.cons (.lit (.str "close")) (.cons (.op .Sub (.fld (.var 0) "closed") (.lit (.int 1))) .nil))))
    .nil)) .nil)
    (.cons (.augI (.fld (.var 0) "numbers") (.lit (.int 0)) .Add (.lit (.int 1)))
    (.cons (.setF (.var 0) "opened" (.lit (.int 0)))
    (.cons (.setF (.var 0) "sought" (.lit (.int 0)))
    (.cons (.setF (.var 0) "closed" (.lit (.int 0)))
    (.cons (.ret (.tup (.cons (.lit (.str "over")) (.cons (.idx (.fld (.var 0) "numbers") (.lit (.int 0))) .nil))))
    .nil))))))
def i_close_next : FnI := ⟨["core"], 1, b_close_next⟩
def b_begin_one : Sxs := (.cons (.ifs (.cmp .LtE (.idx (.fld (.var 0) "wanted_by") (.lit (.int 0))) (.idx (.fld (.var 0) "numbers") (.lit (.int 0)))) (.cons (.ret (.tup (.cons (.lit (.str "none")) .nil)))
    .nil) .nil)
    (.cons (.ifs (.val (.met (.var 0) "lacks" (.cons (.lit (.str "order")) .nil))) (.cons (.setF (.var 0) "opened" (.op .Sub (.neg (.lit (.int 1))) (.met (.fld (.var 0) "own_shape") "nodes" .nil)))
    (.cons (.ret (.tup (.cons (.lit (.str "begin")) (.cons (.op .Add (.idx (.fld (.var 0) "numbers") (.lit (.int 0))) (.lit (.int 1))) .nil))))
    .nil)) .nil)
    (.cons (.augI (.fld (.var 0) "numbers") (.lit (.int 0)) .Add (.lit (.int 1)))
    (.cons (.ret (.tup (.cons (.lit (.str "begin")) (.cons (.idx (.fld (.var 0) "numbers") (.lit (.int 0))) .nil))))
    .nil))))
def i_begin_one : FnI := ⟨["core"], 1, b_begin_one⟩
def b_open_early : Sxs := (.cons (.asg 1 (.fn "open_next" (.cons (.var 0) (.cons (.op .Add (.op .Add (.fld (.var 0) "opened") (.lit (.int 1))) (.met (.fld (.var 0) "own_shape") "nodes" .nil)) .nil))))
    (.cons (.augF (.var 0) "opened" .Add (.lit (.int 1)))
    (.cons (.ifs (.cmp .Eq (.fld (.var 0) "opened") (.neg (.lit (.int 1)))) (.cons (.augI (.fld (.var 0) "numbers") (.lit (.int 0)) .Add (.lit (.int 1)))
    (.cons (.setF (.var 0) "opened" (.met (.fld (.var 0) "own_shape") "nodes" .nil))
    .nil)) .nil)
    (.cons (.ret (.var 1))
    .nil))))
def i_open_early : FnI := ⟨["core", "found"], 1, b_open_early⟩
def b_keep_step : Sxs := (.cons (.ifs (.not (.val (.fn "is_under_way" (.cons (.var 0) .nil)))) (.cons (.ret (.fn "begin_one" (.cons (.var 0) .nil)))
    .nil) .nil)
    (.cons (.ifs (.cmp .Lt (.fld (.var 0) "opened") (.lit (.int 0))) (.cons (.ret (.fn "open_early" (.cons (.var 0) .nil)))
    .nil) .nil)
    (.cons (.ifs (.cmp .Lt (.fld (.var 0) "opened") (.met (.fld (.var 0) "own_shape") "nodes" .nil)) (.cons (.augF (.var 0) "opened" .Add (.lit (.int 1)))
    (.cons (.ret (.fn "open_next" (.cons (.var 0) (.cons (.op .Sub (.fld (.var 0) "opened") (.lit (.int 1))) .nil))))
    .nil)) .nil)
    (.cons (.ifs (.and (.cmp .Eq (.fld (.var 0) "closed") (.lit (.int 0))) (.not (.val (.met (.var 0) "is_quiet" (.cons (.lit (.int 0)) .nil))))) (.cons (.ret (.fn "seek_next" (.cons (.var 0) .nil)))
    .nil) .nil)
    (.cons (.ret (.fn "close_next" (.cons (.var 0) .nil)))
    .nil)))))
def i_keep_step : FnI := ⟨["core"], 1, b_keep_step⟩
def b_entered_ahead : Sxs := (.cons (.asg 2 (.idx (.fld (.var 0) "reader_seats") (.var 1)))
    (.cons (.ret (.and (.cmp .Gt (.fld (.var 2) "deep") (.lit (.int 0))) (.cmp .Lt (.idx (.fld (.var 2) "entered") (.lit (.int 1))) (.idx (.fld (.var 0) "numbers") (.lit (.int 1))))))
    .nil))
def i_entered_ahead : FnI := ⟨["core", "reader", "seat"], 2, b_entered_ahead⟩
def b_ask_leaf : Sxs := (.cons (.asg 1 (.idx (.met (.fld (.var 0) "own_shape") "leaves" .nil) (.fld (.var 0) "asked")))
    (.cons (.augF (.var 0) "asked" .Add (.lit (.int 1)))
    (.cons (.asg 2 (.lc (.nm 5) (.val (.met (.fld (.var 0) "own_shape") "beneath" (.cons (.var 1) .nil))) .yes (.fld (.idx (.fld (.var 0) "lane_seats") (.var 5)) "runs") [5]))
    (.cons (.asg 2 (.lc (.nm 4) (.val (.var 2)) (.cmp .IsNot (.var 4) (.lit .non)) (.var 4) [4]))
    (.cons (.ifs (.not (.val (.met (.var 0) "lacks" (.cons (.lit (.str "asked")) .nil)))) (.cons (.asg 2 (.op .Add (.var 2) (.fld (.idx (.fld (.var 0) "node_seats") (.var 1)) "listed")))
    .nil) .nil)
    (.cons (.asg 3 (.bi .sorted (.cons (.dc (.nm 4) (.val (.var 2)) (.val (.fn "entered_ahead" (.cons (.var 0) (.cons (.var 4) .nil)))) (.var 4) (.lit (.bl true)) [4]) .nil)))
    (.cons (.forS (.nm 4) (.val (.var 3)) (.cons (.setI (.fld (.var 0) "waited") (.var 4) (.lit (.bl true)))
    .nil))
    (.cons (.ret (.tup (.cons (.lit (.str "ask")) (.cons (.var 1) (.cons (.var 3) .nil)))))
    .nil))))))))
def i_ask_leaf : FnI := ⟨["core", "leaf", "some", "found", "reader", "lane"], 1, b_ask_leaf⟩
def b_rush_step : Sxs := (.cons (.ifs (.cmp .Eq (.op .Mod (.idx (.fld (.var 0) "numbers") (.lit (.int 1))) (.lit (.int 2))) (.lit (.int 0))) (.cons (.ifs (.cmp .LtE (.idx (.fld (.var 0) "wanted_by") (.lit (.int 1))) (.idx (.fld (.var 0) "numbers") (.lit (.int 1)))) (.cons (.ret (.tup (.cons (.lit (.str "none")) .nil)))
    .nil) .nil)
    (.cons (.augI (.fld (.var 0) "numbers") (.lit (.int 1)) .Add (.lit (.int 1)))
    (.cons (.ret (.tup (.cons (.lit (.str "begin")) (.cons (.idx (.fld (.var 0) "numbers") (.lit (.int 1))) .nil))))
    .nil))) .nil)
    (.cons (.ifs (.cmp .Lt (.fld (.var 0) "asked") (.bi .len (.cons (.met (.fld (.var 0) "own_shape") "leaves" .nil) .nil))) (.cons (.ret (.fn "ask_leaf" (.cons (.var 0) .nil)))
    .nil) .nil)
    (.cons (.ifs (.cmp .NotEq (.fld (.var 0) "waited") .dct0) (.cons (.ret (.tup (.cons (.lit (.str "still")) (.cons (.bi .sorted (.cons (.fld (.var 0) "waited") .nil)) .nil))))
    .nil) .nil)
    (.cons (.augI (.fld (.var 0) "numbers") (.lit (.int 1)) .Add (.lit (.int 1)))
    (.cons (.setF (.var 0) "asked" (.lit (.int 0)))
    (.cons (.ret (.tup (.cons (.lit (.str "over")) (.cons (.idx (.fld (.var 0) "numbers") (.lit (.int 1))) .nil))))
    .nil))))))
def i_rush_step : FnI := ⟨["core"], 1, b_rush_step⟩
def b_enter_lane : Sxs := (.cons (.asg 3 (.idx (.fld (.var 0) "reader_seats") (.var 1)))
    (.cons (.setF (.var 3) "deep" (.lit (.int 1)))
    (.cons (.setF (.var 3) "on" (.var 2))
    (.cons (.setF (.var 3) "entered" (.tup (.cons (.idx (.fld (.var 0) "numbers") (.lit (.int 0))) (.cons (.idx (.fld (.var 0) "numbers") (.lit (.int 1))) .nil))))
    (.cons (.setF (.idx (.fld (.var 0) "lane_seats") (.var 2)) "runs" (.var 1))
    .nil)))))
def i_enter_lane : FnI := ⟨["core", "reader", "lane", "seat"], 3, b_enter_lane⟩
def b_come_out : Sxs := (.cons (.asg 2 (.idx (.fld (.var 0) "reader_seats") (.var 1)))
    (.cons (.augF (.var 2) "deep" .Sub (.lit (.int 1)))
    (.cons (.ifs (.cmp .Eq (.fld (.var 2) "deep") (.lit (.int 0))) (.cons (.setF (.idx (.fld (.var 0) "lane_seats") (.fld (.var 2) "on")) "runs" (.lit .non))
    (.cons (.exp (.met (.var 0) "unlist" (.cons (.var 1) .nil)))
    (.cons (.exp (.met (.var 2) "leave" .nil))
    .nil))) .nil)
    .nil)))
def i_come_out : FnI := ⟨["core", "reader", "seat"], 2, b_come_out⟩
def b_break_off : Sxs := (.cons (.asg 2 (.idx (.fld (.var 0) "reader_seats") (.var 1)))
    (.cons (.asg 3 (.fld (.var 2) "on"))
    (.cons (.setF (.var 2) "on" (.lit .non))
    (.cons (.setF (.idx (.fld (.var 0) "lane_seats") (.var 3)) "runs" (.lit .non))
    (.cons (.setF (.idx (.fld (.var 0) "lane_seats") (.var 3)) "passed" (.lit (.bl true)))
    (.cons (.ifs (.and (.cmp .Is (.fld (.var 2) "listed_at") (.lit .non)) (.not (.val (.met (.var 0) "lacks" (.cons (.lit (.str "list")) .nil))))) (.cons (.exp (.met (.var 0) "list_at" (.cons (.var 1) (.cons (.var 3) .nil))))
    .nil) .nil)
    .nil))))))
def i_break_off : FnI := ⟨["core", "reader", "seat", "lane"], 2, b_break_off⟩
def b_go_on : Sxs := (.cons (.setF (.idx (.fld (.var 0) "reader_seats") (.var 1)) "on" (.var 2))
    (.cons (.setF (.idx (.fld (.var 0) "lane_seats") (.var 2)) "runs" (.var 1))
    .nil))
def i_go_on : FnI := ⟨["core", "reader", "lane"], 3, b_go_on⟩
def b_do_of_reader : Sxs := (.cons (.ifs (.cmp .Eq (.var 1) (.lit (.str "enter"))) (.cons (.exp (.fn "enter_lane" (.cons (.var 0) (.cons (.var 2) (.cons (.var 3) .nil)))))
    .nil) (.cons (.ifs (.cmp .Eq (.var 1) (.lit (.str "on"))) (.cons (.exp (.fn "go_on" (.cons (.var 0) (.cons (.var 2) (.cons (.var 3) .nil)))))
    .nil) (.cons (.ifs (.cmp .Eq (.var 1) (.lit (.str "deeper"))) (.cons (.augF (.idx (.fld (.var 0) "reader_seats") (.var 2)) "deep" .Add (.lit (.int 1)))
    .nil) (.cons (.ifs (.cmp .Eq (.var 1) (.lit (.str "out"))) (.cons (.exp (.fn "come_out" (.cons (.var 0) (.cons (.var 2) .nil))))
    .nil) (.cons (.ifs (.cmp .Eq (.var 1) (.lit (.str "off"))) (.cons (.exp (.fn "break_off" (.cons (.var 0) (.cons (.var 2) .nil))))
    .nil) (.cons (.setI (.fld (.idx (.fld (.var 0) "reader_seats") (.var 2)) "things") (.var 3) (.lit (.bl true)))
    .nil))
    .nil))
    .nil))
    .nil))
    .nil))
    .nil)
def i_do_of_reader : FnI := ⟨["core", "word", "reader", "other"], 4, b_do_of_reader⟩
def b_look_at_leaf : Sxs := (.cons (.asg 2 (.idx (.fld (.var 0) "lane_seats") (.var 1)))
    (.cons (.asg 3 (.met (.var 0) "leaf" (.cons (.var 1) .nil)))
    (.cons (.ifs (.cmp .NotEq (.fld (.var 2) "looked") (.fld (.var 3) "opened_for")) (.cons (.setF (.var 2) "looked" (.fld (.var 3) "opened_for"))
    (.cons (.setF (.var 2) "wants" (.cmp .In (.var 1) (.fld (.var 3) "bits")))
    (.cons (.ifs (.not (.val (.met (.var 0) "lacks" (.cons (.lit (.str "look")) .nil)))) (.cons (.setF (.var 2) "passed" (.lit (.bl false)))
    .nil) .nil)
    .nil))) .nil)
    (.cons (.ret (.fld (.var 3) "opened_for"))
    .nil))))
def i_look_at_leaf : FnI := ⟨["core", "lane", "seat", "leaf"], 2, b_look_at_leaf⟩
def b_tell_leaf : Sxs := (.cons (.asg 2 (.idx (.fld (.var 0) "lane_seats") (.var 1)))
    (.cons (.asg 3 (.and (.met (.var 0) "goes_on" .nil) (.cmp .Eq (.fld (.met (.var 0) "leaf" (.cons (.var 1) .nil)) "opened_for") (.idx (.fld (.var 0) "numbers") (.lit (.int 0))))))
    (.cons (.ifs (.or (.not (.val (.fld (.var 2) "wants"))) (.or (.not (.val (.fld (.var 2) "passed"))) (.or (.not (.val (.var 3))) (.cmp .NotEq (.fld (.var 2) "looked") (.idx (.fld (.var 0) "numbers") (.lit (.int 0))))))) (.cons (.ret (.lit (.bl false)))
    .nil) .nil)
    (.cons (.setF (.var 2) "wants" (.lit (.bl false)))
    (.cons (.exp (.met (.var 0) "clear" (.cons (.var 1) .nil)))
    (.cons (.ret (.lit (.bl true)))
    .nil))))))
def i_tell_leaf : FnI := ⟨["core", "lane", "seat", "is_open"], 2, b_tell_leaf⟩
def b_come_back : Sxs := (.cons (.asg 2 (.idx (.fld (.var 0) "lane_seats") (.var 1)))
    (.cons (.setF (.var 2) "word" (.cst "AWAKE"))
    (.cons (.setF (.var 2) "looked" (.fld (.met (.var 0) "leaf" (.cons (.var 1) .nil)) "opened_for"))
    (.cons (.setF (.var 2) "wants" (.lit (.bl false)))
    (.cons (.setF (.var 2) "passed" (.lit (.bl false)))
    .nil)))))
def i_come_back : FnI := ⟨["core", "lane", "seat"], 2, b_come_back⟩
def b_do_of_lane : Sxs := (.cons (.ifs (.cmp .Eq (.var 1) (.lit (.str "look"))) (.cons (.ret (.fn "look_at_leaf" (.cons (.var 0) (.cons (.var 2) .nil))))
    .nil) .nil)
    (.cons (.ifs (.cmp .Eq (.var 1) (.lit (.str "tell"))) (.cons (.ret (.fn "tell_leaf" (.cons (.var 0) (.cons (.var 2) .nil))))
    .nil) .nil)
    (.cons (.ifs (.cmp .Eq (.var 1) (.lit (.str "run"))) (.cons (.ret .nev)
    .nil) .nil)
    (.cons (.ifs (.cmp .Eq (.var 1) (.lit (.str "pass"))) (.cons (.setF (.idx (.fld (.var 0) "lane_seats") (.var 2)) "passed" (.lit (.bl true)))
    .nil) (.cons (.ifs (.cmp .Eq (.var 1) (.lit (.str "wake"))) (.cons (.setF (.idx (.fld (.var 0) "lane_seats") (.var 2)) "word" (.cst "AWAKE"))
    .nil) (.cons (.ifs (.cmp .Eq (.var 1) (.lit (.str "come"))) (.cons (.exp (.fn "come_back" (.cons (.var 0) (.cons (.var 2) .nil))))
    .nil) (.cons (.ifs (.cmp .Eq (.var 1) (.lit (.str "idle"))) (.cons (.exp (.met (.var 0) "stop" (.cons (.var 2) (.cons (.cst "IDLE") .nil))))
    .nil) (.cons (.exp .nev)
    (.cons (.exp (.met (.var 0) "stop" (.cons (.var 2) (.cons (.cst "GONE") .nil))))
    .nil)))
    .nil))
    .nil))
    .nil))
    (.cons (.ret (.lit .non))
    .nil)))))
def i_do_of_lane : FnI := ⟨["core", "word", "lane"], 3, b_do_of_lane⟩
def b_drop_thing : Sxs := (.cons (.asg 4 (.bi .int (.cons (.cmp .Eq (.var 1) (.cst "SWIFT")) .nil)))
    (.cons (.asg 5 (.met (.var 0) "ask" (.cons (.var 4) .nil)))
    (.cons (.exp (.bm .dpop1 (.fld (.var 0) "things_in") (.cons (.var 3) .nil)))
    (.cons (.exp (.bm .append (.idx (.fld (.idx (.fld (.var 0) "lane_seats") (.var 2)) "calls_by") (.idx (.tup (.cons (.cst "PLAIN") (.cons (.cst "SWIFT") .nil))) (.var 4))) (.cons (.tup (.cons (.var 3) (.cons (.var 5) .nil))) .nil)))
    (.cons (.ret (.var 5))
    .nil)))))
def i_drop_thing : FnI := ⟨["core", "word", "lane", "thing", "which", "found"], 4, b_drop_thing⟩
def b_do_alone : Sxs := (.cons (.ifs (.cmp .Eq (.var 1) (.lit (.str "keep"))) (.cons (.ret (.fn "keep_step" (.cons (.var 0) .nil)))
    .nil) .nil)
    (.cons (.ifs (.cmp .Eq (.var 1) (.lit (.str "rush"))) (.cons (.ret (.fn "rush_step" (.cons (.var 0) .nil)))
    .nil) .nil)
    (.cons (.ret (.met (.var 0) "ask" (.cons (.bi .int (.cons (.cmp .Eq (.var 1) (.lit (.str "hurry"))) .nil)) .nil)))
    .nil)))
def i_do_alone : FnI := ⟨["core", "word"], 2, b_do_alone⟩
def b_do_now : Sxs := (.cons (.unpS [2] 3 (.var 1))
    (.cons (.ifs (.cmp .Eq (.var 3) (.lst .nil)) (.cons (.ret (.fn "do_alone" (.cons (.var 0) (.cons (.var 2) .nil))))
    .nil) .nil)
    (.cons (.ifs (.cmp .Eq (.var 2) (.lit (.str "put"))) (.cons (.exp (.bm .dpop1 (.fld (.var 0) "things_gone") (.cons (.idx (.var 3) (.lit (.int 0))) .nil)))
    (.cons (.setI (.fld (.var 0) "things_in") (.idx (.var 3) (.lit (.int 0))) (.lit (.bl true)))
    (.cons (.ret (.lit .non))
    .nil))) .nil)
    (.cons (.ifs (.cmp .In (.var 2) (.tup (.cons (.lit (.str "drop")) (.cons (.lit (.str "swift")) .nil)))) (.cons (.ret (.fn "drop_thing" (.cons (.var 0) (.cons (.var 2) (.cons (.idx (.var 3) (.lit (.int 0))) (.cons (.idx (.var 3) (.lit (.int 1))) .nil))))))
    .nil) .nil)
    (.cons (.ifs (.cmp .In (.var 2) (.tup (.cons (.lit (.str "enter")) (.cons (.lit (.str "on")) (.cons (.lit (.str "deeper")) (.cons (.lit (.str "out")) (.cons (.lit (.str "off")) (.cons (.lit (.str "hold")) .nil)))))))) (.cons (.ret (.fn "do_of_reader" (.cons (.var 0) (.cons (.var 2) (.cons (.idx (.var 3) (.lit (.int 0))) (.cons (.idx (.var 3) (.neg (.lit (.int 1)))) .nil))))))
    .nil) .nil)
    (.cons (.ret (.fn "do_of_lane" (.cons (.var 0) (.cons (.var 2) (.cons (.idx (.var 3) (.lit (.int 0))) .nil)))))
    .nil))))))
def i_do_now : FnI := ⟨["core", "deed", "word", "rest"], 2, b_do_now⟩
def b_most_of : Sxs := (.cons (.ifs (.cmp .Eq (.var 1) (.lit (.str "l"))) (.cons (.ret (.met (.var 0) "lanes" .nil))
    .nil) .nil)
    (.cons (.ret (.ite (.cmp .Eq (.var 1) (.lit (.str "r"))) (.cst "READERS") (.cst "THINGS")))
    .nil))
def i_most_of : FnI := ⟨["shape", "sort"], 2, b_most_of⟩
def b_is_number : Sxs := (.cons (.ret (.and (.isi (.var 0) .int) (.and (.not (.isi (.var 0) .bool)) (.chn .LtE .Lt (.lit (.int 0)) (.var 0) (.var 1)))))
    .nil)
def i_is_number : FnI := ⟨["thing", "many"], 2, b_is_number⟩
def b_is_deed : Sxs := (.cons (.ifs (.or (.not (.val (.isi (.var 1) .tuple))) (.or (.cmp .Eq (.bi .len (.cons (.var 1) .nil)) (.lit (.int 0))) (.or (.not (.val (.isi (.idx (.var 1) (.lit (.int 0))) .str))) (.gin true "FORMS" (.idx (.var 1) (.lit (.int 0))))))) (.cons (.ret (.lit (.bl false)))
    .nil) .nil)
    (.cons (.unpS [3] 4 (.var 1))
    (.cons (.asg 2 (.gix "FORMS" (.var 3)))
    (.cons (.ifs (.cmp .NotEq (.bi .len (.cons (.var 4) .nil)) (.bi .len (.cons (.var 2) .nil))) (.cons (.ret (.lit (.bl false)))
    .nil) .nil)
    (.cons (.ret (.bi .all (.cons (.lc (.tp [5, 6]) (.zst (.var 4) (.var 2)) .yes (.fn "is_number" (.cons (.var 5) (.cons (.fn "most_of" (.cons (.var 0) (.cons (.var 6) .nil))) .nil))) [5, 6]) .nil)))
    .nil)))))
def i_is_deed : FnI := ⟨["shape", "thing", "sorts", "word", "rest", "one", "sort"], 2, b_is_deed⟩
def b_can_of_reader : Sxs := (.cons (.asg 3 (.idx (.fld (.var 0) "reader_seats") (.var 2)))
    (.cons (.ifs (.not (.val (.met (.var 3) "is_running" .nil))) (.cons (.ret (.lit (.bl false)))
    .nil) .nil)
    (.cons (.ret (.or (.cmp .NotEq (.var 1) (.lit (.str "deeper"))) (.cmp .Lt (.fld (.var 3) "deep") (.cst "DEEPEST"))))
    .nil)))
def i_can_of_reader : FnI := ⟨["core", "word", "reader", "seat"], 3, b_can_of_reader⟩
def b_can_of_lane : Sxs := (.cons (.asg 3 (.idx (.fld (.var 0) "lane_seats") (.var 2)))
    (.cons (.ifs (.cmp .Eq (.var 1) (.lit (.str "wake"))) (.cons (.ret (.cmp .Eq (.fld (.var 3) "word") (.cst "IDLE")))
    .nil) .nil)
    (.cons (.ifs (.cmp .Eq (.var 1) (.lit (.str "come"))) (.cons (.ret (.cmp .Eq (.fld (.var 3) "word") (.cst "GONE")))
    .nil) .nil)
    (.cons (.ifs (.cmp .Eq (.var 1) (.lit (.str "go"))) (.cons (.ret (.and (.met (.var 3) "is_free" .nil) (.cmp .NotEq (.met (.var 0) "others_here" (.cons (.var 2) .nil)) (.lst .nil))))
    .nil) .nil)
    (.cons (.ifs (.cmp .In (.var 1) (.tup (.cons (.lit (.str "idle")) (.cons (.lit (.str "pass")) .nil)))) (.cons (.ret (.met (.var 3) "is_free" .nil))
    .nil) .nil)
    (.cons (.ret (.cmp .Eq (.fld (.var 3) "word") (.cst "AWAKE")))
    .nil))))))
def i_can_of_lane : FnI := ⟨["core", "word", "lane", "seat"], 3, b_can_of_lane⟩
def b_can_now : Sxs := (.cons (.unpS [2] 5 (.var 1))
    (.cons (.ifs (.cmp .Eq (.var 5) (.lst .nil)) (.cons (.ret (.lit (.bl true)))
    .nil) .nil)
    (.cons (.par [3, 4] (.cons (.idx (.var 5) (.lit (.int 0))) (.cons (.idx (.var 5) (.neg (.lit (.int 1)))) .nil)))
    (.cons (.ifs (.cmp .Eq (.var 2) (.lit (.str "enter"))) (.cons (.ret (.and (.cmp .Eq (.fld (.idx (.fld (.var 0) "reader_seats") (.var 3)) "deep") (.lit (.int 0))) (.met (.idx (.fld (.var 0) "lane_seats") (.var 4)) "is_free" .nil)))
    .nil) .nil)
    (.cons (.ifs (.cmp .Eq (.var 2) (.lit (.str "on"))) (.cons (.ret (.and (.met (.idx (.fld (.var 0) "reader_seats") (.var 3)) "is_off" .nil) (.met (.idx (.fld (.var 0) "lane_seats") (.var 4)) "is_free" .nil)))
    .nil) .nil)
    (.cons (.ifs (.cmp .Eq (.var 2) (.lit (.str "hold"))) (.cons (.ret (.and (.met (.idx (.fld (.var 0) "reader_seats") (.var 3)) "is_running" .nil) (.cmp .In (.var 4) (.fld (.var 0) "things_in"))))
    .nil) .nil)
    (.cons (.ifs (.cmp .In (.var 2) (.tup (.cons (.lit (.str "drop")) (.cons (.lit (.str "swift")) .nil)))) (.cons (.ret (.and (.cmp .Eq (.fld (.idx (.fld (.var 0) "lane_seats") (.var 3)) "word") (.cst "AWAKE")) (.cmp .In (.var 4) (.fld (.var 0) "things_in"))))
    .nil) .nil)
    (.cons (.ifs (.cmp .Eq (.var 2) (.lit (.str "put"))) (.cons (.ret (.cmp .In (.var 3) (.fld (.var 0) "things_gone")))
    .nil) .nil)
    (.cons (.ifs (.cmp .In (.var 2) (.tup (.cons (.lit (.str "deeper")) (.cons (.lit (.str "out")) (.cons (.lit (.str "off")) .nil))))) (.cons (.ret (.fn "can_of_reader" (.cons (.var 0) (.cons (.var 2) (.cons (.var 3) .nil)))))
    .nil) .nil)
    (.cons (.ret (.fn "can_of_lane" (.cons (.var 0) (.cons (.var 2) (.cons (.var 3) .nil)))))
    .nil))))))))))
def i_can_now : FnI := ⟨["core", "deed", "word", "first", "second", "rest"], 2, b_can_now⟩
def b_look_at_shape : Sxs := (.cons (.ifs (.not (.val (.isx (.var 0) "Shape"))) (.cons .never
    .nil) .nil)
    .nil)
def i_look_at_shape : FnI := ⟨["thing"], 1, b_look_at_shape⟩
def b_look_at_rules : Sxs := (.cons (.ifs (.not (.val (.isi2 (.var 0) .list .tuple))) (.cons .never
    .nil) .nil)
    (.cons (.forS (.nm 1) (.val (.var 0)) (.cons (.ifs (.or (.not (.val (.isi (.var 1) .str))) (.cmp .NotIn (.var 1) (.cst "RULES"))) (.cons .never
    .nil) .nil)
    .nil))
    .nil))
def i_look_at_rules : FnI := ⟨["thing", "rule"], 1, b_look_at_rules⟩
def b_Weave_init__ : Sxs := (.cons (.exp (.fn "look_at_shape" (.cons (.var 1) .nil)))
    (.cons (.ifs (.and (.cmp .IsNot (.var 2) (.lit .non)) (.not (.val .nev))) (.cons .never
    .nil) .nil)
    (.cons (.exp (.fn "look_at_rules" (.cons (.var 3) .nil)))
    (.cons (.setF (.var 0) "left_out" (.bi .tuple (.cons (.bi .sorted (.cons (.dc (.nm 4) (.val (.var 3)) .yes (.var 4) (.lit (.bl true)) [4]) .nil)) .nil)))
    (.cons (.setF (.var 0) "core" (.ite (.cmp .Is (.var 2) (.lit .non)) (.mkC "Core" [] (.cons (.var 1) (.cons (.fld (.var 0) "left_out") .nil))) .nev))
    (.cons (.setF (.var 0) "own_log" (.lst .nil))
    .nil))))))
def i_Weave_init__ : FnI := ⟨["self", "shape", "stand", "without", "rule"], 4, b_Weave_init__⟩
def b_Weave_can : Sxs := (.cons (.ret (.and (.fn "is_deed" (.cons (.fld (.fld (.var 0) "core") "own_shape") (.cons (.var 1) .nil))) (.fn "can_now" (.cons (.fld (.var 0) "core") (.cons (.var 1) .nil)))))
    .nil)
def i_Weave_can : FnI := ⟨["self", "thing"], 2, b_Weave_can⟩
def b_Weave_do : Sxs := (.cons (.ifs (.not (.val (.met (.var 0) "can" (.cons (.var 1) .nil)))) (.cons .never
    .nil) .nil)
    (.cons (.exp (.bm .append (.fld (.var 0) "own_log") (.cons (.var 1) .nil)))
    (.cons (.ret (.fn "do_now" (.cons (.fld (.var 0) "core") (.cons (.var 1) .nil))))
    .nil)))
def i_Weave_do : FnI := ⟨["self", "deed"], 2, b_Weave_do⟩
def b_Weave_now : Sxs := (.cons (.ret (.bi .tuple (.cons (.fld (.fld (.var 0) "core") "numbers") .nil)))
    .nil)
def i_Weave_now : FnI := ⟨["self"], 1, b_Weave_now⟩
def b_Weave_wanted : Sxs := (.cons (.ret (.bi .tuple (.cons (.fld (.fld (.var 0) "core") "wanted_by") .nil)))
    .nil)
def i_Weave_wanted : FnI := ⟨["self"], 1, b_Weave_wanted⟩
def b_Weave_node : Sxs := (.cons (.ifs (.not (.val (.fn "is_number" (.cons (.var 1) (.cons (.met (.fld (.fld (.var 0) "core") "own_shape") "nodes" .nil) .nil))))) (.cons .never
    .nil) .nil)
    (.cons (.asg 2 (.idx (.fld (.fld (.var 0) "core") "node_seats") (.var 1)))
    (.cons (.ret (.tup (.cons (.bi .sorted (.cons (.fld (.var 2) "bits") .nil)) (.cons (.bi .list (.cons (.fld (.var 2) "listed") .nil)) (.cons (.bi .sorted (.cons (.fld (.var 2) "held") .nil)) .nil)))))
    .nil)))
def i_Weave_node : FnI := ⟨["self", "node", "seat"], 2, b_Weave_node⟩
def b_law_rows : Sxs := (.cons (.asg 0 (.lst (.cons (.tup (.cons (.lit (.str "ask")) .nil)) (.cons (.tup (.cons (.lit (.str "keep")) .nil)) (.cons (.tup (.cons (.lit (.str "keep")) .nil)) .nil)))))
    (.cons (.asg 1 (.lst (.cons (.tup (.cons (.lit (.str "enter")) (.cons (.lit (.int 0)) (.cons (.lit (.int 0)) .nil)))) (.cons (.tup (.cons (.lit (.str "off")) (.cons (.lit (.int 0)) .nil))) .nil))))
    (.cons (.asg 2 (.lst (.cons (.tup (.cons (.lit (.str "look")) (.cons (.lit (.int 0)) .nil))) (.cons (.tup (.cons (.lit (.str "pass")) (.cons (.lit (.int 0)) .nil))) (.cons (.tup (.cons (.lit (.str "tell")) (.cons (.lit (.int 0)) .nil))) (.cons (.tup (.cons (.lit (.str "keep")) .nil)) .nil))))))
    (.cons (.asg 3 (.dsp (.cons (.lit (.str "look")) (.op .Add (.op .Add (.lst (.cons (.tup (.cons (.lit (.str "pass")) (.cons (.lit (.int 0)) .nil))) .nil)) (.var 0)) (.lst (.cons (.tup (.cons (.lit (.str "look")) (.cons (.lit (.int 0)) .nil))) (.cons (.tup (.cons (.lit (.str "tell")) (.cons (.lit (.int 0)) .nil))) .nil)))) (.cons (.lit (.str "list")) (.var 1) (.cons (.lit (.str "held")) (.op .Add (.var 1) (.var 0)) .nil)))))
    (.cons (.setI (.var 3) (.lit (.str "late")) (.op .Add (.op .Add (.lst (.cons (.tup (.cons (.lit (.str "enter")) (.cons (.lit (.int 0)) (.cons (.lit (.int 0)) .nil)))) .nil)) (.var 0)) (.lst (.cons (.tup (.cons (.lit (.str "off")) (.cons (.lit (.int 0)) .nil))) .nil))))
    (.cons (.setI (.var 3) (.lit (.str "idle")) (.op .Add (.var 0) (.lst (.cons (.tup (.cons (.lit (.str "keep")) .nil)) .nil))))
    (.cons (.setI (.var 3) (.lit (.str "whole")) (.lst (.cons (.tup (.cons (.lit (.str "ask")) .nil)) (.cons (.tup (.cons (.lit (.str "keep")) .nil)) (.cons (.tup (.cons (.lit (.str "ask")) .nil)) (.cons (.tup (.cons (.lit (.str "drop")) (.cons (.lit (.int 0)) (.cons (.lit (.int 5)) .nil)))) .nil))))))
    (.cons (.setI (.var 3) (.lit (.str "wait")) (.op .Add (.op .Add (.var 1) (.var 0)) (.var 2)))
    (.cons (.setI (.var 3) (.lit (.str "order")) (.lst (.cons (.tup (.cons (.lit (.str "ask")) .nil)) (.cons (.tup (.cons (.lit (.str "keep")) .nil)) (.cons (.tup (.cons (.lit (.str "keep")) .nil)) (.cons (.tup (.cons (.lit (.str "keep")) .nil)) .nil))))))
    (.cons (.setI (.var 3) (.lit (.str "asked")) (.op .Add (.var 1) (.lst (.cons (.tup (.cons (.lit (.str "hurry")) .nil)) (.cons (.tup (.cons (.lit (.str "rush")) .nil)) (.cons (.tup (.cons (.lit (.str "rush")) .nil)) .nil))))))
    (.cons (.ret (.var 3))
    .nil)))))))))))
def i_law_rows : FnI := ⟨["_law_opened", "_law_broken", "_law_quiet", "_law_found"], 0, b_law_rows⟩
def b_law_told : Sxs := (.cons (.asg 2 (.mkC "Weave" ["without"] (.cons (.mkC "Shape" [] (.cons (.lit (.int 1)) .nil)) (.cons (.var 1) .nil))))
    (.cons (.asg 3 (.lit .non))
    (.cons (.asg 4 (.lst .nil))
    (.cons (.forS (.nm 5) (.val (.idx (.fn "_law_rows" .nil) (.var 0))) (.cons (.asg 3 (.met (.var 2) "do" (.cons (.var 5) .nil)))
    (.cons (.exp (.bm .append (.var 4) (.cons (.idx (.met (.var 2) "now" .nil) (.lit (.int 0))) .nil)))
    .nil)))
    (.cons (.ret (.lst (.cons (.var 3) (.cons (.met (.var 2) "node" (.cons (.lit (.int 0)) .nil)) (.cons (.var 4) (.cons (.idx (.met (.var 2) "wanted" .nil) (.lit (.int 0))) .nil))))))
    .nil)))))
def i_law_told : FnI := ⟨["_law_rule", "_law_left", "_law_weave", "_law_told_here", "_law_numbers", "_law_deed"], 2, b_law_told⟩
def b_law_due : Sxs := (.cons (.asg 0 (.dsp (.cons (.lit (.str "look")) (.lst (.cons (.lit (.bl false)) (.cons (.tup (.cons (.lst (.cons (.lit (.int 0)) .nil)) (.cons (.lst .nil) (.cons (.lst .nil) .nil)))) (.cons (.lst (.cons (.lit (.int 0)) (.cons (.lit (.int 0)) (.cons (.lit (.int 1)) (.cons (.lit (.int 1)) (.cons (.lit (.int 1)) (.cons (.lit (.int 1)) .nil))))))) (.cons (.lit (.int 2)) .nil))))) (.cons (.lit (.str "list")) (.lst (.cons (.lit .non) (.cons (.tup (.cons (.lst .nil) (.cons (.lst (.cons (.lit (.int 0)) .nil)) (.cons (.lst .nil) .nil)))) (.cons (.lst (.cons (.lit (.int 0)) (.cons (.lit (.int 0)) .nil))) (.cons (.lit (.int 0)) .nil))))) .nil))))
    (.cons (.setI (.var 0) (.lit (.str "held")) (.lst (.cons (.tup (.cons (.lit (.str "open")) (.cons (.lit (.int 0)) .nil))) (.cons (.tup (.cons (.lst (.cons (.lit (.int 0)) .nil)) (.cons (.lst (.cons (.lit (.int 0)) .nil)) (.cons (.lst (.cons (.lit (.int 0)) .nil)) .nil)))) (.cons (.lst (.cons (.lit (.int 0)) (.cons (.lit (.int 0)) (.cons (.lit (.int 0)) (.cons (.lit (.int 1)) (.cons (.lit (.int 1)) .nil)))))) (.cons (.lit (.int 2)) .nil))))))
    (.cons (.setI (.var 0) (.lit (.str "late")) (.lst (.cons (.lit .non) (.cons (.tup (.cons (.lst (.cons (.lit (.int 0)) .nil)) (.cons (.lst (.cons (.lit (.int 0)) .nil)) (.cons (.lst (.cons (.lit (.int 0)) .nil)) .nil)))) (.cons (.lst (.cons (.lit (.int 0)) (.cons (.lit (.int 0)) (.cons (.lit (.int 1)) (.cons (.lit (.int 1)) (.cons (.lit (.int 1)) .nil)))))) (.cons (.lit (.int 2)) .nil))))))
    (.cons (.setI (.var 0) (.lit (.str "idle")) (.lst (.cons (.tup (.cons (.lit (.str "seek")) (.cons (.lit (.int 0)) (.cons (.lst .nil) .nil)))) (.cons (.tup (.cons (.lst (.cons (.lit (.int 0)) .nil)) (.cons (.lst .nil) (.cons (.lst .nil) .nil)))) (.cons (.lst (.cons (.lit (.int 0)) (.cons (.lit (.int 1)) (.cons (.lit (.int 1)) (.cons (.lit (.int 1)) .nil))))) (.cons (.lit (.int 2)) .nil))))))
    (.cons (.setI (.var 0) (.lit (.str "whole")) (.lst (.cons (.lit (.int 4)) (.cons (.tup (.cons (.lst .nil) (.cons (.lst .nil) (.cons (.lst .nil) .nil)))) (.cons (.lst (.cons (.lit (.int 0)) (.cons (.lit (.int 1)) (.cons (.lit (.int 1)) (.cons (.lit (.int 1)) .nil))))) (.cons (.lit (.int 4)) .nil))))))
    (.cons (.setI (.var 0) (.lit (.str "wait")) (.lst (.cons (.tup (.cons (.lit (.str "seek")) (.cons (.lit (.int 0)) (.cons (.lst .nil) .nil)))) (.cons (.tup (.cons (.lst .nil) (.cons (.lst (.cons (.lit (.int 0)) .nil)) (.cons (.lst (.cons (.lit (.int 0)) .nil)) .nil)))) (.cons (.lst (.cons (.lit (.int 0)) (.cons (.lit (.int 0)) (.cons (.lit (.int 0)) (.cons (.lit (.int 1)) (.cons (.lit (.int 1)) (.cons (.lit (.int 1)) (.cons (.lit (.int 1)) (.cons (.lit (.int 1)) (.cons (.lit (.int 1)) .nil)))))))))) (.cons (.lit (.int 2)) .nil))))))
    (.cons (.setI (.var 0) (.lit (.str "order")) (.lst (.cons (.tup (.cons (.lit (.str "seek")) (.cons (.lit (.int 0)) (.cons (.lst .nil) .nil)))) (.cons (.tup (.cons (.lst (.cons (.lit (.int 0)) .nil)) (.cons (.lst .nil) (.cons (.lst .nil) .nil)))) (.cons (.lst (.cons (.lit (.int 0)) (.cons (.lit (.int 1)) (.cons (.lit (.int 1)) (.cons (.lit (.int 1)) .nil))))) (.cons (.lit (.int 2)) .nil))))))
    (.cons (.setI (.var 0) (.lit (.str "asked")) (.lst (.cons (.tup (.cons (.lit (.str "ask")) (.cons (.lit (.int 0)) (.cons (.lst (.cons (.lit (.int 0)) .nil)) .nil)))) (.cons (.tup (.cons (.lst .nil) (.cons (.lst (.cons (.lit (.int 0)) .nil)) (.cons (.lst .nil) .nil)))) (.cons (.lst (.cons (.lit (.int 0)) (.cons (.lit (.int 0)) (.cons (.lit (.int 0)) (.cons (.lit (.int 0)) (.cons (.lit (.int 0)) .nil)))))) (.cons (.lit (.int 0)) .nil))))))
    (.cons (.ret (.var 0))
    .nil)))))))))
def i_law_due : FnI := ⟨["_law_found"], 0, b_law_due⟩
def b_law_left_out : Sxs := (.cons (.asg 0 (.dsp (.cons (.lit (.str "look")) (.lst (.cons (.lit (.bl true)) (.cons (.tup (.cons (.lst .nil) (.cons (.lst .nil) (.cons (.lst .nil) .nil)))) (.cons (.lst (.cons (.lit (.int 0)) (.cons (.lit (.int 0)) (.cons (.lit (.int 1)) (.cons (.lit (.int 1)) (.cons (.lit (.int 1)) (.cons (.lit (.int 1)) .nil))))))) (.cons (.lit (.int 2)) .nil))))) (.cons (.lit (.str "list")) (.lst (.cons (.lit .non) (.cons (.tup (.cons (.lst .nil) (.cons (.lst .nil) (.cons (.lst .nil) .nil)))) (.cons (.lst (.cons (.lit (.int 0)) (.cons (.lit (.int 0)) .nil))) (.cons (.lit (.int 0)) .nil))))) .nil))))
    (.cons (.setI (.var 0) (.lit (.str "held")) (.lst (.cons (.tup (.cons (.lit (.str "open")) (.cons (.lit (.int 0)) .nil))) (.cons (.tup (.cons (.lst (.cons (.lit (.int 0)) .nil)) (.cons (.lst (.cons (.lit (.int 0)) .nil)) (.cons (.lst .nil) .nil)))) (.cons (.lst (.cons (.lit (.int 0)) (.cons (.lit (.int 0)) (.cons (.lit (.int 0)) (.cons (.lit (.int 1)) (.cons (.lit (.int 1)) .nil)))))) (.cons (.lit (.int 2)) .nil))))))
    (.cons (.setI (.var 0) (.lit (.str "late")) (.lst (.cons (.lit .non) (.cons (.tup (.cons (.lst (.cons (.lit (.int 0)) .nil)) (.cons (.lst (.cons (.lit (.int 0)) .nil)) (.cons (.lst .nil) .nil)))) (.cons (.lst (.cons (.lit (.int 0)) (.cons (.lit (.int 0)) (.cons (.lit (.int 1)) (.cons (.lit (.int 1)) (.cons (.lit (.int 1)) .nil)))))) (.cons (.lit (.int 2)) .nil))))))
    (.cons (.setI (.var 0) (.lit (.str "idle")) (.lst (.cons (.tup (.cons (.lit (.str "seek")) (.cons (.lit (.int 0)) (.cons (.lst (.cons (.lit (.int 0)) .nil)) .nil)))) (.cons (.tup (.cons (.lst .nil) (.cons (.lst .nil) (.cons (.lst .nil) .nil)))) (.cons (.lst (.cons (.lit (.int 0)) (.cons (.lit (.int 1)) (.cons (.lit (.int 1)) (.cons (.lit (.int 1)) .nil))))) (.cons (.lit (.int 2)) .nil))))))
    (.cons (.setI (.var 0) (.lit (.str "whole")) (.lst (.cons (.lit (.int 2)) (.cons (.tup (.cons (.lst .nil) (.cons (.lst .nil) (.cons (.lst .nil) .nil)))) (.cons (.lst (.cons (.lit (.int 0)) (.cons (.lit (.int 1)) (.cons (.lit (.int 1)) (.cons (.lit (.int 1)) .nil))))) (.cons (.lit (.int 2)) .nil))))))
    (.cons (.setI (.var 0) (.lit (.str "wait")) (.lst (.cons (.tup (.cons (.lit (.str "close")) (.cons (.lit (.int 0)) .nil))) (.cons (.tup (.cons (.lst .nil) (.cons (.lst (.cons (.lit (.int 0)) .nil)) (.cons (.lst (.cons (.lit (.int 0)) .nil)) .nil)))) (.cons (.lst (.cons (.lit (.int 0)) (.cons (.lit (.int 0)) (.cons (.lit (.int 0)) (.cons (.lit (.int 1)) (.cons (.lit (.int 1)) (.cons (.lit (.int 1)) (.cons (.lit (.int 1)) (.cons (.lit (.int 1)) (.cons (.lit (.int 1)) .nil)))))))))) (.cons (.lit (.int 2)) .nil))))))
    (.cons (.setI (.var 0) (.lit (.str "order")) (.lst (.cons (.tup (.cons (.lit (.str "seek")) (.cons (.lit (.int 0)) (.cons (.lst .nil) .nil)))) (.cons (.tup (.cons (.lst (.cons (.lit (.int 0)) .nil)) (.cons (.lst .nil) (.cons (.lst .nil) .nil)))) (.cons (.lst (.cons (.lit (.int 0)) (.cons (.lit (.int 0)) (.cons (.lit (.int 1)) (.cons (.lit (.int 1)) .nil))))) (.cons (.lit (.int 2)) .nil))))))
    (.cons (.setI (.var 0) (.lit (.str "asked")) (.lst (.cons (.tup (.cons (.lit (.str "ask")) (.cons (.lit (.int 0)) (.cons (.lst .nil) .nil)))) (.cons (.tup (.cons (.lst .nil) (.cons (.lst (.cons (.lit (.int 0)) .nil)) (.cons (.lst .nil) .nil)))) (.cons (.lst (.cons (.lit (.int 0)) (.cons (.lit (.int 0)) (.cons (.lit (.int 0)) (.cons (.lit (.int 0)) (.cons (.lit (.int 0)) .nil)))))) (.cons (.lit (.int 0)) .nil))))))
    (.cons (.ret (.var 0))
    .nil)))))))))
def i_law_left_out : FnI := ⟨["_law_found"], 0, b_law_left_out⟩
def b_law : Sxs := (.cons (.asg 1 (.lst (.cons (.lit (.str "look")) (.cons (.lit (.str "list")) (.cons (.lit (.str "held")) (.cons (.lit (.str "late")) (.cons (.lit (.str "idle")) (.cons (.lit (.str "whole")) (.cons (.lit (.str "wait")) (.cons (.lit (.str "order")) (.cons (.lit (.str "asked")) .nil)))))))))))
    (.cons (.asg 2 (.op .Mod (.bi .abs (.cons (.idx (.op .Add (.var 0) (.lst (.cons (.lit (.int 0)) .nil))) (.lit (.int 0))) .nil)) (.lit (.int 9))))
    (.cons (.forS (.nm 3) (.val (.op .Add (.slc (.var 1) (.some (.var 2)) .none) (.slc (.var 1) .none (.some (.var 2))))) (.cons (.forS (.nm 5) (.val (.lst (.cons (.tup .nil) (.cons (.lst .nil) .nil)))) (.cons (.ifs (.cmp .NotEq (.bi .repr (.cons (.fn "_law_told" (.cons (.var 3) (.cons (.var 5) .nil))) .nil)) (.bi .repr (.cons (.idx (.fn "_law_due" .nil) (.var 3)) .nil))) (.cons (.ret (.lit (.bl false)))
    .nil) .nil)
    .nil))
    (.cons (.forS (.nm 5) (.val (.lst (.cons (.tup (.cons (.var 3) .nil)) (.cons (.lst (.cons (.var 3) .nil)) .nil)))) (.cons (.ifs (.cmp .NotEq (.bi .repr (.cons (.fn "_law_told" (.cons (.var 3) (.cons (.var 5) .nil))) .nil)) (.bi .repr (.cons (.idx (.fn "_law_left_out" .nil) (.var 3)) .nil))) (.cons (.ret (.lit (.bl false)))
    .nil) .nil)
    .nil))
    .nil)))
    (.cons (.asg 4 (.lst (.cons (.tup (.cons (.lit (.str "held")) (.cons (.lit (.str "asked")) .nil))) (.cons (.tup (.cons (.lit (.str "whole")) (.cons (.lit (.str "look")) .nil))) (.cons (.tup (.cons (.lit (.str "order")) (.cons (.lit (.str "list")) .nil))) .nil)))))
    (.cons (.unp [6, 7] (.idx (.var 4) (.op .Mod (.var 2) (.lit (.int 3)))))
    (.cons (.ret (.cmp .Eq (.bi .repr (.cons (.fn "_law_told" (.cons (.var 6) (.cons (.lst (.cons (.var 7) (.cons (.var 6) .nil))) .nil))) .nil)) (.bi .repr (.cons (.idx (.fn "_law_left_out" .nil) (.var 6)) .nil))))
    .nil))))))
def i_law : FnI := ⟨["_law_script", "_law_names", "_law_at", "_law_rule", "_law_both", "_law_left", "_law_one", "_law_other"], 1, b_law⟩
def kinds : List (Str × Gk) := (("law", .fn) :: ("repr", .bi .repr) :: ("_law_told", .fn) :: ("_law_left_out", .fn) :: ("_law_due", .fn) :: ("abs", .bi .abs) :: ("_law_rows", .fn) :: ("Weave", .ocl) :: ("Shape", .ocl) :: ("tuple", .bi .tuple) :: ("sorted", .bi .sorted) :: ("list", .bi .list) :: ("is_number", .fn) :: ("do_now", .fn) :: ("Core", .ocl) :: ("core_of", .dead) :: ("look_at_rules", .fn) :: ("is_stand", .dead) :: ("look_at_shape", .fn) :: ("halves_up", .fn) :: ("is_within", .fn) :: ("MOST_FAN", .cst) :: ("LEAST_FAN", .cst) :: ("MOST_LANES", .cst) :: ("isinstance", .isi) :: ("bool", .bi .bool) :: ("int", .bi .int) :: ("sum", .bi .sum) :: ("do_of_lane", .fn) :: ("do_of_reader", .fn) :: ("drop_thing", .fn) :: ("do_alone", .fn) :: ("can_now", .fn) :: ("is_deed", .fn) :: ("THINGS", .cst) :: ("NodeSeat", .ocl) :: ("READERS", .cst) :: ("ReaderSeat", .ocl) :: ("LaneSeat", .ocl) :: ("RULES", .cst) :: ("str", .bi .str) :: ("AWAKE", .cst) :: ("come_back", .fn) :: ("IDLE", .cst) :: ("GONE", .cst) :: ("move_calls", .dead) :: ("run_calls", .dead) :: ("tell_leaf", .fn) :: ("look_at_leaf", .fn) :: ("enter_lane", .fn) :: ("go_on", .fn) :: ("come_out", .fn) :: ("break_off", .fn) :: ("SWIFT", .cst) :: ("PLAIN", .cst) :: ("rush_step", .fn) :: ("keep_step", .fn) :: ("can_of_lane", .fn) :: ("can_of_reader", .fn) :: ("all", .bi .all) :: ("most_of", .fn) :: ("len", .bi .len) :: ("FORMS", .dct) :: ("max", .bi .max) :: ("ask_leaf", .fn) :: ("close_next", .fn) :: ("seek_next", .fn) :: ("open_next", .fn) :: ("open_early", .fn) :: ("is_under_way", .fn) :: ("begin_one", .fn) :: ("DEEPEST", .cst) :: ("due_of", .fn) :: ("entered_ahead", .fn) :: ("open_leaf", .fn) :: ("opened_number", .fn) :: ("look_at_number", .fn) :: ("min", .bi .min) :: [])
def gl (x : Str) : Gk := (kinds.lookup x).getD .no
def tab : List (Str × FnI) := (("LaneSeat.__init__", i_LaneSeat_init__) :: ("LaneSeat.is_free", i_LaneSeat_is_free) :: ("ReaderSeat.__init__", i_ReaderSeat_init__) :: ("ReaderSeat.is_running", i_ReaderSeat_is_running) :: ("ReaderSeat.is_off", i_ReaderSeat_is_off) :: ("ReaderSeat.leave", i_ReaderSeat_leave) :: ("NodeSeat.__init__", i_NodeSeat_init__) :: ("NodeSeat.is_quiet", i_NodeSeat_is_quiet) :: ("is_within", i_is_within) :: ("halves_up", i_halves_up) :: ("Shape.__init__", i_Shape_init__) :: ("Shape.lanes", i_Shape_lanes) :: ("Shape.nodes", i_Shape_nodes) :: ("Shape.first_of", i_Shape_first_of) :: ("Shape.leaves", i_Shape_leaves) :: ("Shape.leaf_of", i_Shape_leaf_of) :: ("Shape.seat_of", i_Shape_seat_of) :: ("Shape.parent_of", i_Shape_parent_of) :: ("Shape.beneath", i_Shape_beneath) :: ("look_at_number", i_look_at_number) :: ("due_of", i_due_of) :: ("Core.__init__", i_Core_init__) :: ("Core.lacks", i_Core_lacks) :: ("Core.goes_on", i_Core_goes_on) :: ("Core.leaf", i_Core_leaf) :: ("Core.due", i_Core_due) :: ("Core.ask", i_Core_ask) :: ("Core.is_old", i_Core_is_old) :: ("Core.is_here", i_Core_is_here) :: ("Core.others_here", i_Core_others_here) :: ("Core.is_quiet", i_Core_is_quiet) :: ("Core.tell_up", i_Core_tell_up) :: ("Core.clear", i_Core_clear) :: ("Core.list_at", i_Core_list_at) :: ("Core.unlist", i_Core_unlist) :: ("Core.stop", i_Core_stop) :: ("Core.is_stopped", i_Core_is_stopped) :: ("opened_number", i_opened_number) :: ("is_under_way", i_is_under_way) :: ("open_leaf", i_open_leaf) :: ("open_next", i_open_next) :: ("seek_next", i_seek_next) :: ("close_next", i_close_next) :: ("begin_one", i_begin_one) :: ("open_early", i_open_early) :: ("keep_step", i_keep_step) :: ("entered_ahead", i_entered_ahead) :: ("ask_leaf", i_ask_leaf) :: ("rush_step", i_rush_step) :: ("enter_lane", i_enter_lane) :: ("come_out", i_come_out) :: ("break_off", i_break_off) :: ("go_on", i_go_on) :: ("do_of_reader", i_do_of_reader) :: ("look_at_leaf", i_look_at_leaf) :: ("tell_leaf", i_tell_leaf) :: ("come_back", i_come_back) :: ("do_of_lane", i_do_of_lane) :: ("drop_thing", i_drop_thing) :: ("do_alone", i_do_alone) :: ("do_now", i_do_now) :: ("most_of", i_most_of) :: ("is_number", i_is_number) :: ("is_deed", i_is_deed) :: ("can_of_reader", i_can_of_reader) :: ("can_of_lane", i_can_of_lane) :: ("can_now", i_can_now) :: ("look_at_shape", i_look_at_shape) :: ("look_at_rules", i_look_at_rules) :: ("Weave.__init__", i_Weave_init__) :: ("Weave.can", i_Weave_can) :: ("Weave.do", i_Weave_do) :: ("Weave.now", i_Weave_now) :: ("Weave.wanted", i_Weave_wanted) :: ("Weave.node", i_Weave_node) :: ("_law_rows", i_law_rows) :: ("_law_told", i_law_told) :: ("_law_due", i_law_due) :: ("_law_left_out", i_law_left_out) :: ("law", i_law) :: [])
def T (x : Str) : Option FnI := lookK x tab
theorem t_LaneSeat_init__ : T "LaneSeat.__init__" = some i_LaneSeat_init__ := by kernel_rfl
theorem u_LaneSeat_init__ {S : Stat} {n : Nat} {H : Hp} {Q : VK} {E : XK} {a0 : V} (h : wSs S (sem S T n) (fun c d _ H1 => E c d H1) b_LaneSeat_init__ { nx := fun _ H1 => Q .non H1, rt := Q } [some a0] H) : (sem S T (n + 1)).fn "LaneSeat.__init__" [a0] H Q E := by
  unfold sem
  simp only [t_LaneSeat_init__]
  exact ⟨rfl, h⟩
theorem t_LaneSeat_is_free : T "LaneSeat.is_free" = some i_LaneSeat_is_free := by kernel_rfl
theorem u_LaneSeat_is_free {S : Stat} {n : Nat} {H : Hp} {Q : VK} {E : XK} {a0 : V} (h : wSs S (sem S T n) (fun c d _ H1 => E c d H1) b_LaneSeat_is_free { nx := fun _ H1 => Q .non H1, rt := Q } [some a0] H) : (sem S T (n + 1)).fn "LaneSeat.is_free" [a0] H Q E := by
  unfold sem
  simp only [t_LaneSeat_is_free]
  exact ⟨rfl, h⟩
theorem t_ReaderSeat_init__ : T "ReaderSeat.__init__" = some i_ReaderSeat_init__ := by kernel_rfl
theorem u_ReaderSeat_init__ {S : Stat} {n : Nat} {H : Hp} {Q : VK} {E : XK} {a0 : V} (h : wSs S (sem S T n) (fun c d _ H1 => E c d H1) b_ReaderSeat_init__ { nx := fun _ H1 => Q .non H1, rt := Q } [some a0] H) : (sem S T (n + 1)).fn "ReaderSeat.__init__" [a0] H Q E := by
  unfold sem
  simp only [t_ReaderSeat_init__]
  exact ⟨rfl, h⟩
theorem t_ReaderSeat_is_running : T "ReaderSeat.is_running" = some i_ReaderSeat_is_running := by kernel_rfl
theorem u_ReaderSeat_is_running {S : Stat} {n : Nat} {H : Hp} {Q : VK} {E : XK} {a0 : V} (h : wSs S (sem S T n) (fun c d _ H1 => E c d H1) b_ReaderSeat_is_running { nx := fun _ H1 => Q .non H1, rt := Q } [some a0] H) : (sem S T (n + 1)).fn "ReaderSeat.is_running" [a0] H Q E := by
  unfold sem
  simp only [t_ReaderSeat_is_running]
  exact ⟨rfl, h⟩
theorem t_ReaderSeat_is_off : T "ReaderSeat.is_off" = some i_ReaderSeat_is_off := by kernel_rfl
theorem u_ReaderSeat_is_off {S : Stat} {n : Nat} {H : Hp} {Q : VK} {E : XK} {a0 : V} (h : wSs S (sem S T n) (fun c d _ H1 => E c d H1) b_ReaderSeat_is_off { nx := fun _ H1 => Q .non H1, rt := Q } [some a0] H) : (sem S T (n + 1)).fn "ReaderSeat.is_off" [a0] H Q E := by
  unfold sem
  simp only [t_ReaderSeat_is_off]
  exact ⟨rfl, h⟩
theorem t_ReaderSeat_leave : T "ReaderSeat.leave" = some i_ReaderSeat_leave := by kernel_rfl
theorem u_ReaderSeat_leave {S : Stat} {n : Nat} {H : Hp} {Q : VK} {E : XK} {a0 : V} (h : wSs S (sem S T n) (fun c d _ H1 => E c d H1) b_ReaderSeat_leave { nx := fun _ H1 => Q .non H1, rt := Q } [some a0] H) : (sem S T (n + 1)).fn "ReaderSeat.leave" [a0] H Q E := by
  unfold sem
  simp only [t_ReaderSeat_leave]
  exact ⟨rfl, h⟩
theorem t_NodeSeat_init__ : T "NodeSeat.__init__" = some i_NodeSeat_init__ := by kernel_rfl
theorem u_NodeSeat_init__ {S : Stat} {n : Nat} {H : Hp} {Q : VK} {E : XK} {a0 : V} (h : wSs S (sem S T n) (fun c d _ H1 => E c d H1) b_NodeSeat_init__ { nx := fun _ H1 => Q .non H1, rt := Q } [some a0] H) : (sem S T (n + 1)).fn "NodeSeat.__init__" [a0] H Q E := by
  unfold sem
  simp only [t_NodeSeat_init__]
  exact ⟨rfl, h⟩
theorem t_NodeSeat_is_quiet : T "NodeSeat.is_quiet" = some i_NodeSeat_is_quiet := by kernel_rfl
theorem u_NodeSeat_is_quiet {S : Stat} {n : Nat} {H : Hp} {Q : VK} {E : XK} {a0 : V} (h : wSs S (sem S T n) (fun c d _ H1 => E c d H1) b_NodeSeat_is_quiet { nx := fun _ H1 => Q .non H1, rt := Q } [some a0] H) : (sem S T (n + 1)).fn "NodeSeat.is_quiet" [a0] H Q E := by
  unfold sem
  simp only [t_NodeSeat_is_quiet]
  exact ⟨rfl, h⟩
theorem t_is_within : T "is_within" = some i_is_within := by kernel_rfl
theorem u_is_within {S : Stat} {n : Nat} {H : Hp} {Q : VK} {E : XK} {a0 a1 a2 : V} (h : wSs S (sem S T n) (fun c d _ H1 => E c d H1) b_is_within { nx := fun _ H1 => Q .non H1, rt := Q } [some a0, some a1, some a2] H) : (sem S T (n + 1)).fn "is_within" [a0, a1, a2] H Q E := by
  unfold sem
  simp only [t_is_within]
  exact ⟨rfl, h⟩
theorem t_halves_up : T "halves_up" = some i_halves_up := by kernel_rfl
theorem u_halves_up {S : Stat} {n : Nat} {H : Hp} {Q : VK} {E : XK} {a0 a1 : V} (h : wSs S (sem S T n) (fun c d _ H1 => E c d H1) b_halves_up { nx := fun _ H1 => Q .non H1, rt := Q } [some a0, some a1] H) : (sem S T (n + 1)).fn "halves_up" [a0, a1] H Q E := by
  unfold sem
  simp only [t_halves_up]
  exact ⟨rfl, h⟩
theorem t_Shape_init__ : T "Shape.__init__" = some i_Shape_init__ := by kernel_rfl
theorem u_Shape_init__ {S : Stat} {n : Nat} {H : Hp} {Q : VK} {E : XK} {a0 a1 a2 : V} (h : wSs S (sem S T n) (fun c d _ H1 => E c d H1) b_Shape_init__ { nx := fun _ H1 => Q .non H1, rt := Q } [some a0, some a1, some a2] H) : (sem S T (n + 1)).fn "Shape.__init__" [a0, a1, a2] H Q E := by
  unfold sem
  simp only [t_Shape_init__]
  exact ⟨rfl, h⟩
theorem t_Shape_lanes : T "Shape.lanes" = some i_Shape_lanes := by kernel_rfl
theorem u_Shape_lanes {S : Stat} {n : Nat} {H : Hp} {Q : VK} {E : XK} {a0 : V} (h : wSs S (sem S T n) (fun c d _ H1 => E c d H1) b_Shape_lanes { nx := fun _ H1 => Q .non H1, rt := Q } [some a0] H) : (sem S T (n + 1)).fn "Shape.lanes" [a0] H Q E := by
  unfold sem
  simp only [t_Shape_lanes]
  exact ⟨rfl, h⟩
theorem t_Shape_nodes : T "Shape.nodes" = some i_Shape_nodes := by kernel_rfl
theorem u_Shape_nodes {S : Stat} {n : Nat} {H : Hp} {Q : VK} {E : XK} {a0 : V} (h : wSs S (sem S T n) (fun c d _ H1 => E c d H1) b_Shape_nodes { nx := fun _ H1 => Q .non H1, rt := Q } [some a0] H) : (sem S T (n + 1)).fn "Shape.nodes" [a0] H Q E := by
  unfold sem
  simp only [t_Shape_nodes]
  exact ⟨rfl, h⟩
theorem t_Shape_first_of : T "Shape.first_of" = some i_Shape_first_of := by kernel_rfl
theorem u_Shape_first_of {S : Stat} {n : Nat} {H : Hp} {Q : VK} {E : XK} {a0 a1 : V} (h : wSs S (sem S T n) (fun c d _ H1 => E c d H1) b_Shape_first_of { nx := fun _ H1 => Q .non H1, rt := Q } [some a0, some a1] H) : (sem S T (n + 1)).fn "Shape.first_of" [a0, a1] H Q E := by
  unfold sem
  simp only [t_Shape_first_of]
  exact ⟨rfl, h⟩
theorem t_Shape_leaves : T "Shape.leaves" = some i_Shape_leaves := by kernel_rfl
theorem u_Shape_leaves {S : Stat} {n : Nat} {H : Hp} {Q : VK} {E : XK} {a0 : V} (h : wSs S (sem S T n) (fun c d _ H1 => E c d H1) b_Shape_leaves { nx := fun _ H1 => Q .non H1, rt := Q } [some a0] H) : (sem S T (n + 1)).fn "Shape.leaves" [a0] H Q E := by
  unfold sem
  simp only [t_Shape_leaves]
  exact ⟨rfl, h⟩
theorem t_Shape_leaf_of : T "Shape.leaf_of" = some i_Shape_leaf_of := by kernel_rfl
theorem u_Shape_leaf_of {S : Stat} {n : Nat} {H : Hp} {Q : VK} {E : XK} {a0 a1 : V} (h : wSs S (sem S T n) (fun c d _ H1 => E c d H1) b_Shape_leaf_of { nx := fun _ H1 => Q .non H1, rt := Q } [some a0, some a1] H) : (sem S T (n + 1)).fn "Shape.leaf_of" [a0, a1] H Q E := by
  unfold sem
  simp only [t_Shape_leaf_of]
  exact ⟨rfl, h⟩
theorem t_Shape_seat_of : T "Shape.seat_of" = some i_Shape_seat_of := by kernel_rfl
theorem u_Shape_seat_of {S : Stat} {n : Nat} {H : Hp} {Q : VK} {E : XK} {a0 a1 : V} (h : wSs S (sem S T n) (fun c d _ H1 => E c d H1) b_Shape_seat_of { nx := fun _ H1 => Q .non H1, rt := Q } [some a0, some a1, none] H) : (sem S T (n + 1)).fn "Shape.seat_of" [a0, a1] H Q E := by
  unfold sem
  simp only [t_Shape_seat_of]
  exact ⟨rfl, h⟩
theorem t_Shape_parent_of : T "Shape.parent_of" = some i_Shape_parent_of := by kernel_rfl
theorem u_Shape_parent_of {S : Stat} {n : Nat} {H : Hp} {Q : VK} {E : XK} {a0 a1 : V} (h : wSs S (sem S T n) (fun c d _ H1 => E c d H1) b_Shape_parent_of { nx := fun _ H1 => Q .non H1, rt := Q } [some a0, some a1, none, none] H) : (sem S T (n + 1)).fn "Shape.parent_of" [a0, a1] H Q E := by
  unfold sem
  simp only [t_Shape_parent_of]
  exact ⟨rfl, h⟩
theorem t_Shape_beneath : T "Shape.beneath" = some i_Shape_beneath := by kernel_rfl
theorem u_Shape_beneath {S : Stat} {n : Nat} {H : Hp} {Q : VK} {E : XK} {a0 a1 : V} (h : wSs S (sem S T n) (fun c d _ H1 => E c d H1) b_Shape_beneath { nx := fun _ H1 => Q .non H1, rt := Q } [some a0, some a1, none, none, none, none, none, none] H) : (sem S T (n + 1)).fn "Shape.beneath" [a0, a1] H Q E := by
  unfold sem
  simp only [t_Shape_beneath]
  exact ⟨rfl, h⟩
theorem t_look_at_number : T "look_at_number" = some i_look_at_number := by kernel_rfl
theorem u_look_at_number {S : Stat} {n : Nat} {H : Hp} {Q : VK} {E : XK} {a0 : V} (h : wSs S (sem S T n) (fun c d _ H1 => E c d H1) b_look_at_number { nx := fun _ H1 => Q .non H1, rt := Q } [some a0] H) : (sem S T (n + 1)).fn "look_at_number" [a0] H Q E := by
  unfold sem
  simp only [t_look_at_number]
  exact ⟨rfl, h⟩
theorem t_due_of : T "due_of" = some i_due_of := by kernel_rfl
theorem u_due_of {S : Stat} {n : Nat} {H : Hp} {Q : VK} {E : XK} {a0 : V} (h : wSs S (sem S T n) (fun c d _ H1 => E c d H1) b_due_of { nx := fun _ H1 => Q .non H1, rt := Q } [some a0] H) : (sem S T (n + 1)).fn "due_of" [a0] H Q E := by
  unfold sem
  simp only [t_due_of]
  exact ⟨rfl, h⟩
theorem t_Core_init__ : T "Core.__init__" = some i_Core_init__ := by kernel_rfl
theorem u_Core_init__ {S : Stat} {n : Nat} {H : Hp} {Q : VK} {E : XK} {a0 a1 a2 : V} (h : wSs S (sem S T n) (fun c d _ H1 => E c d H1) b_Core_init__ { nx := fun _ H1 => Q .non H1, rt := Q } [some a0, some a1, some a2, none, none, none, none, none] H) : (sem S T (n + 1)).fn "Core.__init__" [a0, a1, a2] H Q E := by
  unfold sem
  simp only [t_Core_init__]
  exact ⟨rfl, h⟩
theorem t_Core_lacks : T "Core.lacks" = some i_Core_lacks := by kernel_rfl
theorem u_Core_lacks {S : Stat} {n : Nat} {H : Hp} {Q : VK} {E : XK} {a0 a1 : V} (h : wSs S (sem S T n) (fun c d _ H1 => E c d H1) b_Core_lacks { nx := fun _ H1 => Q .non H1, rt := Q } [some a0, some a1] H) : (sem S T (n + 1)).fn "Core.lacks" [a0, a1] H Q E := by
  unfold sem
  simp only [t_Core_lacks]
  exact ⟨rfl, h⟩
theorem t_Core_goes_on : T "Core.goes_on" = some i_Core_goes_on := by kernel_rfl
theorem u_Core_goes_on {S : Stat} {n : Nat} {H : Hp} {Q : VK} {E : XK} {a0 : V} (h : wSs S (sem S T n) (fun c d _ H1 => E c d H1) b_Core_goes_on { nx := fun _ H1 => Q .non H1, rt := Q } [some a0] H) : (sem S T (n + 1)).fn "Core.goes_on" [a0] H Q E := by
  unfold sem
  simp only [t_Core_goes_on]
  exact ⟨rfl, h⟩
theorem t_Core_leaf : T "Core.leaf" = some i_Core_leaf := by kernel_rfl
theorem u_Core_leaf {S : Stat} {n : Nat} {H : Hp} {Q : VK} {E : XK} {a0 a1 : V} (h : wSs S (sem S T n) (fun c d _ H1 => E c d H1) b_Core_leaf { nx := fun _ H1 => Q .non H1, rt := Q } [some a0, some a1] H) : (sem S T (n + 1)).fn "Core.leaf" [a0, a1] H Q E := by
  unfold sem
  simp only [t_Core_leaf]
  exact ⟨rfl, h⟩
theorem t_Core_due : T "Core.due" = some i_Core_due := by kernel_rfl
theorem u_Core_due {S : Stat} {n : Nat} {H : Hp} {Q : VK} {E : XK} {a0 a1 : V} (h : wSs S (sem S T n) (fun c d _ H1 => E c d H1) b_Core_due { nx := fun _ H1 => Q .non H1, rt := Q } [some a0, some a1] H) : (sem S T (n + 1)).fn "Core.due" [a0, a1] H Q E := by
  unfold sem
  simp only [t_Core_due]
  exact ⟨rfl, h⟩
theorem t_Core_ask : T "Core.ask" = some i_Core_ask := by kernel_rfl
theorem u_Core_ask {S : Stat} {n : Nat} {H : Hp} {Q : VK} {E : XK} {a0 a1 : V} (h : wSs S (sem S T n) (fun c d _ H1 => E c d H1) b_Core_ask { nx := fun _ H1 => Q .non H1, rt := Q } [some a0, some a1, none] H) : (sem S T (n + 1)).fn "Core.ask" [a0, a1] H Q E := by
  unfold sem
  simp only [t_Core_ask]
  exact ⟨rfl, h⟩
theorem t_Core_is_old : T "Core.is_old" = some i_Core_is_old := by kernel_rfl
theorem u_Core_is_old {S : Stat} {n : Nat} {H : Hp} {Q : VK} {E : XK} {a0 a1 : V} (h : wSs S (sem S T n) (fun c d _ H1 => E c d H1) b_Core_is_old { nx := fun _ H1 => Q .non H1, rt := Q } [some a0, some a1] H) : (sem S T (n + 1)).fn "Core.is_old" [a0, a1] H Q E := by
  unfold sem
  simp only [t_Core_is_old]
  exact ⟨rfl, h⟩
theorem t_Core_is_here : T "Core.is_here" = some i_Core_is_here := by kernel_rfl
theorem u_Core_is_here {S : Stat} {n : Nat} {H : Hp} {Q : VK} {E : XK} {a0 a1 : V} (h : wSs S (sem S T n) (fun c d _ H1 => E c d H1) b_Core_is_here { nx := fun _ H1 => Q .non H1, rt := Q } [some a0, some a1] H) : (sem S T (n + 1)).fn "Core.is_here" [a0, a1] H Q E := by
  unfold sem
  simp only [t_Core_is_here]
  exact ⟨rfl, h⟩
theorem t_Core_others_here : T "Core.others_here" = some i_Core_others_here := by kernel_rfl
theorem u_Core_others_here {S : Stat} {n : Nat} {H : Hp} {Q : VK} {E : XK} {a0 a1 : V} (h : wSs S (sem S T n) (fun c d _ H1 => E c d H1) b_Core_others_here { nx := fun _ H1 => Q .non H1, rt := Q } [some a0, some a1, none] H) : (sem S T (n + 1)).fn "Core.others_here" [a0, a1] H Q E := by
  unfold sem
  simp only [t_Core_others_here]
  exact ⟨rfl, h⟩
theorem t_Core_is_quiet : T "Core.is_quiet" = some i_Core_is_quiet := by kernel_rfl
theorem u_Core_is_quiet {S : Stat} {n : Nat} {H : Hp} {Q : VK} {E : XK} {a0 a1 : V} (h : wSs S (sem S T n) (fun c d _ H1 => E c d H1) b_Core_is_quiet { nx := fun _ H1 => Q .non H1, rt := Q } [some a0, some a1, none] H) : (sem S T (n + 1)).fn "Core.is_quiet" [a0, a1] H Q E := by
  unfold sem
  simp only [t_Core_is_quiet]
  exact ⟨rfl, h⟩
theorem t_Core_tell_up : T "Core.tell_up" = some i_Core_tell_up := by kernel_rfl
theorem u_Core_tell_up {S : Stat} {n : Nat} {H : Hp} {Q : VK} {E : XK} {a0 a1 : V} (h : wSs S (sem S T n) (fun c d _ H1 => E c d H1) b_Core_tell_up { nx := fun _ H1 => Q .non H1, rt := Q } [some a0, some a1, none] H) : (sem S T (n + 1)).fn "Core.tell_up" [a0, a1] H Q E := by
  unfold sem
  simp only [t_Core_tell_up]
  exact ⟨rfl, h⟩
theorem t_Core_clear : T "Core.clear" = some i_Core_clear := by kernel_rfl
theorem u_Core_clear {S : Stat} {n : Nat} {H : Hp} {Q : VK} {E : XK} {a0 a1 : V} (h : wSs S (sem S T n) (fun c d _ H1 => E c d H1) b_Core_clear { nx := fun _ H1 => Q .non H1, rt := Q } [some a0, some a1, none] H) : (sem S T (n + 1)).fn "Core.clear" [a0, a1] H Q E := by
  unfold sem
  simp only [t_Core_clear]
  exact ⟨rfl, h⟩
theorem t_Core_list_at : T "Core.list_at" = some i_Core_list_at := by kernel_rfl
theorem u_Core_list_at {S : Stat} {n : Nat} {H : Hp} {Q : VK} {E : XK} {a0 a1 a2 : V} (h : wSs S (sem S T n) (fun c d _ H1 => E c d H1) b_Core_list_at { nx := fun _ H1 => Q .non H1, rt := Q } [some a0, some a1, some a2, none, none] H) : (sem S T (n + 1)).fn "Core.list_at" [a0, a1, a2] H Q E := by
  unfold sem
  simp only [t_Core_list_at]
  exact ⟨rfl, h⟩
theorem t_Core_unlist : T "Core.unlist" = some i_Core_unlist := by kernel_rfl
theorem u_Core_unlist {S : Stat} {n : Nat} {H : Hp} {Q : VK} {E : XK} {a0 a1 : V} (h : wSs S (sem S T n) (fun c d _ H1 => E c d H1) b_Core_unlist { nx := fun _ H1 => Q .non H1, rt := Q } [some a0, some a1, none, none] H) : (sem S T (n + 1)).fn "Core.unlist" [a0, a1] H Q E := by
  unfold sem
  simp only [t_Core_unlist]
  exact ⟨rfl, h⟩
theorem t_Core_stop : T "Core.stop" = some i_Core_stop := by kernel_rfl
theorem u_Core_stop {S : Stat} {n : Nat} {H : Hp} {Q : VK} {E : XK} {a0 a1 a2 : V} (h : wSs S (sem S T n) (fun c d _ H1 => E c d H1) b_Core_stop { nx := fun _ H1 => Q .non H1, rt := Q } [some a0, some a1, some a2] H) : (sem S T (n + 1)).fn "Core.stop" [a0, a1, a2] H Q E := by
  unfold sem
  simp only [t_Core_stop]
  exact ⟨rfl, h⟩
theorem t_Core_is_stopped : T "Core.is_stopped" = some i_Core_is_stopped := by kernel_rfl
theorem u_Core_is_stopped {S : Stat} {n : Nat} {H : Hp} {Q : VK} {E : XK} {a0 a1 : V} (h : wSs S (sem S T n) (fun c d _ H1 => E c d H1) b_Core_is_stopped { nx := fun _ H1 => Q .non H1, rt := Q } [some a0, some a1] H) : (sem S T (n + 1)).fn "Core.is_stopped" [a0, a1] H Q E := by
  unfold sem
  simp only [t_Core_is_stopped]
  exact ⟨rfl, h⟩
theorem t_opened_number : T "opened_number" = some i_opened_number := by kernel_rfl
theorem u_opened_number {S : Stat} {n : Nat} {H : Hp} {Q : VK} {E : XK} {a0 : V} (h : wSs S (sem S T n) (fun c d _ H1 => E c d H1) b_opened_number { nx := fun _ H1 => Q .non H1, rt := Q } [some a0] H) : (sem S T (n + 1)).fn "opened_number" [a0] H Q E := by
  unfold sem
  simp only [t_opened_number]
  exact ⟨rfl, h⟩
theorem t_is_under_way : T "is_under_way" = some i_is_under_way := by kernel_rfl
theorem u_is_under_way {S : Stat} {n : Nat} {H : Hp} {Q : VK} {E : XK} {a0 : V} (h : wSs S (sem S T n) (fun c d _ H1 => E c d H1) b_is_under_way { nx := fun _ H1 => Q .non H1, rt := Q } [some a0] H) : (sem S T (n + 1)).fn "is_under_way" [a0] H Q E := by
  unfold sem
  simp only [t_is_under_way]
  exact ⟨rfl, h⟩
theorem t_open_leaf : T "open_leaf" = some i_open_leaf := by kernel_rfl
theorem u_open_leaf {S : Stat} {n : Nat} {H : Hp} {Q : VK} {E : XK} {a0 a1 : V} (h : wSs S (sem S T n) (fun c d _ H1 => E c d H1) b_open_leaf { nx := fun _ H1 => Q .non H1, rt := Q } [some a0, some a1, none, none, none, none] H) : (sem S T (n + 1)).fn "open_leaf" [a0, a1] H Q E := by
  unfold sem
  simp only [t_open_leaf]
  exact ⟨rfl, h⟩
theorem t_open_next : T "open_next" = some i_open_next := by kernel_rfl
theorem u_open_next {S : Stat} {n : Nat} {H : Hp} {Q : VK} {E : XK} {a0 a1 : V} (h : wSs S (sem S T n) (fun c d _ H1 => E c d H1) b_open_next { nx := fun _ H1 => Q .non H1, rt := Q } [some a0, some a1, none, none] H) : (sem S T (n + 1)).fn "open_next" [a0, a1] H Q E := by
  unfold sem
  simp only [t_open_next]
  exact ⟨rfl, h⟩
theorem t_seek_next : T "seek_next" = some i_seek_next := by kernel_rfl
theorem u_seek_next {S : Stat} {n : Nat} {H : Hp} {Q : VK} {E : XK} {a0 : V} (h : wSs S (sem S T n) (fun c d _ H1 => E c d H1) b_seek_next { nx := fun _ H1 => Q .non H1, rt := Q } [some a0, none, none, none, none, none] H) : (sem S T (n + 1)).fn "seek_next" [a0] H Q E := by
  unfold sem
  simp only [t_seek_next]
  exact ⟨rfl, h⟩
theorem t_close_next : T "close_next" = some i_close_next := by kernel_rfl
theorem u_close_next {S : Stat} {n : Nat} {H : Hp} {Q : VK} {E : XK} {a0 : V} (h : wSs S (sem S T n) (fun c d _ H1 => E c d H1) b_close_next { nx := fun _ H1 => Q .non H1, rt := Q } [some a0] H) : (sem S T (n + 1)).fn "close_next" [a0] H Q E := by
  unfold sem
  simp only [t_close_next]
  exact ⟨rfl, h⟩
theorem t_begin_one : T "begin_one" = some i_begin_one := by kernel_rfl
theorem u_begin_one {S : Stat} {n : Nat} {H : Hp} {Q : VK} {E : XK} {a0 : V} (h : wSs S (sem S T n) (fun c d _ H1 => E c d H1) b_begin_one { nx := fun _ H1 => Q .non H1, rt := Q } [some a0] H) : (sem S T (n + 1)).fn "begin_one" [a0] H Q E := by
  unfold sem
  simp only [t_begin_one]
  exact ⟨rfl, h⟩
theorem t_open_early : T "open_early" = some i_open_early := by kernel_rfl
theorem u_open_early {S : Stat} {n : Nat} {H : Hp} {Q : VK} {E : XK} {a0 : V} (h : wSs S (sem S T n) (fun c d _ H1 => E c d H1) b_open_early { nx := fun _ H1 => Q .non H1, rt := Q } [some a0, none] H) : (sem S T (n + 1)).fn "open_early" [a0] H Q E := by
  unfold sem
  simp only [t_open_early]
  exact ⟨rfl, h⟩
theorem t_keep_step : T "keep_step" = some i_keep_step := by kernel_rfl
theorem u_keep_step {S : Stat} {n : Nat} {H : Hp} {Q : VK} {E : XK} {a0 : V} (h : wSs S (sem S T n) (fun c d _ H1 => E c d H1) b_keep_step { nx := fun _ H1 => Q .non H1, rt := Q } [some a0] H) : (sem S T (n + 1)).fn "keep_step" [a0] H Q E := by
  unfold sem
  simp only [t_keep_step]
  exact ⟨rfl, h⟩
theorem t_entered_ahead : T "entered_ahead" = some i_entered_ahead := by kernel_rfl
theorem u_entered_ahead {S : Stat} {n : Nat} {H : Hp} {Q : VK} {E : XK} {a0 a1 : V} (h : wSs S (sem S T n) (fun c d _ H1 => E c d H1) b_entered_ahead { nx := fun _ H1 => Q .non H1, rt := Q } [some a0, some a1, none] H) : (sem S T (n + 1)).fn "entered_ahead" [a0, a1] H Q E := by
  unfold sem
  simp only [t_entered_ahead]
  exact ⟨rfl, h⟩
theorem t_ask_leaf : T "ask_leaf" = some i_ask_leaf := by kernel_rfl
theorem u_ask_leaf {S : Stat} {n : Nat} {H : Hp} {Q : VK} {E : XK} {a0 : V} (h : wSs S (sem S T n) (fun c d _ H1 => E c d H1) b_ask_leaf { nx := fun _ H1 => Q .non H1, rt := Q } [some a0, none, none, none, none, none] H) : (sem S T (n + 1)).fn "ask_leaf" [a0] H Q E := by
  unfold sem
  simp only [t_ask_leaf]
  exact ⟨rfl, h⟩
theorem t_rush_step : T "rush_step" = some i_rush_step := by kernel_rfl
theorem u_rush_step {S : Stat} {n : Nat} {H : Hp} {Q : VK} {E : XK} {a0 : V} (h : wSs S (sem S T n) (fun c d _ H1 => E c d H1) b_rush_step { nx := fun _ H1 => Q .non H1, rt := Q } [some a0] H) : (sem S T (n + 1)).fn "rush_step" [a0] H Q E := by
  unfold sem
  simp only [t_rush_step]
  exact ⟨rfl, h⟩
theorem t_enter_lane : T "enter_lane" = some i_enter_lane := by kernel_rfl
theorem u_enter_lane {S : Stat} {n : Nat} {H : Hp} {Q : VK} {E : XK} {a0 a1 a2 : V} (h : wSs S (sem S T n) (fun c d _ H1 => E c d H1) b_enter_lane { nx := fun _ H1 => Q .non H1, rt := Q } [some a0, some a1, some a2, none] H) : (sem S T (n + 1)).fn "enter_lane" [a0, a1, a2] H Q E := by
  unfold sem
  simp only [t_enter_lane]
  exact ⟨rfl, h⟩
theorem t_come_out : T "come_out" = some i_come_out := by kernel_rfl
theorem u_come_out {S : Stat} {n : Nat} {H : Hp} {Q : VK} {E : XK} {a0 a1 : V} (h : wSs S (sem S T n) (fun c d _ H1 => E c d H1) b_come_out { nx := fun _ H1 => Q .non H1, rt := Q } [some a0, some a1, none] H) : (sem S T (n + 1)).fn "come_out" [a0, a1] H Q E := by
  unfold sem
  simp only [t_come_out]
  exact ⟨rfl, h⟩
theorem t_break_off : T "break_off" = some i_break_off := by kernel_rfl
theorem u_break_off {S : Stat} {n : Nat} {H : Hp} {Q : VK} {E : XK} {a0 a1 : V} (h : wSs S (sem S T n) (fun c d _ H1 => E c d H1) b_break_off { nx := fun _ H1 => Q .non H1, rt := Q } [some a0, some a1, none, none] H) : (sem S T (n + 1)).fn "break_off" [a0, a1] H Q E := by
  unfold sem
  simp only [t_break_off]
  exact ⟨rfl, h⟩
theorem t_go_on : T "go_on" = some i_go_on := by kernel_rfl
theorem u_go_on {S : Stat} {n : Nat} {H : Hp} {Q : VK} {E : XK} {a0 a1 a2 : V} (h : wSs S (sem S T n) (fun c d _ H1 => E c d H1) b_go_on { nx := fun _ H1 => Q .non H1, rt := Q } [some a0, some a1, some a2] H) : (sem S T (n + 1)).fn "go_on" [a0, a1, a2] H Q E := by
  unfold sem
  simp only [t_go_on]
  exact ⟨rfl, h⟩
theorem t_do_of_reader : T "do_of_reader" = some i_do_of_reader := by kernel_rfl
theorem u_do_of_reader {S : Stat} {n : Nat} {H : Hp} {Q : VK} {E : XK} {a0 a1 a2 a3 : V} (h : wSs S (sem S T n) (fun c d _ H1 => E c d H1) b_do_of_reader { nx := fun _ H1 => Q .non H1, rt := Q } [some a0, some a1, some a2, some a3] H) : (sem S T (n + 1)).fn "do_of_reader" [a0, a1, a2, a3] H Q E := by
  unfold sem
  simp only [t_do_of_reader]
  exact ⟨rfl, h⟩
theorem t_look_at_leaf : T "look_at_leaf" = some i_look_at_leaf := by kernel_rfl
theorem u_look_at_leaf {S : Stat} {n : Nat} {H : Hp} {Q : VK} {E : XK} {a0 a1 : V} (h : wSs S (sem S T n) (fun c d _ H1 => E c d H1) b_look_at_leaf { nx := fun _ H1 => Q .non H1, rt := Q } [some a0, some a1, none, none] H) : (sem S T (n + 1)).fn "look_at_leaf" [a0, a1] H Q E := by
  unfold sem
  simp only [t_look_at_leaf]
  exact ⟨rfl, h⟩
theorem t_tell_leaf : T "tell_leaf" = some i_tell_leaf := by kernel_rfl
theorem u_tell_leaf {S : Stat} {n : Nat} {H : Hp} {Q : VK} {E : XK} {a0 a1 : V} (h : wSs S (sem S T n) (fun c d _ H1 => E c d H1) b_tell_leaf { nx := fun _ H1 => Q .non H1, rt := Q } [some a0, some a1, none, none] H) : (sem S T (n + 1)).fn "tell_leaf" [a0, a1] H Q E := by
  unfold sem
  simp only [t_tell_leaf]
  exact ⟨rfl, h⟩
theorem t_come_back : T "come_back" = some i_come_back := by kernel_rfl
theorem u_come_back {S : Stat} {n : Nat} {H : Hp} {Q : VK} {E : XK} {a0 a1 : V} (h : wSs S (sem S T n) (fun c d _ H1 => E c d H1) b_come_back { nx := fun _ H1 => Q .non H1, rt := Q } [some a0, some a1, none] H) : (sem S T (n + 1)).fn "come_back" [a0, a1] H Q E := by
  unfold sem
  simp only [t_come_back]
  exact ⟨rfl, h⟩
theorem t_do_of_lane : T "do_of_lane" = some i_do_of_lane := by kernel_rfl
theorem u_do_of_lane {S : Stat} {n : Nat} {H : Hp} {Q : VK} {E : XK} {a0 a1 a2 : V} (h : wSs S (sem S T n) (fun c d _ H1 => E c d H1) b_do_of_lane { nx := fun _ H1 => Q .non H1, rt := Q } [some a0, some a1, some a2] H) : (sem S T (n + 1)).fn "do_of_lane" [a0, a1, a2] H Q E := by
  unfold sem
  simp only [t_do_of_lane]
  exact ⟨rfl, h⟩
theorem t_drop_thing : T "drop_thing" = some i_drop_thing := by kernel_rfl
theorem u_drop_thing {S : Stat} {n : Nat} {H : Hp} {Q : VK} {E : XK} {a0 a1 a2 a3 : V} (h : wSs S (sem S T n) (fun c d _ H1 => E c d H1) b_drop_thing { nx := fun _ H1 => Q .non H1, rt := Q } [some a0, some a1, some a2, some a3, none, none] H) : (sem S T (n + 1)).fn "drop_thing" [a0, a1, a2, a3] H Q E := by
  unfold sem
  simp only [t_drop_thing]
  exact ⟨rfl, h⟩
theorem t_do_alone : T "do_alone" = some i_do_alone := by kernel_rfl
theorem u_do_alone {S : Stat} {n : Nat} {H : Hp} {Q : VK} {E : XK} {a0 a1 : V} (h : wSs S (sem S T n) (fun c d _ H1 => E c d H1) b_do_alone { nx := fun _ H1 => Q .non H1, rt := Q } [some a0, some a1] H) : (sem S T (n + 1)).fn "do_alone" [a0, a1] H Q E := by
  unfold sem
  simp only [t_do_alone]
  exact ⟨rfl, h⟩
theorem t_do_now : T "do_now" = some i_do_now := by kernel_rfl
theorem u_do_now {S : Stat} {n : Nat} {H : Hp} {Q : VK} {E : XK} {a0 a1 : V} (h : wSs S (sem S T n) (fun c d _ H1 => E c d H1) b_do_now { nx := fun _ H1 => Q .non H1, rt := Q } [some a0, some a1, none, none] H) : (sem S T (n + 1)).fn "do_now" [a0, a1] H Q E := by
  unfold sem
  simp only [t_do_now]
  exact ⟨rfl, h⟩
theorem t_most_of : T "most_of" = some i_most_of := by kernel_rfl
theorem u_most_of {S : Stat} {n : Nat} {H : Hp} {Q : VK} {E : XK} {a0 a1 : V} (h : wSs S (sem S T n) (fun c d _ H1 => E c d H1) b_most_of { nx := fun _ H1 => Q .non H1, rt := Q } [some a0, some a1] H) : (sem S T (n + 1)).fn "most_of" [a0, a1] H Q E := by
  unfold sem
  simp only [t_most_of]
  exact ⟨rfl, h⟩
theorem t_is_number : T "is_number" = some i_is_number := by kernel_rfl
theorem u_is_number {S : Stat} {n : Nat} {H : Hp} {Q : VK} {E : XK} {a0 a1 : V} (h : wSs S (sem S T n) (fun c d _ H1 => E c d H1) b_is_number { nx := fun _ H1 => Q .non H1, rt := Q } [some a0, some a1] H) : (sem S T (n + 1)).fn "is_number" [a0, a1] H Q E := by
  unfold sem
  simp only [t_is_number]
  exact ⟨rfl, h⟩
theorem t_is_deed : T "is_deed" = some i_is_deed := by kernel_rfl
theorem u_is_deed {S : Stat} {n : Nat} {H : Hp} {Q : VK} {E : XK} {a0 a1 : V} (h : wSs S (sem S T n) (fun c d _ H1 => E c d H1) b_is_deed { nx := fun _ H1 => Q .non H1, rt := Q } [some a0, some a1, none, none, none, none, none] H) : (sem S T (n + 1)).fn "is_deed" [a0, a1] H Q E := by
  unfold sem
  simp only [t_is_deed]
  exact ⟨rfl, h⟩
theorem t_can_of_reader : T "can_of_reader" = some i_can_of_reader := by kernel_rfl
theorem u_can_of_reader {S : Stat} {n : Nat} {H : Hp} {Q : VK} {E : XK} {a0 a1 a2 : V} (h : wSs S (sem S T n) (fun c d _ H1 => E c d H1) b_can_of_reader { nx := fun _ H1 => Q .non H1, rt := Q } [some a0, some a1, some a2, none] H) : (sem S T (n + 1)).fn "can_of_reader" [a0, a1, a2] H Q E := by
  unfold sem
  simp only [t_can_of_reader]
  exact ⟨rfl, h⟩
theorem t_can_of_lane : T "can_of_lane" = some i_can_of_lane := by kernel_rfl
theorem u_can_of_lane {S : Stat} {n : Nat} {H : Hp} {Q : VK} {E : XK} {a0 a1 a2 : V} (h : wSs S (sem S T n) (fun c d _ H1 => E c d H1) b_can_of_lane { nx := fun _ H1 => Q .non H1, rt := Q } [some a0, some a1, some a2, none] H) : (sem S T (n + 1)).fn "can_of_lane" [a0, a1, a2] H Q E := by
  unfold sem
  simp only [t_can_of_lane]
  exact ⟨rfl, h⟩
theorem t_can_now : T "can_now" = some i_can_now := by kernel_rfl
theorem u_can_now {S : Stat} {n : Nat} {H : Hp} {Q : VK} {E : XK} {a0 a1 : V} (h : wSs S (sem S T n) (fun c d _ H1 => E c d H1) b_can_now { nx := fun _ H1 => Q .non H1, rt := Q } [some a0, some a1, none, none, none, none] H) : (sem S T (n + 1)).fn "can_now" [a0, a1] H Q E := by
  unfold sem
  simp only [t_can_now]
  exact ⟨rfl, h⟩
theorem t_look_at_shape : T "look_at_shape" = some i_look_at_shape := by kernel_rfl
theorem u_look_at_shape {S : Stat} {n : Nat} {H : Hp} {Q : VK} {E : XK} {a0 : V} (h : wSs S (sem S T n) (fun c d _ H1 => E c d H1) b_look_at_shape { nx := fun _ H1 => Q .non H1, rt := Q } [some a0] H) : (sem S T (n + 1)).fn "look_at_shape" [a0] H Q E := by
  unfold sem
  simp only [t_look_at_shape]
  exact ⟨rfl, h⟩
theorem t_look_at_rules : T "look_at_rules" = some i_look_at_rules := by kernel_rfl
theorem u_look_at_rules {S : Stat} {n : Nat} {H : Hp} {Q : VK} {E : XK} {a0 : V} (h : wSs S (sem S T n) (fun c d _ H1 => E c d H1) b_look_at_rules { nx := fun _ H1 => Q .non H1, rt := Q } [some a0, none] H) : (sem S T (n + 1)).fn "look_at_rules" [a0] H Q E := by
  unfold sem
  simp only [t_look_at_rules]
  exact ⟨rfl, h⟩
theorem t_Weave_init__ : T "Weave.__init__" = some i_Weave_init__ := by kernel_rfl
theorem u_Weave_init__ {S : Stat} {n : Nat} {H : Hp} {Q : VK} {E : XK} {a0 a1 a2 a3 : V} (h : wSs S (sem S T n) (fun c d _ H1 => E c d H1) b_Weave_init__ { nx := fun _ H1 => Q .non H1, rt := Q } [some a0, some a1, some a2, some a3, none] H) : (sem S T (n + 1)).fn "Weave.__init__" [a0, a1, a2, a3] H Q E := by
  unfold sem
  simp only [t_Weave_init__]
  exact ⟨rfl, h⟩
theorem t_Weave_can : T "Weave.can" = some i_Weave_can := by kernel_rfl
theorem u_Weave_can {S : Stat} {n : Nat} {H : Hp} {Q : VK} {E : XK} {a0 a1 : V} (h : wSs S (sem S T n) (fun c d _ H1 => E c d H1) b_Weave_can { nx := fun _ H1 => Q .non H1, rt := Q } [some a0, some a1] H) : (sem S T (n + 1)).fn "Weave.can" [a0, a1] H Q E := by
  unfold sem
  simp only [t_Weave_can]
  exact ⟨rfl, h⟩
theorem t_Weave_do : T "Weave.do" = some i_Weave_do := by kernel_rfl
theorem u_Weave_do {S : Stat} {n : Nat} {H : Hp} {Q : VK} {E : XK} {a0 a1 : V} (h : wSs S (sem S T n) (fun c d _ H1 => E c d H1) b_Weave_do { nx := fun _ H1 => Q .non H1, rt := Q } [some a0, some a1] H) : (sem S T (n + 1)).fn "Weave.do" [a0, a1] H Q E := by
  unfold sem
  simp only [t_Weave_do]
  exact ⟨rfl, h⟩
theorem t_Weave_now : T "Weave.now" = some i_Weave_now := by kernel_rfl
theorem u_Weave_now {S : Stat} {n : Nat} {H : Hp} {Q : VK} {E : XK} {a0 : V} (h : wSs S (sem S T n) (fun c d _ H1 => E c d H1) b_Weave_now { nx := fun _ H1 => Q .non H1, rt := Q } [some a0] H) : (sem S T (n + 1)).fn "Weave.now" [a0] H Q E := by
  unfold sem
  simp only [t_Weave_now]
  exact ⟨rfl, h⟩
theorem t_Weave_wanted : T "Weave.wanted" = some i_Weave_wanted := by kernel_rfl
theorem u_Weave_wanted {S : Stat} {n : Nat} {H : Hp} {Q : VK} {E : XK} {a0 : V} (h : wSs S (sem S T n) (fun c d _ H1 => E c d H1) b_Weave_wanted { nx := fun _ H1 => Q .non H1, rt := Q } [some a0] H) : (sem S T (n + 1)).fn "Weave.wanted" [a0] H Q E := by
  unfold sem
  simp only [t_Weave_wanted]
  exact ⟨rfl, h⟩
theorem t_Weave_node : T "Weave.node" = some i_Weave_node := by kernel_rfl
theorem u_Weave_node {S : Stat} {n : Nat} {H : Hp} {Q : VK} {E : XK} {a0 a1 : V} (h : wSs S (sem S T n) (fun c d _ H1 => E c d H1) b_Weave_node { nx := fun _ H1 => Q .non H1, rt := Q } [some a0, some a1, none] H) : (sem S T (n + 1)).fn "Weave.node" [a0, a1] H Q E := by
  unfold sem
  simp only [t_Weave_node]
  exact ⟨rfl, h⟩
theorem t_law_rows : T "_law_rows" = some i_law_rows := by kernel_rfl
theorem u_law_rows {S : Stat} {n : Nat} {H : Hp} {Q : VK} {E : XK} (h : wSs S (sem S T n) (fun c d _ H1 => E c d H1) b_law_rows { nx := fun _ H1 => Q .non H1, rt := Q } [none, none, none, none] H) : (sem S T (n + 1)).fn "_law_rows" [] H Q E := by
  unfold sem
  simp only [t_law_rows]
  exact ⟨rfl, h⟩
theorem t_law_told : T "_law_told" = some i_law_told := by kernel_rfl
theorem u_law_told {S : Stat} {n : Nat} {H : Hp} {Q : VK} {E : XK} {a0 a1 : V} (h : wSs S (sem S T n) (fun c d _ H1 => E c d H1) b_law_told { nx := fun _ H1 => Q .non H1, rt := Q } [some a0, some a1, none, none, none, none] H) : (sem S T (n + 1)).fn "_law_told" [a0, a1] H Q E := by
  unfold sem
  simp only [t_law_told]
  exact ⟨rfl, h⟩
theorem t_law_due : T "_law_due" = some i_law_due := by kernel_rfl
theorem u_law_due {S : Stat} {n : Nat} {H : Hp} {Q : VK} {E : XK} (h : wSs S (sem S T n) (fun c d _ H1 => E c d H1) b_law_due { nx := fun _ H1 => Q .non H1, rt := Q } [none] H) : (sem S T (n + 1)).fn "_law_due" [] H Q E := by
  unfold sem
  simp only [t_law_due]
  exact ⟨rfl, h⟩
theorem t_law_left_out : T "_law_left_out" = some i_law_left_out := by kernel_rfl
theorem u_law_left_out {S : Stat} {n : Nat} {H : Hp} {Q : VK} {E : XK} (h : wSs S (sem S T n) (fun c d _ H1 => E c d H1) b_law_left_out { nx := fun _ H1 => Q .non H1, rt := Q } [none] H) : (sem S T (n + 1)).fn "_law_left_out" [] H Q E := by
  unfold sem
  simp only [t_law_left_out]
  exact ⟨rfl, h⟩
theorem t_law : T "law" = some i_law := by kernel_rfl
theorem u_law {S : Stat} {n : Nat} {H : Hp} {Q : VK} {E : XK} {a0 : V} (h : wSs S (sem S T n) (fun c d _ H1 => E c d H1) b_law { nx := fun _ H1 => Q .non H1, rt := Q } [some a0, none, none, none, none, none, none, none] H) : (sem S T (n + 1)).fn "law" [a0] H Q E := by
  unfold sem
  simp only [t_law]
  exact ⟨rfl, h⟩
theorem c_LaneSeat_init__ : nCS (cS ⟨i_LaneSeat_init__.N, defScope (topM 7 0), gl⟩ 60) (defBody (topM 7 0)) = some i_LaneSeat_init__.body := by kernel_rfl
theorem c_LaneSeat_is_free : nCS (cS ⟨i_LaneSeat_is_free.N, defScope (topM 7 1), gl⟩ 60) (defBody (topM 7 1)) = some i_LaneSeat_is_free.body := by kernel_rfl
theorem c_ReaderSeat_init__ : nCS (cS ⟨i_ReaderSeat_init__.N, defScope (topM 8 0), gl⟩ 60) (defBody (topM 8 0)) = some i_ReaderSeat_init__.body := by kernel_rfl
theorem c_ReaderSeat_is_running : nCS (cS ⟨i_ReaderSeat_is_running.N, defScope (topM 8 1), gl⟩ 60) (defBody (topM 8 1)) = some i_ReaderSeat_is_running.body := by kernel_rfl
theorem c_ReaderSeat_is_off : nCS (cS ⟨i_ReaderSeat_is_off.N, defScope (topM 8 2), gl⟩ 60) (defBody (topM 8 2)) = some i_ReaderSeat_is_off.body := by kernel_rfl
theorem c_ReaderSeat_leave : nCS (cS ⟨i_ReaderSeat_leave.N, defScope (topM 8 3), gl⟩ 60) (defBody (topM 8 3)) = some i_ReaderSeat_leave.body := by kernel_rfl
theorem c_NodeSeat_init__ : nCS (cS ⟨i_NodeSeat_init__.N, defScope (topM 9 0), gl⟩ 60) (defBody (topM 9 0)) = some i_NodeSeat_init__.body := by kernel_rfl
theorem c_NodeSeat_is_quiet : nCS (cS ⟨i_NodeSeat_is_quiet.N, defScope (topM 9 1), gl⟩ 60) (defBody (topM 9 1)) = some i_NodeSeat_is_quiet.body := by kernel_rfl
theorem c_is_within : nCS (cS ⟨i_is_within.N, defScope (topS 23), gl⟩ 60) (defBody (topS 23)) = some i_is_within.body := by kernel_rfl
theorem c_halves_up : nCS (cS ⟨i_halves_up.N, defScope (topS 24), gl⟩ 60) (defBody (topS 24)) = some i_halves_up.body := by kernel_rfl
theorem c_Shape_init__ : nCS (cS ⟨i_Shape_init__.N, defScope (topM 25 0), gl⟩ 60) (defBody (topM 25 0)) = some i_Shape_init__.body := by kernel_rfl
theorem c_Shape_lanes : nCS (cS ⟨i_Shape_lanes.N, defScope (topM 25 1), gl⟩ 60) (defBody (topM 25 1)) = some i_Shape_lanes.body := by kernel_rfl
theorem c_Shape_nodes : nCS (cS ⟨i_Shape_nodes.N, defScope (topM 25 3), gl⟩ 60) (defBody (topM 25 3)) = some i_Shape_nodes.body := by kernel_rfl
theorem c_Shape_first_of : nCS (cS ⟨i_Shape_first_of.N, defScope (topM 25 4), gl⟩ 60) (defBody (topM 25 4)) = some i_Shape_first_of.body := by kernel_rfl
theorem c_Shape_leaves : nCS (cS ⟨i_Shape_leaves.N, defScope (topM 25 5), gl⟩ 60) (defBody (topM 25 5)) = some i_Shape_leaves.body := by kernel_rfl
theorem c_Shape_leaf_of : nCS (cS ⟨i_Shape_leaf_of.N, defScope (topM 25 6), gl⟩ 60) (defBody (topM 25 6)) = some i_Shape_leaf_of.body := by kernel_rfl
theorem c_Shape_seat_of : nCS (cS ⟨i_Shape_seat_of.N, defScope (topM 25 7), gl⟩ 60) (defBody (topM 25 7)) = some i_Shape_seat_of.body := by kernel_rfl
theorem c_Shape_parent_of : nCS (cS ⟨i_Shape_parent_of.N, defScope (topM 25 8), gl⟩ 60) (defBody (topM 25 8)) = some i_Shape_parent_of.body := by kernel_rfl
theorem c_Shape_beneath : nCS (cS ⟨i_Shape_beneath.N, defScope (topM 25 9), gl⟩ 60) (defBody (topM 25 9)) = some i_Shape_beneath.body := by kernel_rfl
theorem c_look_at_number : nCS (cS ⟨i_look_at_number.N, defScope (topS 27), gl⟩ 60) (defBody (topS 27)) = some i_look_at_number.body := by kernel_rfl
theorem c_due_of : nCS (cS ⟨i_due_of.N, defScope (topS 28), gl⟩ 60) (defBody (topS 28)) = some i_due_of.body := by kernel_rfl
theorem c_Core_init__ : nCS (cS ⟨i_Core_init__.N, defScope (topM 32 0), gl⟩ 60) (defBody (topM 32 0)) = some i_Core_init__.body := by kernel_rfl
theorem c_Core_lacks : nCS (cS ⟨i_Core_lacks.N, defScope (topM 32 1), gl⟩ 60) (defBody (topM 32 1)) = some i_Core_lacks.body := by kernel_rfl
theorem c_Core_goes_on : nCS (cS ⟨i_Core_goes_on.N, defScope (topM 32 2), gl⟩ 60) (defBody (topM 32 2)) = some i_Core_goes_on.body := by kernel_rfl
theorem c_Core_leaf : nCS (cS ⟨i_Core_leaf.N, defScope (topM 32 3), gl⟩ 60) (defBody (topM 32 3)) = some i_Core_leaf.body := by kernel_rfl
theorem c_Core_due : nCS (cS ⟨i_Core_due.N, defScope (topM 32 4), gl⟩ 60) (defBody (topM 32 4)) = some i_Core_due.body := by kernel_rfl
theorem c_Core_ask : nCS (cS ⟨i_Core_ask.N, defScope (topM 32 5), gl⟩ 60) (defBody (topM 32 5)) = some i_Core_ask.body := by kernel_rfl
theorem c_Core_is_old : nCS (cS ⟨i_Core_is_old.N, defScope (topM 32 6), gl⟩ 60) (defBody (topM 32 6)) = some i_Core_is_old.body := by kernel_rfl
theorem c_Core_is_here : nCS (cS ⟨i_Core_is_here.N, defScope (topM 32 7), gl⟩ 60) (defBody (topM 32 7)) = some i_Core_is_here.body := by kernel_rfl
theorem c_Core_others_here : nCS (cS ⟨i_Core_others_here.N, defScope (topM 32 8), gl⟩ 60) (defBody (topM 32 8)) = some i_Core_others_here.body := by kernel_rfl
theorem c_Core_is_quiet : nCS (cS ⟨i_Core_is_quiet.N, defScope (topM 32 9), gl⟩ 60) (defBody (topM 32 9)) = some i_Core_is_quiet.body := by kernel_rfl
theorem c_Core_tell_up : nCS (cS ⟨i_Core_tell_up.N, defScope (topM 32 10), gl⟩ 60) (defBody (topM 32 10)) = some i_Core_tell_up.body := by kernel_rfl
theorem c_Core_clear : nCS (cS ⟨i_Core_clear.N, defScope (topM 32 11), gl⟩ 60) (defBody (topM 32 11)) = some i_Core_clear.body := by kernel_rfl
theorem c_Core_list_at : nCS (cS ⟨i_Core_list_at.N, defScope (topM 32 12), gl⟩ 60) (defBody (topM 32 12)) = some i_Core_list_at.body := by kernel_rfl
theorem c_Core_unlist : nCS (cS ⟨i_Core_unlist.N, defScope (topM 32 13), gl⟩ 60) (defBody (topM 32 13)) = some i_Core_unlist.body := by kernel_rfl
theorem c_Core_stop : nCS (cS ⟨i_Core_stop.N, defScope (topM 32 14), gl⟩ 60) (defBody (topM 32 14)) = some i_Core_stop.body := by kernel_rfl
theorem c_Core_is_stopped : nCS (cS ⟨i_Core_is_stopped.N, defScope (topM 32 15), gl⟩ 60) (defBody (topM 32 15)) = some i_Core_is_stopped.body := by kernel_rfl
theorem c_opened_number : nCS (cS ⟨i_opened_number.N, defScope (topS 34), gl⟩ 60) (defBody (topS 34)) = some i_opened_number.body := by kernel_rfl
theorem c_is_under_way : nCS (cS ⟨i_is_under_way.N, defScope (topS 35), gl⟩ 60) (defBody (topS 35)) = some i_is_under_way.body := by kernel_rfl
theorem c_open_leaf : nCS (cS ⟨i_open_leaf.N, defScope (topS 36), gl⟩ 60) (defBody (topS 36)) = some i_open_leaf.body := by kernel_rfl
theorem c_open_next : nCS (cS ⟨i_open_next.N, defScope (topS 37), gl⟩ 60) (defBody (topS 37)) = some i_open_next.body := by kernel_rfl
theorem c_seek_next : nCS (cS ⟨i_seek_next.N, defScope (topS 38), gl⟩ 60) (defBody (topS 38)) = some i_seek_next.body := by kernel_rfl
theorem c_close_next : nCS (cS ⟨i_close_next.N, defScope (topS 39), gl⟩ 60) (defBody (topS 39)) = some i_close_next.body := by kernel_rfl
theorem c_begin_one : nCS (cS ⟨i_begin_one.N, defScope (topS 40), gl⟩ 60) (defBody (topS 40)) = some i_begin_one.body := by kernel_rfl
theorem c_open_early : nCS (cS ⟨i_open_early.N, defScope (topS 41), gl⟩ 60) (defBody (topS 41)) = some i_open_early.body := by kernel_rfl
theorem c_keep_step : nCS (cS ⟨i_keep_step.N, defScope (topS 42), gl⟩ 60) (defBody (topS 42)) = some i_keep_step.body := by kernel_rfl
theorem c_entered_ahead : nCS (cS ⟨i_entered_ahead.N, defScope (topS 43), gl⟩ 60) (defBody (topS 43)) = some i_entered_ahead.body := by kernel_rfl
theorem c_ask_leaf : nCS (cS ⟨i_ask_leaf.N, defScope (topS 44), gl⟩ 60) (defBody (topS 44)) = some i_ask_leaf.body := by kernel_rfl
theorem c_rush_step : nCS (cS ⟨i_rush_step.N, defScope (topS 45), gl⟩ 60) (defBody (topS 45)) = some i_rush_step.body := by kernel_rfl
theorem c_enter_lane : nCS (cS ⟨i_enter_lane.N, defScope (topS 47), gl⟩ 60) (defBody (topS 47)) = some i_enter_lane.body := by kernel_rfl
theorem c_come_out : nCS (cS ⟨i_come_out.N, defScope (topS 48), gl⟩ 60) (defBody (topS 48)) = some i_come_out.body := by kernel_rfl
theorem c_break_off : nCS (cS ⟨i_break_off.N, defScope (topS 49), gl⟩ 60) (defBody (topS 49)) = some i_break_off.body := by kernel_rfl
theorem c_go_on : nCS (cS ⟨i_go_on.N, defScope (topS 50), gl⟩ 60) (defBody (topS 50)) = some i_go_on.body := by kernel_rfl
theorem c_do_of_reader : nCS (cS ⟨i_do_of_reader.N, defScope (topS 51), gl⟩ 60) (defBody (topS 51)) = some i_do_of_reader.body := by kernel_rfl
theorem c_look_at_leaf : nCS (cS ⟨i_look_at_leaf.N, defScope (topS 53), gl⟩ 60) (defBody (topS 53)) = some i_look_at_leaf.body := by kernel_rfl
theorem c_tell_leaf : nCS (cS ⟨i_tell_leaf.N, defScope (topS 54), gl⟩ 60) (defBody (topS 54)) = some i_tell_leaf.body := by kernel_rfl
theorem c_come_back : nCS (cS ⟨i_come_back.N, defScope (topS 56), gl⟩ 60) (defBody (topS 56)) = some i_come_back.body := by kernel_rfl
theorem c_do_of_lane : nCS (cS ⟨i_do_of_lane.N, defScope (topS 57), gl⟩ 60) (defBody (topS 57)) = some i_do_of_lane.body := by kernel_rfl
theorem c_drop_thing : nCS (cS ⟨i_drop_thing.N, defScope (topS 58), gl⟩ 60) (defBody (topS 58)) = some i_drop_thing.body := by kernel_rfl
theorem c_do_alone : nCS (cS ⟨i_do_alone.N, defScope (topS 59), gl⟩ 60) (defBody (topS 59)) = some i_do_alone.body := by kernel_rfl
theorem c_do_now : nCS (cS ⟨i_do_now.N, defScope (topS 60), gl⟩ 60) (defBody (topS 60)) = some i_do_now.body := by kernel_rfl
theorem c_most_of : nCS (cS ⟨i_most_of.N, defScope (topS 64), gl⟩ 60) (defBody (topS 64)) = some i_most_of.body := by kernel_rfl
theorem c_is_number : nCS (cS ⟨i_is_number.N, defScope (topS 65), gl⟩ 60) (defBody (topS 65)) = some i_is_number.body := by kernel_rfl
theorem c_is_deed : nCS (cS ⟨i_is_deed.N, defScope (topS 66), gl⟩ 60) (defBody (topS 66)) = some i_is_deed.body := by kernel_rfl
theorem c_can_of_reader : nCS (cS ⟨i_can_of_reader.N, defScope (topS 67), gl⟩ 60) (defBody (topS 67)) = some i_can_of_reader.body := by kernel_rfl
theorem c_can_of_lane : nCS (cS ⟨i_can_of_lane.N, defScope (topS 68), gl⟩ 60) (defBody (topS 68)) = some i_can_of_lane.body := by kernel_rfl
theorem c_can_now : nCS (cS ⟨i_can_now.N, defScope (topS 69), gl⟩ 60) (defBody (topS 69)) = some i_can_now.body := by kernel_rfl
theorem c_look_at_shape : nCS (cS ⟨i_look_at_shape.N, defScope (topS 96), gl⟩ 60) (defBody (topS 96)) = some i_look_at_shape.body := by kernel_rfl
theorem c_look_at_rules : nCS (cS ⟨i_look_at_rules.N, defScope (topS 100), gl⟩ 60) (defBody (topS 100)) = some i_look_at_rules.body := by kernel_rfl
theorem c_Weave_init__ : nCS (cS ⟨i_Weave_init__.N, defScope (topM 101 0), gl⟩ 60) (defBody (topM 101 0)) = some i_Weave_init__.body := by kernel_rfl
theorem c_Weave_can : nCS (cS ⟨i_Weave_can.N, defScope (topM 101 1), gl⟩ 60) (defBody (topM 101 1)) = some i_Weave_can.body := by kernel_rfl
theorem c_Weave_do : nCS (cS ⟨i_Weave_do.N, defScope (topM 101 2), gl⟩ 60) (defBody (topM 101 2)) = some i_Weave_do.body := by kernel_rfl
theorem c_Weave_now : nCS (cS ⟨i_Weave_now.N, defScope (topM 101 5), gl⟩ 60) (defBody (topM 101 5)) = some i_Weave_now.body := by kernel_rfl
theorem c_Weave_wanted : nCS (cS ⟨i_Weave_wanted.N, defScope (topM 101 6), gl⟩ 60) (defBody (topM 101 6)) = some i_Weave_wanted.body := by kernel_rfl
theorem c_Weave_node : nCS (cS ⟨i_Weave_node.N, defScope (topM 101 10), gl⟩ 60) (defBody (topM 101 10)) = some i_Weave_node.body := by kernel_rfl
theorem c_law_rows : nCS (cS ⟨i_law_rows.N, defScope (topS 103), gl⟩ 60) (defBody (topS 103)) = some i_law_rows.body := by kernel_rfl
theorem c_law_told : nCS (cS ⟨i_law_told.N, defScope (topS 104), gl⟩ 60) (defBody (topS 104)) = some i_law_told.body := by kernel_rfl
theorem c_law_due : nCS (cS ⟨i_law_due.N, defScope (topS 105), gl⟩ 60) (defBody (topS 105)) = some i_law_due.body := by kernel_rfl
theorem c_law_left_out : nCS (cS ⟨i_law_left_out.N, defScope (topS 106), gl⟩ 60) (defBody (topS 106)) = some i_law_left_out.body := by kernel_rfl
theorem c_law : nCS (cS ⟨i_law.N, defScope (topS 107), gl⟩ 60) (defBody (topS 107)) = some i_law.body := by kernel_rfl
set_option Elab.async false
set_option linter.all false
set_option maxRecDepth 100000
set_option maxHeartbeats 4000000
open PySem QL
open L2 hiding wE wT
def ecs : List (Str × EV) := (("MOST_FAN", (.int 4)) :: ("LEAST_FAN", (.int 2)) :: ("MOST_LANES", (.int 8)) :: ("THINGS", (.int 8)) :: ("READERS", (.int 6)) :: ("RULES", (.tup [(.str "look"), (.str "list"), (.str "held"), (.str "late"), (.str "idle"), (.str "whole"), (.str "wait"), (.str "order"), (.str "asked")])) :: ("AWAKE", (.str "awake")) :: ("IDLE", (.str "idle")) :: ("GONE", (.str "gone")) :: ("SWIFT", (.str "swift")) :: ("PLAIN", (.str "plain")) :: ("DEEPEST", (.int 4)) :: [])
def ed_FORMS : List (Str × EV) := (("enter", (.str "rl")) :: ("deeper", (.str "r")) :: ("out", (.str "r")) :: ("off", (.str "r")) :: ("on", (.str "rl")) :: ("idle", (.str "l")) :: ("wake", (.str "l")) :: ("go", (.str "l")) :: ("come", (.str "l")) :: ("look", (.str "l")) :: ("pass", (.str "l")) :: ("tell", (.str "l")) :: ("ask", (.str "")) :: ("keep", (.str "")) :: ("hold", (.str "rt")) :: ("drop", (.str "lt")) :: ("run", (.str "l")) :: ("put", (.str "t")) :: ("swift", (.str "lt")) :: ("hurry", (.str "")) :: ("rush", (.str "")) :: [])
def eds : List (Str × List (Str × EV)) := (("FORMS", ed_FORMS) :: [])
def ocs : List Str := ("Weave" :: "Shape" :: "Core" :: "NodeSeat" :: "ReaderSeat" :: "LaneSeat" :: [])
def ons : List Str := ("Weave" :: "Shape" :: "Core" :: "NodeSeat" :: "ReaderSeat" :: "LaneSeat" :: [])
def cfl : List (Str × Str) := (("Weave", "left_out") :: ("Weave", "core") :: ("Weave", "own_log") :: ("Shape", "own_lanes") :: ("Shape", "own_fan") :: ("Shape", "rows") :: ("Core", "own_shape") :: ("Core", "without") :: ("Core", "lane_seats") :: ("Core", "reader_seats") :: ("Core", "node_seats") :: ("Core", "things_in") :: ("Core", "things_gone") :: ("Core", "numbers") :: ("Core", "wanted_by") :: ("Core", "opened") :: ("Core", "sought") :: ("Core", "closed") :: ("Core", "asked") :: ("Core", "waited") :: ("NodeSeat", "bits") :: ("NodeSeat", "listed") :: ("NodeSeat", "held") :: ("NodeSeat", "opened_for") :: ("NodeSeat", "stopped") :: ("ReaderSeat", "deep") :: ("ReaderSeat", "on") :: ("ReaderSeat", "entered") :: ("ReaderSeat", "listed_at") :: ("ReaderSeat", "things") :: ("LaneSeat", "word") :: ("LaneSeat", "runs") :: ("LaneSeat", "looked") :: ("LaneSeat", "wants") :: ("LaneSeat", "passed") :: ("LaneSeat", "calls_by") :: [])
def cmt : List (Str × Str × Str) := (("LaneSeat", "is_free", "LaneSeat.is_free") :: ("ReaderSeat", "is_running", "ReaderSeat.is_running") :: ("ReaderSeat", "is_off", "ReaderSeat.is_off") :: ("ReaderSeat", "leave", "ReaderSeat.leave") :: ("NodeSeat", "is_quiet", "NodeSeat.is_quiet") :: ("Shape", "lanes", "Shape.lanes") :: ("Shape", "nodes", "Shape.nodes") :: ("Shape", "first_of", "Shape.first_of") :: ("Shape", "leaves", "Shape.leaves") :: ("Shape", "leaf_of", "Shape.leaf_of") :: ("Shape", "seat_of", "Shape.seat_of") :: ("Shape", "parent_of", "Shape.parent_of") :: ("Shape", "beneath", "Shape.beneath") :: ("Core", "lacks", "Core.lacks") :: ("Core", "goes_on", "Core.goes_on") :: ("Core", "leaf", "Core.leaf") :: ("Core", "due", "Core.due") :: ("Core", "ask", "Core.ask") :: ("Core", "is_old", "Core.is_old") :: ("Core", "is_here", "Core.is_here") :: ("Core", "others_here", "Core.others_here") :: ("Core", "is_quiet", "Core.is_quiet") :: ("Core", "tell_up", "Core.tell_up") :: ("Core", "clear", "Core.clear") :: ("Core", "list_at", "Core.list_at") :: ("Core", "unlist", "Core.unlist") :: ("Core", "stop", "Core.stop") :: ("Core", "is_stopped", "Core.is_stopped") :: ("Weave", "can", "Weave.can") :: ("Weave", "do", "Weave.do") :: ("Weave", "now", "Weave.now") :: ("Weave", "wanted", "Weave.wanted") :: ("Weave", "node", "Weave.node") :: [])
def emk : List (Str × Nat × List Str × Str × List (Nat ⊕ EV)) := (("Weave", 2, ["without"], "Weave.__init__", [.inl 0, .inr .non, .inl 1]) :: ("Shape", 1, [], "Shape.__init__", [.inl 0, .inr (.int 2)]) :: ("Core", 2, [], "Core.__init__", [.inl 0, .inl 1]) :: ("NodeSeat", 0, [], "NodeSeat.__init__", []) :: ("ReaderSeat", 0, [], "ReaderSeat.__init__", []) :: ("LaneSeat", 0, [], "LaneSeat.__init__", []) :: [])
def es : ES where
  gv := fun x => lookK x ecs
  gd := fun x => lookK x eds
  fl := fun c f => cfl.any fun e => eqK e.1 c && eqK e.2 f
  xc := fun _ => none
  isa := fun _ _ => none
  iso := fun d c => if (ons.contains d && ons.contains c) = true then some (eqK d c) else none
  isb := fun c => ocs.contains c
  xf := fun _ _ => false
  mt := fun c m => (cmt.find? fun e => eqK e.1 c && eqK e.2.1 m).map (·.2.2)
  mkc := fun c n ks => (emk.find? fun e => eqK e.1 c && (e.2.1 == n && e.2.2.1 == ks)).map fun e => e.2.2.2
set_option Elab.async false
set_option linter.all false
set_option maxRecDepth 100000
set_option maxHeartbeats 0
/-! K46c: the finite runs, one by one. -/
open PySem QL
open L2 hiding wE wT
/-- what is done for one rule -/
def bdy : Sxs := match b_law with
  | .cons _ (.cons _ (.cons (.forS _ _ b) _)) => b
  | _ => .nil
def tst : Sx → Te
  | .forS _ _ (.cons (.ifs c _ _) _) => c
  | _ => .yes
def c1 : Te := match bdy with
  | .cons s _ => tst s
  | _ => .yes
def c2 : Te := match bdy with
  | .cons _ (.cons s _) => tst s
  | _ => .yes
def last : Ex := match b_law with
  | .cons _ (.cons _ (.cons _ (.cons _ (.cons _ (.cons (.ret e) _))))) => e
  | _ => .nev
abbrev F0 : Str → List EV → EH → R EV := evF es T 20
def no0 (r : R Bool) : Bool := match r with
  | .ok b _ => !b
  | _ => false
def hd0 (h : EH) : Option EO := h[0]?
def no1 (xs : List EV) (r : R Bool) : Bool := match r with
  | .ok b h => !b && (match hd0 h with
    | some (EO.lst ys) => beqEs ys xs
    | _ => false)
  | _ => false
def yes0 (r : R EV) : Bool := match r with
  | .ok (.bl b) _ => b
  | _ => false
def sg (r : Str) (x : EV) : ESt := [none, none, none, some (.str r), none, some x, none, none]
def sz (a b : Str) : ESt := [none, none, none, none, none, none, some (.str a), some (.str b)]
def q0 (c : Te) (r : Str) (xs : List EV) : Bool := no0 (evT es F0 c (sg r (.tup xs)) [])
def q1 (c : Te) (r : Str) (xs : List EV) : Bool := no1 xs (evT es F0 c (sg r (.ref 0)) [.lst xs])
theorem w1_look : q0 c1 "look" [] = true := by kernel_rfl
theorem w2_look : q1 c1 "look" [] = true := by kernel_rfl
theorem w3_look : q0 c2 "look" [.str "look"] = true := by kernel_rfl
theorem w4_look : q1 c2 "look" [.str "look"] = true := by kernel_rfl
theorem w1_list : q0 c1 "list" [] = true := by kernel_rfl
theorem w2_list : q1 c1 "list" [] = true := by kernel_rfl
theorem w3_list : q0 c2 "list" [.str "list"] = true := by kernel_rfl
theorem w4_list : q1 c2 "list" [.str "list"] = true := by kernel_rfl
theorem w1_held : q0 c1 "held" [] = true := by kernel_rfl
theorem w2_held : q1 c1 "held" [] = true := by kernel_rfl
theorem w3_held : q0 c2 "held" [.str "held"] = true := by kernel_rfl
theorem w4_held : q1 c2 "held" [.str "held"] = true := by kernel_rfl
theorem w1_late : q0 c1 "late" [] = true := by kernel_rfl
theorem w2_late : q1 c1 "late" [] = true := by kernel_rfl
theorem w3_late : q0 c2 "late" [.str "late"] = true := by kernel_rfl
theorem w4_late : q1 c2 "late" [.str "late"] = true := by kernel_rfl
theorem w1_idle : q0 c1 "idle" [] = true := by kernel_rfl
theorem w2_idle : q1 c1 "idle" [] = true := by kernel_rfl
theorem w3_idle : q0 c2 "idle" [.str "idle"] = true := by kernel_rfl
theorem w4_idle : q1 c2 "idle" [.str "idle"] = true := by kernel_rfl
theorem w1_whole : q0 c1 "whole" [] = true := by kernel_rfl
theorem w2_whole : q1 c1 "whole" [] = true := by kernel_rfl
theorem w3_whole : q0 c2 "whole" [.str "whole"] = true := by kernel_rfl
theorem w4_whole : q1 c2 "whole" [.str "whole"] = true := by kernel_rfl
theorem w1_wait : q0 c1 "wait" [] = true := by kernel_rfl
theorem w2_wait : q1 c1 "wait" [] = true := by kernel_rfl
theorem w3_wait : q0 c2 "wait" [.str "wait"] = true := by kernel_rfl
theorem w4_wait : q1 c2 "wait" [.str "wait"] = true := by kernel_rfl
theorem w1_order : q0 c1 "order" [] = true := by kernel_rfl
theorem w2_order : q1 c1 "order" [] = true := by kernel_rfl
theorem w3_order : q0 c2 "order" [.str "order"] = true := by kernel_rfl
theorem w4_order : q1 c2 "order" [.str "order"] = true := by kernel_rfl
theorem w1_asked : q0 c1 "asked" [] = true := by kernel_rfl
theorem w2_asked : q1 c1 "asked" [] = true := by kernel_rfl
theorem w3_asked : q0 c2 "asked" [.str "asked"] = true := by kernel_rfl
theorem w4_asked : q1 c2 "asked" [.str "asked"] = true := by kernel_rfl
theorem z_held : yes0 (evE es F0 last (sz "held" "asked") []) = true := by kernel_rfl
theorem z_whole : yes0 (evE es F0 last (sz "whole" "look") []) = true := by kernel_rfl
theorem z_order : yes0 (evE es F0 last (sz "order" "list") []) = true := by kernel_rfl
set_option Elab.async false
set_option linter.all false
set_option maxRecDepth 100000
set_option maxHeartbeats 4000000
open PySem QL
open L2 hiding wE wT
def dfs : List He.DefD := 
  ⟨("LaneSeat", some "__init__"), "__init__", "LaneSeat.__init__", defArgs (topM 7 0), defBody (topM 7 0), defScope (topM 7 0), [], []⟩ ::
  ⟨("LaneSeat", some "is_free"), "is_free", "LaneSeat.is_free", defArgs (topM 7 1), defBody (topM 7 1), defScope (topM 7 1), [], []⟩ ::
  ⟨("ReaderSeat", some "__init__"), "__init__", "ReaderSeat.__init__", defArgs (topM 8 0), defBody (topM 8 0), defScope (topM 8 0), [], []⟩ ::
  ⟨("ReaderSeat", some "is_running"), "is_running", "ReaderSeat.is_running", defArgs (topM 8 1), defBody (topM 8 1), defScope (topM 8 1), [], []⟩ ::
  ⟨("ReaderSeat", some "is_off"), "is_off", "ReaderSeat.is_off", defArgs (topM 8 2), defBody (topM 8 2), defScope (topM 8 2), [], []⟩ ::
  ⟨("ReaderSeat", some "leave"), "leave", "ReaderSeat.leave", defArgs (topM 8 3), defBody (topM 8 3), defScope (topM 8 3), [], []⟩ ::
  ⟨("NodeSeat", some "__init__"), "__init__", "NodeSeat.__init__", defArgs (topM 9 0), defBody (topM 9 0), defScope (topM 9 0), [], []⟩ ::
  ⟨("NodeSeat", some "is_quiet"), "is_quiet", "NodeSeat.is_quiet", defArgs (topM 9 1), defBody (topM 9 1), defScope (topM 9 1), [], []⟩ ::
  ⟨("is_within", none), "is_within", "is_within", defArgs (topS 23), defBody (topS 23), defScope (topS 23), [], []⟩ ::
  ⟨("halves_up", none), "halves_up", "halves_up", defArgs (topS 24), defBody (topS 24), defScope (topS 24), [], []⟩ ::
  ⟨("Shape", some "__init__"), "__init__", "Shape.__init__", defArgs (topM 25 0), defBody (topM 25 0), defScope (topM 25 0), [], [("fan", .int 2)]⟩ ::
  ⟨("Shape", some "lanes"), "lanes", "Shape.lanes", defArgs (topM 25 1), defBody (topM 25 1), defScope (topM 25 1), [], []⟩ ::
  ⟨("Shape", some "nodes"), "nodes", "Shape.nodes", defArgs (topM 25 3), defBody (topM 25 3), defScope (topM 25 3), [], []⟩ ::
  ⟨("Shape", some "first_of"), "first_of", "Shape.first_of", defArgs (topM 25 4), defBody (topM 25 4), defScope (topM 25 4), [], []⟩ ::
  ⟨("Shape", some "leaves"), "leaves", "Shape.leaves", defArgs (topM 25 5), defBody (topM 25 5), defScope (topM 25 5), [], []⟩ ::
  ⟨("Shape", some "leaf_of"), "leaf_of", "Shape.leaf_of", defArgs (topM 25 6), defBody (topM 25 6), defScope (topM 25 6), [], []⟩ ::
  ⟨("Shape", some "seat_of"), "seat_of", "Shape.seat_of", defArgs (topM 25 7), defBody (topM 25 7), defScope (topM 25 7), [], []⟩ ::
  ⟨("Shape", some "parent_of"), "parent_of", "Shape.parent_of", defArgs (topM 25 8), defBody (topM 25 8), defScope (topM 25 8), [], []⟩ ::
  ⟨("Shape", some "beneath"), "beneath", "Shape.beneath", defArgs (topM 25 9), defBody (topM 25 9), defScope (topM 25 9), [], []⟩ ::
  ⟨("look_at_number", none), "look_at_number", "look_at_number", defArgs (topS 27), defBody (topS 27), defScope (topS 27), [], []⟩ ::
  ⟨("due_of", none), "due_of", "due_of", defArgs (topS 28), defBody (topS 28), defScope (topS 28), [], []⟩ ::
  ⟨("Core", some "__init__"), "__init__", "Core.__init__", defArgs (topM 32 0), defBody (topM 32 0), defScope (topM 32 0), [], []⟩ ::
  ⟨("Core", some "lacks"), "lacks", "Core.lacks", defArgs (topM 32 1), defBody (topM 32 1), defScope (topM 32 1), [], []⟩ ::
  ⟨("Core", some "goes_on"), "goes_on", "Core.goes_on", defArgs (topM 32 2), defBody (topM 32 2), defScope (topM 32 2), [], []⟩ ::
  ⟨("Core", some "leaf"), "leaf", "Core.leaf", defArgs (topM 32 3), defBody (topM 32 3), defScope (topM 32 3), [], []⟩ ::
  ⟨("Core", some "due"), "due", "Core.due", defArgs (topM 32 4), defBody (topM 32 4), defScope (topM 32 4), [], []⟩ ::
  ⟨("Core", some "ask"), "ask", "Core.ask", defArgs (topM 32 5), defBody (topM 32 5), defScope (topM 32 5), [], []⟩ ::
  ⟨("Core", some "is_old"), "is_old", "Core.is_old", defArgs (topM 32 6), defBody (topM 32 6), defScope (topM 32 6), [], []⟩ ::
  ⟨("Core", some "is_here"), "is_here", "Core.is_here", defArgs (topM 32 7), defBody (topM 32 7), defScope (topM 32 7), [], []⟩ ::
  ⟨("Core", some "others_here"), "others_here", "Core.others_here", defArgs (topM 32 8), defBody (topM 32 8), defScope (topM 32 8), [], []⟩ ::
  ⟨("Core", some "is_quiet"), "is_quiet", "Core.is_quiet", defArgs (topM 32 9), defBody (topM 32 9), defScope (topM 32 9), [], []⟩ ::
  ⟨("Core", some "tell_up"), "tell_up", "Core.tell_up", defArgs (topM 32 10), defBody (topM 32 10), defScope (topM 32 10), [], []⟩ ::
  ⟨("Core", some "clear"), "clear", "Core.clear", defArgs (topM 32 11), defBody (topM 32 11), defScope (topM 32 11), [], []⟩ ::
  ⟨("Core", some "list_at"), "list_at", "Core.list_at", defArgs (topM 32 12), defBody (topM 32 12), defScope (topM 32 12), [], []⟩ ::
  ⟨("Core", some "unlist"), "unlist", "Core.unlist", defArgs (topM 32 13), defBody (topM 32 13), defScope (topM 32 13), [], []⟩ ::
  ⟨("Core", some "stop"), "stop", "Core.stop", defArgs (topM 32 14), defBody (topM 32 14), defScope (topM 32 14), [], []⟩ ::
  ⟨("Core", some "is_stopped"), "is_stopped", "Core.is_stopped", defArgs (topM 32 15), defBody (topM 32 15), defScope (topM 32 15), [], []⟩ ::
  ⟨("opened_number", none), "opened_number", "opened_number", defArgs (topS 34), defBody (topS 34), defScope (topS 34), [], []⟩ ::
  ⟨("is_under_way", none), "is_under_way", "is_under_way", defArgs (topS 35), defBody (topS 35), defScope (topS 35), [], []⟩ ::
  ⟨("open_leaf", none), "open_leaf", "open_leaf", defArgs (topS 36), defBody (topS 36), defScope (topS 36), [], []⟩ ::
  ⟨("open_next", none), "open_next", "open_next", defArgs (topS 37), defBody (topS 37), defScope (topS 37), [], []⟩ ::
  ⟨("seek_next", none), "seek_next", "seek_next", defArgs (topS 38), defBody (topS 38), defScope (topS 38), [], []⟩ ::
  ⟨("close_next", none), "close_next", "close_next", defArgs (topS 39), defBody (topS 39), defScope (topS 39), [], []⟩ ::
  ⟨("begin_one", none), "begin_one", "begin_one", defArgs (topS 40), defBody (topS 40), defScope (topS 40), [], []⟩ ::
  ⟨("open_early", none), "open_early", "open_early", defArgs (topS 41), defBody (topS 41), defScope (topS 41), [], []⟩ ::
  ⟨("keep_step", none), "keep_step", "keep_step", defArgs (topS 42), defBody (topS 42), defScope (topS 42), [], []⟩ ::
  ⟨("entered_ahead", none), "entered_ahead", "entered_ahead", defArgs (topS 43), defBody (topS 43), defScope (topS 43), [], []⟩ ::
  ⟨("ask_leaf", none), "ask_leaf", "ask_leaf", defArgs (topS 44), defBody (topS 44), defScope (topS 44), [], []⟩ ::
  ⟨("rush_step", none), "rush_step", "rush_step", defArgs (topS 45), defBody (topS 45), defScope (topS 45), [], []⟩ ::
  ⟨("enter_lane", none), "enter_lane", "enter_lane", defArgs (topS 47), defBody (topS 47), defScope (topS 47), [], []⟩ ::
  ⟨("come_out", none), "come_out", "come_out", defArgs (topS 48), defBody (topS 48), defScope (topS 48), [], []⟩ ::
  ⟨("break_off", none), "break_off", "break_off", defArgs (topS 49), defBody (topS 49), defScope (topS 49), [], []⟩ ::
  ⟨("go_on", none), "go_on", "go_on", defArgs (topS 50), defBody (topS 50), defScope (topS 50), [], []⟩ ::
  ⟨("do_of_reader", none), "do_of_reader", "do_of_reader", defArgs (topS 51), defBody (topS 51), defScope (topS 51), [], []⟩ ::
  ⟨("look_at_leaf", none), "look_at_leaf", "look_at_leaf", defArgs (topS 53), defBody (topS 53), defScope (topS 53), [], []⟩ ::
  ⟨("tell_leaf", none), "tell_leaf", "tell_leaf", defArgs (topS 54), defBody (topS 54), defScope (topS 54), [], []⟩ ::
  ⟨("come_back", none), "come_back", "come_back", defArgs (topS 56), defBody (topS 56), defScope (topS 56), [], []⟩ ::
  ⟨("do_of_lane", none), "do_of_lane", "do_of_lane", defArgs (topS 57), defBody (topS 57), defScope (topS 57), [], []⟩ ::
  ⟨("drop_thing", none), "drop_thing", "drop_thing", defArgs (topS 58), defBody (topS 58), defScope (topS 58), [], []⟩ ::
  ⟨("do_alone", none), "do_alone", "do_alone", defArgs (topS 59), defBody (topS 59), defScope (topS 59), [], []⟩ ::
  ⟨("do_now", none), "do_now", "do_now", defArgs (topS 60), defBody (topS 60), defScope (topS 60), [], []⟩ ::
  ⟨("most_of", none), "most_of", "most_of", defArgs (topS 64), defBody (topS 64), defScope (topS 64), [], []⟩ ::
  ⟨("is_number", none), "is_number", "is_number", defArgs (topS 65), defBody (topS 65), defScope (topS 65), [], []⟩ ::
  ⟨("is_deed", none), "is_deed", "is_deed", defArgs (topS 66), defBody (topS 66), defScope (topS 66), [], []⟩ ::
  ⟨("can_of_reader", none), "can_of_reader", "can_of_reader", defArgs (topS 67), defBody (topS 67), defScope (topS 67), [], []⟩ ::
  ⟨("can_of_lane", none), "can_of_lane", "can_of_lane", defArgs (topS 68), defBody (topS 68), defScope (topS 68), [], []⟩ ::
  ⟨("can_now", none), "can_now", "can_now", defArgs (topS 69), defBody (topS 69), defScope (topS 69), [], []⟩ ::
  ⟨("look_at_shape", none), "look_at_shape", "look_at_shape", defArgs (topS 96), defBody (topS 96), defScope (topS 96), [], []⟩ ::
  ⟨("look_at_rules", none), "look_at_rules", "look_at_rules", defArgs (topS 100), defBody (topS 100), defScope (topS 100), [], []⟩ ::
  ⟨("Weave", some "__init__"), "__init__", "Weave.__init__", defArgs (topM 101 0), defBody (topM 101 0), defScope (topM 101 0), [], [("stand", .non), ("without", .adr (kwAt ("Weave", some "__init__") "without"))]⟩ ::
  ⟨("Weave", some "can"), "can", "Weave.can", defArgs (topM 101 1), defBody (topM 101 1), defScope (topM 101 1), [], []⟩ ::
  ⟨("Weave", some "do"), "do", "Weave.do", defArgs (topM 101 2), defBody (topM 101 2), defScope (topM 101 2), [], []⟩ ::
  ⟨("Weave", some "now"), "now", "Weave.now", defArgs (topM 101 5), defBody (topM 101 5), defScope (topM 101 5), [], []⟩ ::
  ⟨("Weave", some "wanted"), "wanted", "Weave.wanted", defArgs (topM 101 6), defBody (topM 101 6), defScope (topM 101 6), [], []⟩ ::
  ⟨("Weave", some "node"), "node", "Weave.node", defArgs (topM 101 10), defBody (topM 101 10), defScope (topM 101 10), [], []⟩ ::
  ⟨("_law_rows", none), "_law_rows", "_law_rows", defArgs (topS 103), defBody (topS 103), defScope (topS 103), [], []⟩ ::
  ⟨("_law_told", none), "_law_told", "_law_told", defArgs (topS 104), defBody (topS 104), defScope (topS 104), [], []⟩ ::
  ⟨("_law_due", none), "_law_due", "_law_due", defArgs (topS 105), defBody (topS 105), defScope (topS 105), [], []⟩ ::
  ⟨("_law_left_out", none), "_law_left_out", "_law_left_out", defArgs (topS 106), defBody (topS 106), defScope (topS 106), [], []⟩ ::
  ⟨("law", none), "law", "law", defArgs (topS 107), defBody (topS 107), defScope (topS 107), [], []⟩ :: []
def mks : List MkR := (("Weave", 2, ["without"], "Weave.__init__", fun K => [.inl 0, .inr (.non), .inl 1]) :: ("Shape", 1, [], "Shape.__init__", fun K => [.inl 0, .inr (.int 2)]) :: ("Core", 2, [], "Core.__init__", fun K => [.inl 0, .inl 1]) :: ("NodeSeat", 0, [], "NodeSeat.__init__", fun K => []) :: ("ReaderSeat", 0, [], "ReaderSeat.__init__", fun K => []) :: ("LaneSeat", 0, [], "LaneSeat.__init__", fun K => []) :: [])
def fas : List He.Fa := (.glo "law" :: .glo "_law_told" :: .glo "_law_left_out" :: .glo "_law_due" :: .glo "_law_rows" :: .glo "is_number" :: .glo "do_now" :: .glo "look_at_rules" :: .glo "look_at_shape" :: .glo "halves_up" :: .glo "is_within" :: .glo "do_of_lane" :: .glo "do_of_reader" :: .glo "drop_thing" :: .glo "do_alone" :: .glo "can_now" :: .glo "is_deed" :: .glo "come_back" :: .glo "tell_leaf" :: .glo "look_at_leaf" :: .glo "enter_lane" :: .glo "go_on" :: .glo "come_out" :: .glo "break_off" :: .glo "rush_step" :: .glo "keep_step" :: .glo "can_of_lane" :: .glo "can_of_reader" :: .glo "most_of" :: .glo "ask_leaf" :: .glo "close_next" :: .glo "seek_next" :: .glo "open_next" :: .glo "open_early" :: .glo "is_under_way" :: .glo "begin_one" :: .glo "due_of" :: .glo "entered_ahead" :: .glo "open_leaf" :: .glo "opened_number" :: .glo "look_at_number" :: .glo "Weave" :: .glo "Shape" :: .glo "Core" :: .glo "NodeSeat" :: .glo "ReaderSeat" :: .glo "LaneSeat" :: .glo "FORMS" :: .glo "RULES" :: .keep "Weave" :: .keep "Shape" :: .keep "Core" :: .keep "NodeSeat" :: .keep "ReaderSeat" :: .keep "LaneSeat" :: .free "repr" :: .free "abs" :: .free "tuple" :: .free "sorted" :: .free "list" :: .free "isinstance" :: .free "bool" :: .free "int" :: .free "sum" :: .free "str" :: .free "all" :: .free "len" :: .free "max" :: .free "min" :: .free "range" :: .free "enumerate" :: .free "zip" :: .free "ValueError" :: .free "IndexError" :: .free "KeyError" :: .free "LookupError" :: .free "OverflowError" :: .free "RuntimeError" :: .int "MOST_FAN" 4 :: .int "LEAST_FAN" 2 :: .int "MOST_LANES" 8 :: .int "THINGS" 8 :: .int "READERS" 6 :: .str "AWAKE" "awake" :: .str "IDLE" "idle" :: .str "GONE" "gone" :: .str "SWIFT" "swift" :: .str "PLAIN" "plain" :: .int "DEEPEST" 4 :: .cls "Weave" :: .cls "Shape" :: .cls "Core" :: .cls "NodeSeat" :: .cls "ReaderSeat" :: .cls "LaneSeat" :: .noat "Weave" "left_out" :: .noat "Weave" "core" :: .noat "Weave" "own_log" :: .noat "Shape" "own_lanes" :: .noat "Shape" "own_fan" :: .noat "Shape" "rows" :: .noat "Core" "own_shape" :: .noat "Core" "without" :: .noat "Core" "lane_seats" :: .noat "Core" "reader_seats" :: .noat "Core" "node_seats" :: .noat "Core" "things_in" :: .noat "Core" "things_gone" :: .noat "Core" "numbers" :: .noat "Core" "wanted_by" :: .noat "Core" "opened" :: .noat "Core" "sought" :: .noat "Core" "closed" :: .noat "Core" "asked" :: .noat "Core" "waited" :: .noat "NodeSeat" "bits" :: .noat "NodeSeat" "listed" :: .noat "NodeSeat" "held" :: .noat "NodeSeat" "opened_for" :: .noat "NodeSeat" "stopped" :: .noat "ReaderSeat" "deep" :: .noat "ReaderSeat" "on" :: .noat "ReaderSeat" "entered" :: .noat "ReaderSeat" "listed_at" :: .noat "ReaderSeat" "things" :: .noat "LaneSeat" "word" :: .noat "LaneSeat" "runs" :: .noat "LaneSeat" "looked" :: .noat "LaneSeat" "wants" :: .noat "LaneSeat" "passed" :: .noat "LaneSeat" "calls_by" :: .meth "LaneSeat" "is_free" :: .meth "ReaderSeat" "is_running" :: .meth "ReaderSeat" "is_off" :: .meth "ReaderSeat" "leave" :: .meth "NodeSeat" "is_quiet" :: .meth "Shape" "lanes" :: .meth "Shape" "nodes" :: .meth "Shape" "first_of" :: .meth "Shape" "leaves" :: .meth "Shape" "leaf_of" :: .meth "Shape" "seat_of" :: .meth "Shape" "parent_of" :: .meth "Shape" "beneath" :: .meth "Core" "lacks" :: .meth "Core" "goes_on" :: .meth "Core" "leaf" :: .meth "Core" "due" :: .meth "Core" "ask" :: .meth "Core" "is_old" :: .meth "Core" "is_here" :: .meth "Core" "others_here" :: .meth "Core" "is_quiet" :: .meth "Core" "tell_up" :: .meth "Core" "clear" :: .meth "Core" "list_at" :: .meth "Core" "unlist" :: .meth "Core" "stop" :: .meth "Core" "is_stopped" :: .meth "Weave" "can" :: .meth "Weave" "do" :: .meth "Weave" "now" :: .meth "Weave" "wanted" :: .meth "Weave" "node" :: .mkr "Weave" :: .mkr "Shape" :: .mkr "Core" :: .mkr "NodeSeat" :: .mkr "ReaderSeat" :: .mkr "LaneSeat" :: [])
def xks : List (Str × Xb × Option Str) := ([])
def xcs : List (Str × Option Str) := xks.map fun e => (e.1, e.2.2)
def xfB (K : PySem.W.Frag) (C : Addr) (f : Str) : Bool := (xcs.any fun e => e.2 == some f && He.ga K e.1 == C) && (xvB K C && decide (PySem.W.findIn K (.ref C) f = some none))
def cst (K : PySem.W.Frag) (x : Str) : Option V := ([("MOST_FAN", .int 4), ("LEAST_FAN", .int 2), ("MOST_LANES", .int 8), ("THINGS", .int 8), ("READERS", .int 6), ("RULES", .ref (He.ga K "RULES")), ("AWAKE", .str "awake"), ("IDLE", .str "idle"), ("GONE", .str "gone"), ("SWIFT", .str "swift"), ("PLAIN", .str "plain"), ("DEEPEST", .int 4)] : List (Str × V)).lookup x
def dc_FORMS : List (Str × V) := (("enter", .str "rl") :: ("deeper", .str "r") :: ("out", .str "r") :: ("off", .str "r") :: ("on", .str "rl") :: ("idle", .str "l") :: ("wake", .str "l") :: ("go", .str "l") :: ("come", .str "l") :: ("look", .str "l") :: ("pass", .str "l") :: ("tell", .str "l") :: ("ask", .str "") :: ("keep", .str "") :: ("hold", .str "rt") :: ("drop", .str "lt") :: ("run", .str "l") :: ("put", .str "t") :: ("swift", .str "lt") :: ("hurry", .str "") :: ("rush", .str "") :: [])
def dcs : List (Str × List (Str × V)) := (("FORMS", dc_FORMS) :: [])
def tps : List (Str × List V) := (("RULES", [.str "look", .str "list", .str "held", .str "late", .str "idle", .str "whole", .str "wait", .str "order", .str "asked"]) :: [])
def tbs : List He.Tab := ((fun K => He.ga K "FORMS", ["enter", "deeper", "out", "off", "on", "idle", "wake", "go", "come", "look", "pass", "tell", "ask", "keep", "hold", "drop", "run", "put", "swift", "hurry", "rush"]) :: [])
def so0 (K : PySem.W.Frag) (a : Addr) : Option HO := (tps.find? fun e => He.ga K e.1 == a).map fun e => .tup e.2
def St0 (K : PySem.W.Frag) (so : Addr → Option HO) : Stat where
  gv := cst K
  gd := fun x => dcs.lookup x
  so := so
  fl := fun C f => ∃ x, C = He.ga K x ∧ (x, f) ∈ cfl
  xc := fun x => (xcs.lookup x).map fun f => (He.ga K x, f)
  isa := isaF K ocs
  iso := isoF K ocs
  isb := isbF K ocs
  xf := fun C f => xfB K C f = true
  mt := mtF K cmt
  mkc := mkF K mks
def more (K : PySem.W.Frag) : Bool := (ons.all fun d => ons.all fun c => decide (isoF K ocs (He.ga K d) c = some (eqK d c))) && ((ocs.all fun c => isbF K ocs c) && (cmt.all fun e => decide (mtF K cmt (He.ga K e.1) e.2.1 = some e.2.2)))
def exs (more : PySem.W.Frag → Bool) (K : PySem.W.Frag) : Bool := (fas.all fun f => f.ok K) && ((xks.all fun e => xkB K e.1 e.2.1 e.2.2) && ((dcs.all fun e => dctB K (He.ga K e.1) e.2) && ((tps.all fun e => tupB K (He.ga K e.1) e.2) && more K)))
section
variable {K : PySem.W.Frag} {w : World} {mg : Str → Option Value} {h : Heap} {more : PySem.W.Frag → Bool}
theorem fact (c : SaysQ (exs more) dfs tbs w K) (i : Nat) {f : He.Fa} (e : fas[i]? = some f) : f.ok K = true := List.all_eq_true.mp (He.ba c.more).1 f (List.mem_of_getElem? e)
theorem xk (c : SaysQ (exs more) dfs tbs w K) (i : Nat) {e : Str × Xb × Option Str} (q : xks[i]? = some e) : xkB K e.1 e.2.1 e.2.2 = true := List.all_eq_true.mp (He.ba (He.ba c.more).2).1 e (List.mem_of_getElem? q)
theorem dk (c : SaysQ (exs more) dfs tbs w K) (i : Nat) {e : Str × List (Str × V)} (q : dcs[i]? = some e) : dctB K (He.ga K e.1) e.2 = true := List.all_eq_true.mp (He.ba (He.ba (He.ba c.more).2).2).1 e (List.mem_of_getElem? q)
theorem tk (c : SaysQ (exs more) dfs tbs w K) {e : Str × List V} (q : e ∈ tps) : tupB K (He.ga K e.1) e.2 = true := List.all_eq_true.mp (He.ba (He.ba (He.ba (He.ba c.more).2).2).2).1 e q
theorem says_more (c : SaysQ (exs more) dfs tbs w K) : more K = true := (He.ba (He.ba (He.ba (He.ba c.more).2).2).2).2
theorem so0_ok (c : SaysQ (exs more) dfs tbs w K) : SoOk K (so0 K) := fun a o e => by
  unfold so0 at e
  obtain ⟨t, h1, rfl⟩ := map_some e
  have hp := List.find?_some h1
  have ha : He.ga K t.1 = a := by simpa using hp
  subst ha
  exact tupB_ok (tk c (List.mem_of_find?_eq_some h1))
theorem e_LaneSeat_init__ (c : SaysQ (exs more) dfs tbs w K) : ∃ fd, DefB K gl "__init__" "LaneSeat.__init__" i_LaneSeat_init__ (topM 7 0) (He.fAd K ("LaneSeat", some "__init__")) fd ["self"] ∧ FunD K "__init__" "LaneSeat.__init__" (defArgs (topM 7 0)) (defBody (topM 7 0)) (defScope (topM 7 0)) [] [] (He.fAd K ("LaneSeat", some "__init__")) fd := by
  obtain ⟨fd, F⟩ := c.def_ 0 rfl
  have F : FunD K "__init__" "LaneSeat.__init__" (defArgs (topM 7 0)) (defBody (topM 7 0)) (defScope (topM 7 0)) [] [] _ fd := F
  exact ⟨fd, ⟨⟨_, _, F⟩, ⟨rfl, rfl, rfl, by decide +kernel, rfl, by decide +kernel, by decide +kernel⟩, rfl, c_LaneSeat_init__⟩, F⟩
theorem e_LaneSeat_is_free (c : SaysQ (exs more) dfs tbs w K) : ∃ fd, DefB K gl "is_free" "LaneSeat.is_free" i_LaneSeat_is_free (topM 7 1) (He.fAd K ("LaneSeat", some "is_free")) fd ["self"] ∧ Binds K fd ["self"] [] := by
  obtain ⟨fd, F⟩ := c.def_ 1 rfl
  have F : FunD K "is_free" "LaneSeat.is_free" (defArgs (topM 7 1)) (defBody (topM 7 1)) (defScope (topM 7 1)) [] [] _ fd := F
  exact ⟨fd, ⟨⟨_, _, F⟩, ⟨rfl, rfl, rfl, by decide +kernel, rfl, by decide +kernel, by decide +kernel⟩, rfl, c_LaneSeat_is_free⟩, bind_mk F fun _ _ _ _ _ _ us hl => match us, hl with | [_], _ => rfl⟩
theorem e_ReaderSeat_init__ (c : SaysQ (exs more) dfs tbs w K) : ∃ fd, DefB K gl "__init__" "ReaderSeat.__init__" i_ReaderSeat_init__ (topM 8 0) (He.fAd K ("ReaderSeat", some "__init__")) fd ["self"] ∧ FunD K "__init__" "ReaderSeat.__init__" (defArgs (topM 8 0)) (defBody (topM 8 0)) (defScope (topM 8 0)) [] [] (He.fAd K ("ReaderSeat", some "__init__")) fd := by
  obtain ⟨fd, F⟩ := c.def_ 2 rfl
  have F : FunD K "__init__" "ReaderSeat.__init__" (defArgs (topM 8 0)) (defBody (topM 8 0)) (defScope (topM 8 0)) [] [] _ fd := F
  exact ⟨fd, ⟨⟨_, _, F⟩, ⟨rfl, rfl, rfl, by decide +kernel, rfl, by decide +kernel, by decide +kernel⟩, rfl, c_ReaderSeat_init__⟩, F⟩
theorem e_ReaderSeat_is_running (c : SaysQ (exs more) dfs tbs w K) : ∃ fd, DefB K gl "is_running" "ReaderSeat.is_running" i_ReaderSeat_is_running (topM 8 1) (He.fAd K ("ReaderSeat", some "is_running")) fd ["self"] ∧ Binds K fd ["self"] [] := by
  obtain ⟨fd, F⟩ := c.def_ 3 rfl
  have F : FunD K "is_running" "ReaderSeat.is_running" (defArgs (topM 8 1)) (defBody (topM 8 1)) (defScope (topM 8 1)) [] [] _ fd := F
  exact ⟨fd, ⟨⟨_, _, F⟩, ⟨rfl, rfl, rfl, by decide +kernel, rfl, by decide +kernel, by decide +kernel⟩, rfl, c_ReaderSeat_is_running⟩, bind_mk F fun _ _ _ _ _ _ us hl => match us, hl with | [_], _ => rfl⟩
theorem e_ReaderSeat_is_off (c : SaysQ (exs more) dfs tbs w K) : ∃ fd, DefB K gl "is_off" "ReaderSeat.is_off" i_ReaderSeat_is_off (topM 8 2) (He.fAd K ("ReaderSeat", some "is_off")) fd ["self"] ∧ Binds K fd ["self"] [] := by
  obtain ⟨fd, F⟩ := c.def_ 4 rfl
  have F : FunD K "is_off" "ReaderSeat.is_off" (defArgs (topM 8 2)) (defBody (topM 8 2)) (defScope (topM 8 2)) [] [] _ fd := F
  exact ⟨fd, ⟨⟨_, _, F⟩, ⟨rfl, rfl, rfl, by decide +kernel, rfl, by decide +kernel, by decide +kernel⟩, rfl, c_ReaderSeat_is_off⟩, bind_mk F fun _ _ _ _ _ _ us hl => match us, hl with | [_], _ => rfl⟩
theorem e_ReaderSeat_leave (c : SaysQ (exs more) dfs tbs w K) : ∃ fd, DefB K gl "leave" "ReaderSeat.leave" i_ReaderSeat_leave (topM 8 3) (He.fAd K ("ReaderSeat", some "leave")) fd ["self"] ∧ Binds K fd ["self"] [] := by
  obtain ⟨fd, F⟩ := c.def_ 5 rfl
  have F : FunD K "leave" "ReaderSeat.leave" (defArgs (topM 8 3)) (defBody (topM 8 3)) (defScope (topM 8 3)) [] [] _ fd := F
  exact ⟨fd, ⟨⟨_, _, F⟩, ⟨rfl, rfl, rfl, by decide +kernel, rfl, by decide +kernel, by decide +kernel⟩, rfl, c_ReaderSeat_leave⟩, bind_mk F fun _ _ _ _ _ _ us hl => match us, hl with | [_], _ => rfl⟩
theorem e_NodeSeat_init__ (c : SaysQ (exs more) dfs tbs w K) : ∃ fd, DefB K gl "__init__" "NodeSeat.__init__" i_NodeSeat_init__ (topM 9 0) (He.fAd K ("NodeSeat", some "__init__")) fd ["self"] ∧ FunD K "__init__" "NodeSeat.__init__" (defArgs (topM 9 0)) (defBody (topM 9 0)) (defScope (topM 9 0)) [] [] (He.fAd K ("NodeSeat", some "__init__")) fd := by
  obtain ⟨fd, F⟩ := c.def_ 6 rfl
  have F : FunD K "__init__" "NodeSeat.__init__" (defArgs (topM 9 0)) (defBody (topM 9 0)) (defScope (topM 9 0)) [] [] _ fd := F
  exact ⟨fd, ⟨⟨_, _, F⟩, ⟨rfl, rfl, rfl, by decide +kernel, rfl, by decide +kernel, by decide +kernel⟩, rfl, c_NodeSeat_init__⟩, F⟩
theorem e_NodeSeat_is_quiet (c : SaysQ (exs more) dfs tbs w K) : ∃ fd, DefB K gl "is_quiet" "NodeSeat.is_quiet" i_NodeSeat_is_quiet (topM 9 1) (He.fAd K ("NodeSeat", some "is_quiet")) fd ["self"] ∧ Binds K fd ["self"] [] := by
  obtain ⟨fd, F⟩ := c.def_ 7 rfl
  have F : FunD K "is_quiet" "NodeSeat.is_quiet" (defArgs (topM 9 1)) (defBody (topM 9 1)) (defScope (topM 9 1)) [] [] _ fd := F
  exact ⟨fd, ⟨⟨_, _, F⟩, ⟨rfl, rfl, rfl, by decide +kernel, rfl, by decide +kernel, by decide +kernel⟩, rfl, c_NodeSeat_is_quiet⟩, bind_mk F fun _ _ _ _ _ _ us hl => match us, hl with | [_], _ => rfl⟩
theorem e_is_within (c : SaysQ (exs more) dfs tbs w K) : ∃ fd, DefB K gl "is_within" "is_within" i_is_within (topS 23) (He.fAd K ("is_within", none)) fd ["thing", "least", "most"] ∧ Binds K fd ["thing", "least", "most"] [] := by
  obtain ⟨fd, F⟩ := c.def_ 8 rfl
  have F : FunD K "is_within" "is_within" (defArgs (topS 23)) (defBody (topS 23)) (defScope (topS 23)) [] [] _ fd := F
  exact ⟨fd, ⟨⟨_, _, F⟩, ⟨rfl, rfl, rfl, by decide +kernel, rfl, by decide +kernel, by decide +kernel⟩, rfl, c_is_within⟩, bind_mk F fun _ _ _ _ _ _ us hl => match us, hl with | [_, _, _], _ => rfl⟩
theorem e_halves_up (c : SaysQ (exs more) dfs tbs w K) : ∃ fd, DefB K gl "halves_up" "halves_up" i_halves_up (topS 24) (He.fAd K ("halves_up", none)) fd ["many", "fan"] ∧ Binds K fd ["many", "fan"] [] := by
  obtain ⟨fd, F⟩ := c.def_ 9 rfl
  have F : FunD K "halves_up" "halves_up" (defArgs (topS 24)) (defBody (topS 24)) (defScope (topS 24)) [] [] _ fd := F
  exact ⟨fd, ⟨⟨_, _, F⟩, ⟨rfl, rfl, rfl, by decide +kernel, rfl, by decide +kernel, by decide +kernel⟩, rfl, c_halves_up⟩, bind_mk F fun _ _ _ _ _ _ us hl => match us, hl with | [_, _], _ => rfl⟩
theorem e_Shape_init__ (c : SaysQ (exs more) dfs tbs w K) : ∃ fd, DefB K gl "__init__" "Shape.__init__" i_Shape_init__ (topM 25 0) (He.fAd K ("Shape", some "__init__")) fd ["self", "lanes", "fan"] ∧ FunD K "__init__" "Shape.__init__" (defArgs (topM 25 0)) (defBody (topM 25 0)) (defScope (topM 25 0)) [] [("fan", .int 2)] (He.fAd K ("Shape", some "__init__")) fd := by
  obtain ⟨fd, F⟩ := c.def_ 10 rfl
  have F : FunD K "__init__" "Shape.__init__" (defArgs (topM 25 0)) (defBody (topM 25 0)) (defScope (topM 25 0)) [] [("fan", .int 2)] _ fd := F
  exact ⟨fd, ⟨⟨_, _, F⟩, ⟨rfl, rfl, rfl, by decide +kernel, rfl, by decide +kernel, by decide +kernel⟩, rfl, c_Shape_init__⟩, F⟩
theorem e_Shape_lanes (c : SaysQ (exs more) dfs tbs w K) : ∃ fd, DefB K gl "lanes" "Shape.lanes" i_Shape_lanes (topM 25 1) (He.fAd K ("Shape", some "lanes")) fd ["self"] ∧ Binds K fd ["self"] [] := by
  obtain ⟨fd, F⟩ := c.def_ 11 rfl
  have F : FunD K "lanes" "Shape.lanes" (defArgs (topM 25 1)) (defBody (topM 25 1)) (defScope (topM 25 1)) [] [] _ fd := F
  exact ⟨fd, ⟨⟨_, _, F⟩, ⟨rfl, rfl, rfl, by decide +kernel, rfl, by decide +kernel, by decide +kernel⟩, rfl, c_Shape_lanes⟩, bind_mk F fun _ _ _ _ _ _ us hl => match us, hl with | [_], _ => rfl⟩
theorem e_Shape_nodes (c : SaysQ (exs more) dfs tbs w K) : ∃ fd, DefB K gl "nodes" "Shape.nodes" i_Shape_nodes (topM 25 3) (He.fAd K ("Shape", some "nodes")) fd ["self"] ∧ Binds K fd ["self"] [] := by
  obtain ⟨fd, F⟩ := c.def_ 12 rfl
  have F : FunD K "nodes" "Shape.nodes" (defArgs (topM 25 3)) (defBody (topM 25 3)) (defScope (topM 25 3)) [] [] _ fd := F
  exact ⟨fd, ⟨⟨_, _, F⟩, ⟨rfl, rfl, rfl, by decide +kernel, rfl, by decide +kernel, by decide +kernel⟩, rfl, c_Shape_nodes⟩, bind_mk F fun _ _ _ _ _ _ us hl => match us, hl with | [_], _ => rfl⟩
theorem e_Shape_first_of (c : SaysQ (exs more) dfs tbs w K) : ∃ fd, DefB K gl "first_of" "Shape.first_of" i_Shape_first_of (topM 25 4) (He.fAd K ("Shape", some "first_of")) fd ["self", "row"] ∧ Binds K fd ["self", "row"] [] := by
  obtain ⟨fd, F⟩ := c.def_ 13 rfl
  have F : FunD K "first_of" "Shape.first_of" (defArgs (topM 25 4)) (defBody (topM 25 4)) (defScope (topM 25 4)) [] [] _ fd := F
  exact ⟨fd, ⟨⟨_, _, F⟩, ⟨rfl, rfl, rfl, by decide +kernel, rfl, by decide +kernel, by decide +kernel⟩, rfl, c_Shape_first_of⟩, bind_mk F fun _ _ _ _ _ _ us hl => match us, hl with | [_, _], _ => rfl⟩
theorem e_Shape_leaves (c : SaysQ (exs more) dfs tbs w K) : ∃ fd, DefB K gl "leaves" "Shape.leaves" i_Shape_leaves (topM 25 5) (He.fAd K ("Shape", some "leaves")) fd ["self"] ∧ Binds K fd ["self"] [] := by
  obtain ⟨fd, F⟩ := c.def_ 14 rfl
  have F : FunD K "leaves" "Shape.leaves" (defArgs (topM 25 5)) (defBody (topM 25 5)) (defScope (topM 25 5)) [] [] _ fd := F
  exact ⟨fd, ⟨⟨_, _, F⟩, ⟨rfl, rfl, rfl, by decide +kernel, rfl, by decide +kernel, by decide +kernel⟩, rfl, c_Shape_leaves⟩, bind_mk F fun _ _ _ _ _ _ us hl => match us, hl with | [_], _ => rfl⟩
theorem e_Shape_leaf_of (c : SaysQ (exs more) dfs tbs w K) : ∃ fd, DefB K gl "leaf_of" "Shape.leaf_of" i_Shape_leaf_of (topM 25 6) (He.fAd K ("Shape", some "leaf_of")) fd ["self", "lane"] ∧ Binds K fd ["self", "lane"] [] := by
  obtain ⟨fd, F⟩ := c.def_ 15 rfl
  have F : FunD K "leaf_of" "Shape.leaf_of" (defArgs (topM 25 6)) (defBody (topM 25 6)) (defScope (topM 25 6)) [] [] _ fd := F
  exact ⟨fd, ⟨⟨_, _, F⟩, ⟨rfl, rfl, rfl, by decide +kernel, rfl, by decide +kernel, by decide +kernel⟩, rfl, c_Shape_leaf_of⟩, bind_mk F fun _ _ _ _ _ _ us hl => match us, hl with | [_, _], _ => rfl⟩
theorem e_Shape_seat_of (c : SaysQ (exs more) dfs tbs w K) : ∃ fd, DefB K gl "seat_of" "Shape.seat_of" i_Shape_seat_of (topM 25 7) (He.fAd K ("Shape", some "seat_of")) fd ["self", "node"] ∧ Binds K fd ["self", "node"] [] := by
  obtain ⟨fd, F⟩ := c.def_ 16 rfl
  have F : FunD K "seat_of" "Shape.seat_of" (defArgs (topM 25 7)) (defBody (topM 25 7)) (defScope (topM 25 7)) [] [] _ fd := F
  exact ⟨fd, ⟨⟨_, _, F⟩, ⟨rfl, rfl, rfl, by decide +kernel, rfl, by decide +kernel, by decide +kernel⟩, rfl, c_Shape_seat_of⟩, bind_mk F fun _ _ _ _ _ _ us hl => match us, hl with | [_, _], _ => rfl⟩
theorem e_Shape_parent_of (c : SaysQ (exs more) dfs tbs w K) : ∃ fd, DefB K gl "parent_of" "Shape.parent_of" i_Shape_parent_of (topM 25 8) (He.fAd K ("Shape", some "parent_of")) fd ["self", "node"] ∧ Binds K fd ["self", "node"] [] := by
  obtain ⟨fd, F⟩ := c.def_ 17 rfl
  have F : FunD K "parent_of" "Shape.parent_of" (defArgs (topM 25 8)) (defBody (topM 25 8)) (defScope (topM 25 8)) [] [] _ fd := F
  exact ⟨fd, ⟨⟨_, _, F⟩, ⟨rfl, rfl, rfl, by decide +kernel, rfl, by decide +kernel, by decide +kernel⟩, rfl, c_Shape_parent_of⟩, bind_mk F fun _ _ _ _ _ _ us hl => match us, hl with | [_, _], _ => rfl⟩
theorem e_Shape_beneath (c : SaysQ (exs more) dfs tbs w K) : ∃ fd, DefB K gl "beneath" "Shape.beneath" i_Shape_beneath (topM 25 9) (He.fAd K ("Shape", some "beneath")) fd ["self", "node"] ∧ Binds K fd ["self", "node"] [] := by
  obtain ⟨fd, F⟩ := c.def_ 18 rfl
  have F : FunD K "beneath" "Shape.beneath" (defArgs (topM 25 9)) (defBody (topM 25 9)) (defScope (topM 25 9)) [] [] _ fd := F
  exact ⟨fd, ⟨⟨_, _, F⟩, ⟨rfl, rfl, rfl, by decide +kernel, rfl, by decide +kernel, by decide +kernel⟩, rfl, c_Shape_beneath⟩, bind_mk F fun _ _ _ _ _ _ us hl => match us, hl with | [_, _], _ => rfl⟩
theorem e_look_at_number (c : SaysQ (exs more) dfs tbs w K) : ∃ fd, DefB K gl "look_at_number" "look_at_number" i_look_at_number (topS 27) (He.fAd K ("look_at_number", none)) fd ["thing"] ∧ Binds K fd ["thing"] [] := by
  obtain ⟨fd, F⟩ := c.def_ 19 rfl
  have F : FunD K "look_at_number" "look_at_number" (defArgs (topS 27)) (defBody (topS 27)) (defScope (topS 27)) [] [] _ fd := F
  exact ⟨fd, ⟨⟨_, _, F⟩, ⟨rfl, rfl, rfl, by decide +kernel, rfl, by decide +kernel, by decide +kernel⟩, rfl, c_look_at_number⟩, bind_mk F fun _ _ _ _ _ _ us hl => match us, hl with | [_], _ => rfl⟩
theorem e_due_of (c : SaysQ (exs more) dfs tbs w K) : ∃ fd, DefB K gl "due_of" "due_of" i_due_of (topS 28) (He.fAd K ("due_of", none)) fd ["number"] ∧ Binds K fd ["number"] [] := by
  obtain ⟨fd, F⟩ := c.def_ 20 rfl
  have F : FunD K "due_of" "due_of" (defArgs (topS 28)) (defBody (topS 28)) (defScope (topS 28)) [] [] _ fd := F
  exact ⟨fd, ⟨⟨_, _, F⟩, ⟨rfl, rfl, rfl, by decide +kernel, rfl, by decide +kernel, by decide +kernel⟩, rfl, c_due_of⟩, bind_mk F fun _ _ _ _ _ _ us hl => match us, hl with | [_], _ => rfl⟩
theorem e_Core_init__ (c : SaysQ (exs more) dfs tbs w K) : ∃ fd, DefB K gl "__init__" "Core.__init__" i_Core_init__ (topM 32 0) (He.fAd K ("Core", some "__init__")) fd ["self", "shape", "without"] ∧ FunD K "__init__" "Core.__init__" (defArgs (topM 32 0)) (defBody (topM 32 0)) (defScope (topM 32 0)) [] [] (He.fAd K ("Core", some "__init__")) fd := by
  obtain ⟨fd, F⟩ := c.def_ 21 rfl
  have F : FunD K "__init__" "Core.__init__" (defArgs (topM 32 0)) (defBody (topM 32 0)) (defScope (topM 32 0)) [] [] _ fd := F
  exact ⟨fd, ⟨⟨_, _, F⟩, ⟨rfl, rfl, rfl, by decide +kernel, rfl, by decide +kernel, by decide +kernel⟩, rfl, c_Core_init__⟩, F⟩
theorem e_Core_lacks (c : SaysQ (exs more) dfs tbs w K) : ∃ fd, DefB K gl "lacks" "Core.lacks" i_Core_lacks (topM 32 1) (He.fAd K ("Core", some "lacks")) fd ["self", "rule"] ∧ Binds K fd ["self", "rule"] [] := by
  obtain ⟨fd, F⟩ := c.def_ 22 rfl
  have F : FunD K "lacks" "Core.lacks" (defArgs (topM 32 1)) (defBody (topM 32 1)) (defScope (topM 32 1)) [] [] _ fd := F
  exact ⟨fd, ⟨⟨_, _, F⟩, ⟨rfl, rfl, rfl, by decide +kernel, rfl, by decide +kernel, by decide +kernel⟩, rfl, c_Core_lacks⟩, bind_mk F fun _ _ _ _ _ _ us hl => match us, hl with | [_, _], _ => rfl⟩
theorem e_Core_goes_on (c : SaysQ (exs more) dfs tbs w K) : ∃ fd, DefB K gl "goes_on" "Core.goes_on" i_Core_goes_on (topM 32 2) (He.fAd K ("Core", some "goes_on")) fd ["self"] ∧ Binds K fd ["self"] [] := by
  obtain ⟨fd, F⟩ := c.def_ 23 rfl
  have F : FunD K "goes_on" "Core.goes_on" (defArgs (topM 32 2)) (defBody (topM 32 2)) (defScope (topM 32 2)) [] [] _ fd := F
  exact ⟨fd, ⟨⟨_, _, F⟩, ⟨rfl, rfl, rfl, by decide +kernel, rfl, by decide +kernel, by decide +kernel⟩, rfl, c_Core_goes_on⟩, bind_mk F fun _ _ _ _ _ _ us hl => match us, hl with | [_], _ => rfl⟩
theorem e_Core_leaf (c : SaysQ (exs more) dfs tbs w K) : ∃ fd, DefB K gl "leaf" "Core.leaf" i_Core_leaf (topM 32 3) (He.fAd K ("Core", some "leaf")) fd ["self", "lane"] ∧ Binds K fd ["self", "lane"] [] := by
  obtain ⟨fd, F⟩ := c.def_ 24 rfl
  have F : FunD K "leaf" "Core.leaf" (defArgs (topM 32 3)) (defBody (topM 32 3)) (defScope (topM 32 3)) [] [] _ fd := F
  exact ⟨fd, ⟨⟨_, _, F⟩, ⟨rfl, rfl, rfl, by decide +kernel, rfl, by decide +kernel, by decide +kernel⟩, rfl, c_Core_leaf⟩, bind_mk F fun _ _ _ _ _ _ us hl => match us, hl with | [_, _], _ => rfl⟩
theorem e_Core_due (c : SaysQ (exs more) dfs tbs w K) : ∃ fd, DefB K gl "due" "Core.due" i_Core_due (topM 32 4) (He.fAd K ("Core", some "due")) fd ["self", "which"] ∧ Binds K fd ["self", "which"] [] := by
  obtain ⟨fd, F⟩ := c.def_ 25 rfl
  have F : FunD K "due" "Core.due" (defArgs (topM 32 4)) (defBody (topM 32 4)) (defScope (topM 32 4)) [] [] _ fd := F
  exact ⟨fd, ⟨⟨_, _, F⟩, ⟨rfl, rfl, rfl, by decide +kernel, rfl, by decide +kernel, by decide +kernel⟩, rfl, c_Core_due⟩, bind_mk F fun _ _ _ _ _ _ us hl => match us, hl with | [_, _], _ => rfl⟩
theorem e_Core_ask (c : SaysQ (exs more) dfs tbs w K) : ∃ fd, DefB K gl "ask" "Core.ask" i_Core_ask (topM 32 5) (He.fAd K ("Core", some "ask")) fd ["self", "which"] ∧ Binds K fd ["self", "which"] [] := by
  obtain ⟨fd, F⟩ := c.def_ 26 rfl
  have F : FunD K "ask" "Core.ask" (defArgs (topM 32 5)) (defBody (topM 32 5)) (defScope (topM 32 5)) [] [] _ fd := F
  exact ⟨fd, ⟨⟨_, _, F⟩, ⟨rfl, rfl, rfl, by decide +kernel, rfl, by decide +kernel, by decide +kernel⟩, rfl, c_Core_ask⟩, bind_mk F fun _ _ _ _ _ _ us hl => match us, hl with | [_, _], _ => rfl⟩
theorem e_Core_is_old (c : SaysQ (exs more) dfs tbs w K) : ∃ fd, DefB K gl "is_old" "Core.is_old" i_Core_is_old (topM 32 6) (He.fAd K ("Core", some "is_old")) fd ["self", "reader"] ∧ Binds K fd ["self", "reader"] [] := by
  obtain ⟨fd, F⟩ := c.def_ 27 rfl
  have F : FunD K "is_old" "Core.is_old" (defArgs (topM 32 6)) (defBody (topM 32 6)) (defScope (topM 32 6)) [] [] _ fd := F
  exact ⟨fd, ⟨⟨_, _, F⟩, ⟨rfl, rfl, rfl, by decide +kernel, rfl, by decide +kernel, by decide +kernel⟩, rfl, c_Core_is_old⟩, bind_mk F fun _ _ _ _ _ _ us hl => match us, hl with | [_, _], _ => rfl⟩
theorem e_Core_is_here (c : SaysQ (exs more) dfs tbs w K) : ∃ fd, DefB K gl "is_here" "Core.is_here" i_Core_is_here (topM 32 7) (He.fAd K ("Core", some "is_here")) fd ["self", "lane"] ∧ Binds K fd ["self", "lane"] [] := by
  obtain ⟨fd, F⟩ := c.def_ 28 rfl
  have F : FunD K "is_here" "Core.is_here" (defArgs (topM 32 7)) (defBody (topM 32 7)) (defScope (topM 32 7)) [] [] _ fd := F
  exact ⟨fd, ⟨⟨_, _, F⟩, ⟨rfl, rfl, rfl, by decide +kernel, rfl, by decide +kernel, by decide +kernel⟩, rfl, c_Core_is_here⟩, bind_mk F fun _ _ _ _ _ _ us hl => match us, hl with | [_, _], _ => rfl⟩
theorem e_Core_others_here (c : SaysQ (exs more) dfs tbs w K) : ∃ fd, DefB K gl "others_here" "Core.others_here" i_Core_others_here (topM 32 8) (He.fAd K ("Core", some "others_here")) fd ["self", "lane"] ∧ Binds K fd ["self", "lane"] [] := by
  obtain ⟨fd, F⟩ := c.def_ 29 rfl
  have F : FunD K "others_here" "Core.others_here" (defArgs (topM 32 8)) (defBody (topM 32 8)) (defScope (topM 32 8)) [] [] _ fd := F
  exact ⟨fd, ⟨⟨_, _, F⟩, ⟨rfl, rfl, rfl, by decide +kernel, rfl, by decide +kernel, by decide +kernel⟩, rfl, c_Core_others_here⟩, bind_mk F fun _ _ _ _ _ _ us hl => match us, hl with | [_, _], _ => rfl⟩
theorem e_Core_is_quiet (c : SaysQ (exs more) dfs tbs w K) : ∃ fd, DefB K gl "is_quiet" "Core.is_quiet" i_Core_is_quiet (topM 32 9) (He.fAd K ("Core", some "is_quiet")) fd ["self", "node"] ∧ Binds K fd ["self", "node"] [] := by
  obtain ⟨fd, F⟩ := c.def_ 30 rfl
  have F : FunD K "is_quiet" "Core.is_quiet" (defArgs (topM 32 9)) (defBody (topM 32 9)) (defScope (topM 32 9)) [] [] _ fd := F
  exact ⟨fd, ⟨⟨_, _, F⟩, ⟨rfl, rfl, rfl, by decide +kernel, rfl, by decide +kernel, by decide +kernel⟩, rfl, c_Core_is_quiet⟩, bind_mk F fun _ _ _ _ _ _ us hl => match us, hl with | [_, _], _ => rfl⟩
theorem e_Core_tell_up (c : SaysQ (exs more) dfs tbs w K) : ∃ fd, DefB K gl "tell_up" "Core.tell_up" i_Core_tell_up (topM 32 10) (He.fAd K ("Core", some "tell_up")) fd ["self", "node"] ∧ Binds K fd ["self", "node"] [] := by
  obtain ⟨fd, F⟩ := c.def_ 31 rfl
  have F : FunD K "tell_up" "Core.tell_up" (defArgs (topM 32 10)) (defBody (topM 32 10)) (defScope (topM 32 10)) [] [] _ fd := F
  exact ⟨fd, ⟨⟨_, _, F⟩, ⟨rfl, rfl, rfl, by decide +kernel, rfl, by decide +kernel, by decide +kernel⟩, rfl, c_Core_tell_up⟩, bind_mk F fun _ _ _ _ _ _ us hl => match us, hl with | [_, _], _ => rfl⟩
theorem e_Core_clear (c : SaysQ (exs more) dfs tbs w K) : ∃ fd, DefB K gl "clear" "Core.clear" i_Core_clear (topM 32 11) (He.fAd K ("Core", some "clear")) fd ["self", "lane"] ∧ Binds K fd ["self", "lane"] [] := by
  obtain ⟨fd, F⟩ := c.def_ 32 rfl
  have F : FunD K "clear" "Core.clear" (defArgs (topM 32 11)) (defBody (topM 32 11)) (defScope (topM 32 11)) [] [] _ fd := F
  exact ⟨fd, ⟨⟨_, _, F⟩, ⟨rfl, rfl, rfl, by decide +kernel, rfl, by decide +kernel, by decide +kernel⟩, rfl, c_Core_clear⟩, bind_mk F fun _ _ _ _ _ _ us hl => match us, hl with | [_, _], _ => rfl⟩
theorem e_Core_list_at (c : SaysQ (exs more) dfs tbs w K) : ∃ fd, DefB K gl "list_at" "Core.list_at" i_Core_list_at (topM 32 12) (He.fAd K ("Core", some "list_at")) fd ["self", "reader", "lane"] ∧ Binds K fd ["self", "reader", "lane"] [] := by
  obtain ⟨fd, F⟩ := c.def_ 33 rfl
  have F : FunD K "list_at" "Core.list_at" (defArgs (topM 32 12)) (defBody (topM 32 12)) (defScope (topM 32 12)) [] [] _ fd := F
  exact ⟨fd, ⟨⟨_, _, F⟩, ⟨rfl, rfl, rfl, by decide +kernel, rfl, by decide +kernel, by decide +kernel⟩, rfl, c_Core_list_at⟩, bind_mk F fun _ _ _ _ _ _ us hl => match us, hl with | [_, _, _], _ => rfl⟩
theorem e_Core_unlist (c : SaysQ (exs more) dfs tbs w K) : ∃ fd, DefB K gl "unlist" "Core.unlist" i_Core_unlist (topM 32 13) (He.fAd K ("Core", some "unlist")) fd ["self", "reader"] ∧ Binds K fd ["self", "reader"] [] := by
  obtain ⟨fd, F⟩ := c.def_ 34 rfl
  have F : FunD K "unlist" "Core.unlist" (defArgs (topM 32 13)) (defBody (topM 32 13)) (defScope (topM 32 13)) [] [] _ fd := F
  exact ⟨fd, ⟨⟨_, _, F⟩, ⟨rfl, rfl, rfl, by decide +kernel, rfl, by decide +kernel, by decide +kernel⟩, rfl, c_Core_unlist⟩, bind_mk F fun _ _ _ _ _ _ us hl => match us, hl with | [_, _], _ => rfl⟩
theorem e_Core_stop (c : SaysQ (exs more) dfs tbs w K) : ∃ fd, DefB K gl "stop" "Core.stop" i_Core_stop (topM 32 14) (He.fAd K ("Core", some "stop")) fd ["self", "lane", "word"] ∧ Binds K fd ["self", "lane", "word"] [] := by
  obtain ⟨fd, F⟩ := c.def_ 35 rfl
  have F : FunD K "stop" "Core.stop" (defArgs (topM 32 14)) (defBody (topM 32 14)) (defScope (topM 32 14)) [] [] _ fd := F
  exact ⟨fd, ⟨⟨_, _, F⟩, ⟨rfl, rfl, rfl, by decide +kernel, rfl, by decide +kernel, by decide +kernel⟩, rfl, c_Core_stop⟩, bind_mk F fun _ _ _ _ _ _ us hl => match us, hl with | [_, _, _], _ => rfl⟩
theorem e_Core_is_stopped (c : SaysQ (exs more) dfs tbs w K) : ∃ fd, DefB K gl "is_stopped" "Core.is_stopped" i_Core_is_stopped (topM 32 15) (He.fAd K ("Core", some "is_stopped")) fd ["self", "lane"] ∧ Binds K fd ["self", "lane"] [] := by
  obtain ⟨fd, F⟩ := c.def_ 36 rfl
  have F : FunD K "is_stopped" "Core.is_stopped" (defArgs (topM 32 15)) (defBody (topM 32 15)) (defScope (topM 32 15)) [] [] _ fd := F
  exact ⟨fd, ⟨⟨_, _, F⟩, ⟨rfl, rfl, rfl, by decide +kernel, rfl, by decide +kernel, by decide +kernel⟩, rfl, c_Core_is_stopped⟩, bind_mk F fun _ _ _ _ _ _ us hl => match us, hl with | [_, _], _ => rfl⟩
theorem e_opened_number (c : SaysQ (exs more) dfs tbs w K) : ∃ fd, DefB K gl "opened_number" "opened_number" i_opened_number (topS 34) (He.fAd K ("opened_number", none)) fd ["core"] ∧ Binds K fd ["core"] [] := by
  obtain ⟨fd, F⟩ := c.def_ 37 rfl
  have F : FunD K "opened_number" "opened_number" (defArgs (topS 34)) (defBody (topS 34)) (defScope (topS 34)) [] [] _ fd := F
  exact ⟨fd, ⟨⟨_, _, F⟩, ⟨rfl, rfl, rfl, by decide +kernel, rfl, by decide +kernel, by decide +kernel⟩, rfl, c_opened_number⟩, bind_mk F fun _ _ _ _ _ _ us hl => match us, hl with | [_], _ => rfl⟩
theorem e_is_under_way (c : SaysQ (exs more) dfs tbs w K) : ∃ fd, DefB K gl "is_under_way" "is_under_way" i_is_under_way (topS 35) (He.fAd K ("is_under_way", none)) fd ["core"] ∧ Binds K fd ["core"] [] := by
  obtain ⟨fd, F⟩ := c.def_ 38 rfl
  have F : FunD K "is_under_way" "is_under_way" (defArgs (topS 35)) (defBody (topS 35)) (defScope (topS 35)) [] [] _ fd := F
  exact ⟨fd, ⟨⟨_, _, F⟩, ⟨rfl, rfl, rfl, by decide +kernel, rfl, by decide +kernel, by decide +kernel⟩, rfl, c_is_under_way⟩, bind_mk F fun _ _ _ _ _ _ us hl => match us, hl with | [_], _ => rfl⟩
theorem e_open_leaf (c : SaysQ (exs more) dfs tbs w K) : ∃ fd, DefB K gl "open_leaf" "open_leaf" i_open_leaf (topS 36) (He.fAd K ("open_leaf", none)) fd ["core", "node"] ∧ Binds K fd ["core", "node"] [] := by
  obtain ⟨fd, F⟩ := c.def_ 39 rfl
  have F : FunD K "open_leaf" "open_leaf" (defArgs (topS 36)) (defBody (topS 36)) (defScope (topS 36)) [] [] _ fd := F
  exact ⟨fd, ⟨⟨_, _, F⟩, ⟨rfl, rfl, rfl, by decide +kernel, rfl, by decide +kernel, by decide +kernel⟩, rfl, c_open_leaf⟩, bind_mk F fun _ _ _ _ _ _ us hl => match us, hl with | [_, _], _ => rfl⟩
theorem e_open_next (c : SaysQ (exs more) dfs tbs w K) : ∃ fd, DefB K gl "open_next" "open_next" i_open_next (topS 37) (He.fAd K ("open_next", none)) fd ["core", "node"] ∧ Binds K fd ["core", "node"] [] := by
  obtain ⟨fd, F⟩ := c.def_ 40 rfl
  have F : FunD K "open_next" "open_next" (defArgs (topS 37)) (defBody (topS 37)) (defScope (topS 37)) [] [] _ fd := F
  exact ⟨fd, ⟨⟨_, _, F⟩, ⟨rfl, rfl, rfl, by decide +kernel, rfl, by decide +kernel, by decide +kernel⟩, rfl, c_open_next⟩, bind_mk F fun _ _ _ _ _ _ us hl => match us, hl with | [_, _], _ => rfl⟩
theorem e_seek_next (c : SaysQ (exs more) dfs tbs w K) : ∃ fd, DefB K gl "seek_next" "seek_next" i_seek_next (topS 38) (He.fAd K ("seek_next", none)) fd ["core"] ∧ Binds K fd ["core"] [] := by
  obtain ⟨fd, F⟩ := c.def_ 41 rfl
  have F : FunD K "seek_next" "seek_next" (defArgs (topS 38)) (defBody (topS 38)) (defScope (topS 38)) [] [] _ fd := F
  exact ⟨fd, ⟨⟨_, _, F⟩, ⟨rfl, rfl, rfl, by decide +kernel, rfl, by decide +kernel, by decide +kernel⟩, rfl, c_seek_next⟩, bind_mk F fun _ _ _ _ _ _ us hl => match us, hl with | [_], _ => rfl⟩
theorem e_close_next (c : SaysQ (exs more) dfs tbs w K) : ∃ fd, DefB K gl "close_next" "close_next" i_close_next (topS 39) (He.fAd K ("close_next", none)) fd ["core"] ∧ Binds K fd ["core"] [] := by
  obtain ⟨fd, F⟩ := c.def_ 42 rfl
  have F : FunD K "close_next" "close_next" (defArgs (topS 39)) (defBody (topS 39)) (defScope (topS 39)) [] [] _ fd := F
  exact ⟨fd, ⟨⟨_, _, F⟩, ⟨rfl, rfl, rfl, by decide +kernel, rfl, by decide +kernel, by decide +kernel⟩, rfl, c_close_next⟩, bind_mk F fun _ _ _ _ _ _ us hl => match us, hl with | [_], _ => rfl⟩
theorem e_begin_one (c : SaysQ (exs more) dfs tbs w K) : ∃ fd, DefB K gl "begin_one" "begin_one" i_begin_one (topS 40) (He.fAd K ("begin_one", none)) fd ["core"] ∧ Binds K fd ["core"] [] := by
  obtain ⟨fd, F⟩ := c.def_ 43 rfl
  have F : FunD K "begin_one" "begin_one" (defArgs (topS 40)) (defBody (topS 40)) (defScope (topS 40)) [] [] _ fd := F
  exact ⟨fd, ⟨⟨_, _, F⟩, ⟨rfl, rfl, rfl, by decide +kernel, rfl, by decide +kernel, by decide +kernel⟩, rfl, c_begin_one⟩, bind_mk F fun _ _ _ _ _ _ us hl => match us, hl with | [_], _ => rfl⟩
theorem e_open_early (c : SaysQ (exs more) dfs tbs w K) : ∃ fd, DefB K gl "open_early" "open_early" i_open_early (topS 41) (He.fAd K ("open_early", none)) fd ["core"] ∧ Binds K fd ["core"] [] := by
  obtain ⟨fd, F⟩ := c.def_ 44 rfl
  have F : FunD K "open_early" "open_early" (defArgs (topS 41)) (defBody (topS 41)) (defScope (topS 41)) [] [] _ fd := F
  exact ⟨fd, ⟨⟨_, _, F⟩, ⟨rfl, rfl, rfl, by decide +kernel, rfl, by decide +kernel, by decide +kernel⟩, rfl, c_open_early⟩, bind_mk F fun _ _ _ _ _ _ us hl => match us, hl with | [_], _ => rfl⟩
theorem e_keep_step (c : SaysQ (exs more) dfs tbs w K) : ∃ fd, DefB K gl "keep_step" "keep_step" i_keep_step (topS 42) (He.fAd K ("keep_step", none)) fd ["core"] ∧ Binds K fd ["core"] [] := by
  obtain ⟨fd, F⟩ := c.def_ 45 rfl
  have F : FunD K "keep_step" "keep_step" (defArgs (topS 42)) (defBody (topS 42)) (defScope (topS 42)) [] [] _ fd := F
  exact ⟨fd, ⟨⟨_, _, F⟩, ⟨rfl, rfl, rfl, by decide +kernel, rfl, by decide +kernel, by decide +kernel⟩, rfl, c_keep_step⟩, bind_mk F fun _ _ _ _ _ _ us hl => match us, hl with | [_], _ => rfl⟩
theorem e_entered_ahead (c : SaysQ (exs more) dfs tbs w K) : ∃ fd, DefB K gl "entered_ahead" "entered_ahead" i_entered_ahead (topS 43) (He.fAd K ("entered_ahead", none)) fd ["core", "reader"] ∧ Binds K fd ["core", "reader"] [] := by
  obtain ⟨fd, F⟩ := c.def_ 46 rfl
  have F : FunD K "entered_ahead" "entered_ahead" (defArgs (topS 43)) (defBody (topS 43)) (defScope (topS 43)) [] [] _ fd := F
  exact ⟨fd, ⟨⟨_, _, F⟩, ⟨rfl, rfl, rfl, by decide +kernel, rfl, by decide +kernel, by decide +kernel⟩, rfl, c_entered_ahead⟩, bind_mk F fun _ _ _ _ _ _ us hl => match us, hl with | [_, _], _ => rfl⟩
theorem e_ask_leaf (c : SaysQ (exs more) dfs tbs w K) : ∃ fd, DefB K gl "ask_leaf" "ask_leaf" i_ask_leaf (topS 44) (He.fAd K ("ask_leaf", none)) fd ["core"] ∧ Binds K fd ["core"] [] := by
  obtain ⟨fd, F⟩ := c.def_ 47 rfl
  have F : FunD K "ask_leaf" "ask_leaf" (defArgs (topS 44)) (defBody (topS 44)) (defScope (topS 44)) [] [] _ fd := F
  exact ⟨fd, ⟨⟨_, _, F⟩, ⟨rfl, rfl, rfl, by decide +kernel, rfl, by decide +kernel, by decide +kernel⟩, rfl, c_ask_leaf⟩, bind_mk F fun _ _ _ _ _ _ us hl => match us, hl with | [_], _ => rfl⟩
theorem e_rush_step (c : SaysQ (exs more) dfs tbs w K) : ∃ fd, DefB K gl "rush_step" "rush_step" i_rush_step (topS 45) (He.fAd K ("rush_step", none)) fd ["core"] ∧ Binds K fd ["core"] [] := by
  obtain ⟨fd, F⟩ := c.def_ 48 rfl
  have F : FunD K "rush_step" "rush_step" (defArgs (topS 45)) (defBody (topS 45)) (defScope (topS 45)) [] [] _ fd := F
  exact ⟨fd, ⟨⟨_, _, F⟩, ⟨rfl, rfl, rfl, by decide +kernel, rfl, by decide +kernel, by decide +kernel⟩, rfl, c_rush_step⟩, bind_mk F fun _ _ _ _ _ _ us hl => match us, hl with | [_], _ => rfl⟩
theorem e_enter_lane (c : SaysQ (exs more) dfs tbs w K) : ∃ fd, DefB K gl "enter_lane" "enter_lane" i_enter_lane (topS 47) (He.fAd K ("enter_lane", none)) fd ["core", "reader", "lane"] ∧ Binds K fd ["core", "reader", "lane"] [] := by
  obtain ⟨fd, F⟩ := c.def_ 49 rfl
  have F : FunD K "enter_lane" "enter_lane" (defArgs (topS 47)) (defBody (topS 47)) (defScope (topS 47)) [] [] _ fd := F
  exact ⟨fd, ⟨⟨_, _, F⟩, ⟨rfl, rfl, rfl, by decide +kernel, rfl, by decide +kernel, by decide +kernel⟩, rfl, c_enter_lane⟩, bind_mk F fun _ _ _ _ _ _ us hl => match us, hl with | [_, _, _], _ => rfl⟩
theorem e_come_out (c : SaysQ (exs more) dfs tbs w K) : ∃ fd, DefB K gl "come_out" "come_out" i_come_out (topS 48) (He.fAd K ("come_out", none)) fd ["core", "reader"] ∧ Binds K fd ["core", "reader"] [] := by
  obtain ⟨fd, F⟩ := c.def_ 50 rfl
  have F : FunD K "come_out" "come_out" (defArgs (topS 48)) (defBody (topS 48)) (defScope (topS 48)) [] [] _ fd := F
  exact ⟨fd, ⟨⟨_, _, F⟩, ⟨rfl, rfl, rfl, by decide +kernel, rfl, by decide +kernel, by decide +kernel⟩, rfl, c_come_out⟩, bind_mk F fun _ _ _ _ _ _ us hl => match us, hl with | [_, _], _ => rfl⟩
theorem e_break_off (c : SaysQ (exs more) dfs tbs w K) : ∃ fd, DefB K gl "break_off" "break_off" i_break_off (topS 49) (He.fAd K ("break_off", none)) fd ["core", "reader"] ∧ Binds K fd ["core", "reader"] [] := by
  obtain ⟨fd, F⟩ := c.def_ 51 rfl
  have F : FunD K "break_off" "break_off" (defArgs (topS 49)) (defBody (topS 49)) (defScope (topS 49)) [] [] _ fd := F
  exact ⟨fd, ⟨⟨_, _, F⟩, ⟨rfl, rfl, rfl, by decide +kernel, rfl, by decide +kernel, by decide +kernel⟩, rfl, c_break_off⟩, bind_mk F fun _ _ _ _ _ _ us hl => match us, hl with | [_, _], _ => rfl⟩
theorem e_go_on (c : SaysQ (exs more) dfs tbs w K) : ∃ fd, DefB K gl "go_on" "go_on" i_go_on (topS 50) (He.fAd K ("go_on", none)) fd ["core", "reader", "lane"] ∧ Binds K fd ["core", "reader", "lane"] [] := by
  obtain ⟨fd, F⟩ := c.def_ 52 rfl
  have F : FunD K "go_on" "go_on" (defArgs (topS 50)) (defBody (topS 50)) (defScope (topS 50)) [] [] _ fd := F
  exact ⟨fd, ⟨⟨_, _, F⟩, ⟨rfl, rfl, rfl, by decide +kernel, rfl, by decide +kernel, by decide +kernel⟩, rfl, c_go_on⟩, bind_mk F fun _ _ _ _ _ _ us hl => match us, hl with | [_, _, _], _ => rfl⟩
theorem e_do_of_reader (c : SaysQ (exs more) dfs tbs w K) : ∃ fd, DefB K gl "do_of_reader" "do_of_reader" i_do_of_reader (topS 51) (He.fAd K ("do_of_reader", none)) fd ["core", "word", "reader", "other"] ∧ Binds K fd ["core", "word", "reader", "other"] [] := by
  obtain ⟨fd, F⟩ := c.def_ 53 rfl
  have F : FunD K "do_of_reader" "do_of_reader" (defArgs (topS 51)) (defBody (topS 51)) (defScope (topS 51)) [] [] _ fd := F
  exact ⟨fd, ⟨⟨_, _, F⟩, ⟨rfl, rfl, rfl, by decide +kernel, rfl, by decide +kernel, by decide +kernel⟩, rfl, c_do_of_reader⟩, bind_mk F fun _ _ _ _ _ _ us hl => match us, hl with | [_, _, _, _], _ => rfl⟩
theorem e_look_at_leaf (c : SaysQ (exs more) dfs tbs w K) : ∃ fd, DefB K gl "look_at_leaf" "look_at_leaf" i_look_at_leaf (topS 53) (He.fAd K ("look_at_leaf", none)) fd ["core", "lane"] ∧ Binds K fd ["core", "lane"] [] := by
  obtain ⟨fd, F⟩ := c.def_ 54 rfl
  have F : FunD K "look_at_leaf" "look_at_leaf" (defArgs (topS 53)) (defBody (topS 53)) (defScope (topS 53)) [] [] _ fd := F
  exact ⟨fd, ⟨⟨_, _, F⟩, ⟨rfl, rfl, rfl, by decide +kernel, rfl, by decide +kernel, by decide +kernel⟩, rfl, c_look_at_leaf⟩, bind_mk F fun _ _ _ _ _ _ us hl => match us, hl with | [_, _], _ => rfl⟩
theorem e_tell_leaf (c : SaysQ (exs more) dfs tbs w K) : ∃ fd, DefB K gl "tell_leaf" "tell_leaf" i_tell_leaf (topS 54) (He.fAd K ("tell_leaf", none)) fd ["core", "lane"] ∧ Binds K fd ["core", "lane"] [] := by
  obtain ⟨fd, F⟩ := c.def_ 55 rfl
  have F : FunD K "tell_leaf" "tell_leaf" (defArgs (topS 54)) (defBody (topS 54)) (defScope (topS 54)) [] [] _ fd := F
  exact ⟨fd, ⟨⟨_, _, F⟩, ⟨rfl, rfl, rfl, by decide +kernel, rfl, by decide +kernel, by decide +kernel⟩, rfl, c_tell_leaf⟩, bind_mk F fun _ _ _ _ _ _ us hl => match us, hl with | [_, _], _ => rfl⟩
theorem e_come_back (c : SaysQ (exs more) dfs tbs w K) : ∃ fd, DefB K gl "come_back" "come_back" i_come_back (topS 56) (He.fAd K ("come_back", none)) fd ["core", "lane"] ∧ Binds K fd ["core", "lane"] [] := by
  obtain ⟨fd, F⟩ := c.def_ 56 rfl
  have F : FunD K "come_back" "come_back" (defArgs (topS 56)) (defBody (topS 56)) (defScope (topS 56)) [] [] _ fd := F
  exact ⟨fd, ⟨⟨_, _, F⟩, ⟨rfl, rfl, rfl, by decide +kernel, rfl, by decide +kernel, by decide +kernel⟩, rfl, c_come_back⟩, bind_mk F fun _ _ _ _ _ _ us hl => match us, hl with | [_, _], _ => rfl⟩
theorem e_do_of_lane (c : SaysQ (exs more) dfs tbs w K) : ∃ fd, DefB K gl "do_of_lane" "do_of_lane" i_do_of_lane (topS 57) (He.fAd K ("do_of_lane", none)) fd ["core", "word", "lane"] ∧ Binds K fd ["core", "word", "lane"] [] := by
  obtain ⟨fd, F⟩ := c.def_ 57 rfl
  have F : FunD K "do_of_lane" "do_of_lane" (defArgs (topS 57)) (defBody (topS 57)) (defScope (topS 57)) [] [] _ fd := F
  exact ⟨fd, ⟨⟨_, _, F⟩, ⟨rfl, rfl, rfl, by decide +kernel, rfl, by decide +kernel, by decide +kernel⟩, rfl, c_do_of_lane⟩, bind_mk F fun _ _ _ _ _ _ us hl => match us, hl with | [_, _, _], _ => rfl⟩
theorem e_drop_thing (c : SaysQ (exs more) dfs tbs w K) : ∃ fd, DefB K gl "drop_thing" "drop_thing" i_drop_thing (topS 58) (He.fAd K ("drop_thing", none)) fd ["core", "word", "lane", "thing"] ∧ Binds K fd ["core", "word", "lane", "thing"] [] := by
  obtain ⟨fd, F⟩ := c.def_ 58 rfl
  have F : FunD K "drop_thing" "drop_thing" (defArgs (topS 58)) (defBody (topS 58)) (defScope (topS 58)) [] [] _ fd := F
  exact ⟨fd, ⟨⟨_, _, F⟩, ⟨rfl, rfl, rfl, by decide +kernel, rfl, by decide +kernel, by decide +kernel⟩, rfl, c_drop_thing⟩, bind_mk F fun _ _ _ _ _ _ us hl => match us, hl with | [_, _, _, _], _ => rfl⟩
theorem e_do_alone (c : SaysQ (exs more) dfs tbs w K) : ∃ fd, DefB K gl "do_alone" "do_alone" i_do_alone (topS 59) (He.fAd K ("do_alone", none)) fd ["core", "word"] ∧ Binds K fd ["core", "word"] [] := by
  obtain ⟨fd, F⟩ := c.def_ 59 rfl
  have F : FunD K "do_alone" "do_alone" (defArgs (topS 59)) (defBody (topS 59)) (defScope (topS 59)) [] [] _ fd := F
  exact ⟨fd, ⟨⟨_, _, F⟩, ⟨rfl, rfl, rfl, by decide +kernel, rfl, by decide +kernel, by decide +kernel⟩, rfl, c_do_alone⟩, bind_mk F fun _ _ _ _ _ _ us hl => match us, hl with | [_, _], _ => rfl⟩
theorem e_do_now (c : SaysQ (exs more) dfs tbs w K) : ∃ fd, DefB K gl "do_now" "do_now" i_do_now (topS 60) (He.fAd K ("do_now", none)) fd ["core", "deed"] ∧ Binds K fd ["core", "deed"] [] := by
  obtain ⟨fd, F⟩ := c.def_ 60 rfl
  have F : FunD K "do_now" "do_now" (defArgs (topS 60)) (defBody (topS 60)) (defScope (topS 60)) [] [] _ fd := F
  exact ⟨fd, ⟨⟨_, _, F⟩, ⟨rfl, rfl, rfl, by decide +kernel, rfl, by decide +kernel, by decide +kernel⟩, rfl, c_do_now⟩, bind_mk F fun _ _ _ _ _ _ us hl => match us, hl with | [_, _], _ => rfl⟩
theorem e_most_of (c : SaysQ (exs more) dfs tbs w K) : ∃ fd, DefB K gl "most_of" "most_of" i_most_of (topS 64) (He.fAd K ("most_of", none)) fd ["shape", "sort"] ∧ Binds K fd ["shape", "sort"] [] := by
  obtain ⟨fd, F⟩ := c.def_ 61 rfl
  have F : FunD K "most_of" "most_of" (defArgs (topS 64)) (defBody (topS 64)) (defScope (topS 64)) [] [] _ fd := F
  exact ⟨fd, ⟨⟨_, _, F⟩, ⟨rfl, rfl, rfl, by decide +kernel, rfl, by decide +kernel, by decide +kernel⟩, rfl, c_most_of⟩, bind_mk F fun _ _ _ _ _ _ us hl => match us, hl with | [_, _], _ => rfl⟩
theorem e_is_number (c : SaysQ (exs more) dfs tbs w K) : ∃ fd, DefB K gl "is_number" "is_number" i_is_number (topS 65) (He.fAd K ("is_number", none)) fd ["thing", "many"] ∧ Binds K fd ["thing", "many"] [] := by
  obtain ⟨fd, F⟩ := c.def_ 62 rfl
  have F : FunD K "is_number" "is_number" (defArgs (topS 65)) (defBody (topS 65)) (defScope (topS 65)) [] [] _ fd := F
  exact ⟨fd, ⟨⟨_, _, F⟩, ⟨rfl, rfl, rfl, by decide +kernel, rfl, by decide +kernel, by decide +kernel⟩, rfl, c_is_number⟩, bind_mk F fun _ _ _ _ _ _ us hl => match us, hl with | [_, _], _ => rfl⟩
theorem e_is_deed (c : SaysQ (exs more) dfs tbs w K) : ∃ fd, DefB K gl "is_deed" "is_deed" i_is_deed (topS 66) (He.fAd K ("is_deed", none)) fd ["shape", "thing"] ∧ Binds K fd ["shape", "thing"] [] := by
  obtain ⟨fd, F⟩ := c.def_ 63 rfl
  have F : FunD K "is_deed" "is_deed" (defArgs (topS 66)) (defBody (topS 66)) (defScope (topS 66)) [] [] _ fd := F
  exact ⟨fd, ⟨⟨_, _, F⟩, ⟨rfl, rfl, rfl, by decide +kernel, rfl, by decide +kernel, by decide +kernel⟩, rfl, c_is_deed⟩, bind_mk F fun _ _ _ _ _ _ us hl => match us, hl with | [_, _], _ => rfl⟩
theorem e_can_of_reader (c : SaysQ (exs more) dfs tbs w K) : ∃ fd, DefB K gl "can_of_reader" "can_of_reader" i_can_of_reader (topS 67) (He.fAd K ("can_of_reader", none)) fd ["core", "word", "reader"] ∧ Binds K fd ["core", "word", "reader"] [] := by
  obtain ⟨fd, F⟩ := c.def_ 64 rfl
  have F : FunD K "can_of_reader" "can_of_reader" (defArgs (topS 67)) (defBody (topS 67)) (defScope (topS 67)) [] [] _ fd := F
  exact ⟨fd, ⟨⟨_, _, F⟩, ⟨rfl, rfl, rfl, by decide +kernel, rfl, by decide +kernel, by decide +kernel⟩, rfl, c_can_of_reader⟩, bind_mk F fun _ _ _ _ _ _ us hl => match us, hl with | [_, _, _], _ => rfl⟩
theorem e_can_of_lane (c : SaysQ (exs more) dfs tbs w K) : ∃ fd, DefB K gl "can_of_lane" "can_of_lane" i_can_of_lane (topS 68) (He.fAd K ("can_of_lane", none)) fd ["core", "word", "lane"] ∧ Binds K fd ["core", "word", "lane"] [] := by
  obtain ⟨fd, F⟩ := c.def_ 65 rfl
  have F : FunD K "can_of_lane" "can_of_lane" (defArgs (topS 68)) (defBody (topS 68)) (defScope (topS 68)) [] [] _ fd := F
  exact ⟨fd, ⟨⟨_, _, F⟩, ⟨rfl, rfl, rfl, by decide +kernel, rfl, by decide +kernel, by decide +kernel⟩, rfl, c_can_of_lane⟩, bind_mk F fun _ _ _ _ _ _ us hl => match us, hl with | [_, _, _], _ => rfl⟩
theorem e_can_now (c : SaysQ (exs more) dfs tbs w K) : ∃ fd, DefB K gl "can_now" "can_now" i_can_now (topS 69) (He.fAd K ("can_now", none)) fd ["core", "deed"] ∧ Binds K fd ["core", "deed"] [] := by
  obtain ⟨fd, F⟩ := c.def_ 66 rfl
  have F : FunD K "can_now" "can_now" (defArgs (topS 69)) (defBody (topS 69)) (defScope (topS 69)) [] [] _ fd := F
  exact ⟨fd, ⟨⟨_, _, F⟩, ⟨rfl, rfl, rfl, by decide +kernel, rfl, by decide +kernel, by decide +kernel⟩, rfl, c_can_now⟩, bind_mk F fun _ _ _ _ _ _ us hl => match us, hl with | [_, _], _ => rfl⟩
theorem e_look_at_shape (c : SaysQ (exs more) dfs tbs w K) : ∃ fd, DefB K gl "look_at_shape" "look_at_shape" i_look_at_shape (topS 96) (He.fAd K ("look_at_shape", none)) fd ["thing"] ∧ Binds K fd ["thing"] [] := by
  obtain ⟨fd, F⟩ := c.def_ 67 rfl
  have F : FunD K "look_at_shape" "look_at_shape" (defArgs (topS 96)) (defBody (topS 96)) (defScope (topS 96)) [] [] _ fd := F
  exact ⟨fd, ⟨⟨_, _, F⟩, ⟨rfl, rfl, rfl, by decide +kernel, rfl, by decide +kernel, by decide +kernel⟩, rfl, c_look_at_shape⟩, bind_mk F fun _ _ _ _ _ _ us hl => match us, hl with | [_], _ => rfl⟩
theorem e_look_at_rules (c : SaysQ (exs more) dfs tbs w K) : ∃ fd, DefB K gl "look_at_rules" "look_at_rules" i_look_at_rules (topS 100) (He.fAd K ("look_at_rules", none)) fd ["thing"] ∧ Binds K fd ["thing"] [] := by
  obtain ⟨fd, F⟩ := c.def_ 68 rfl
  have F : FunD K "look_at_rules" "look_at_rules" (defArgs (topS 100)) (defBody (topS 100)) (defScope (topS 100)) [] [] _ fd := F
  exact ⟨fd, ⟨⟨_, _, F⟩, ⟨rfl, rfl, rfl, by decide +kernel, rfl, by decide +kernel, by decide +kernel⟩, rfl, c_look_at_rules⟩, bind_mk F fun _ _ _ _ _ _ us hl => match us, hl with | [_], _ => rfl⟩
theorem e_Weave_init__ (c : SaysQ (exs more) dfs tbs w K) : ∃ fd, DefB K gl "__init__" "Weave.__init__" i_Weave_init__ (topM 101 0) (He.fAd K ("Weave", some "__init__")) fd ["self", "shape", "stand", "without"] ∧ FunD K "__init__" "Weave.__init__" (defArgs (topM 101 0)) (defBody (topM 101 0)) (defScope (topM 101 0)) [] [("stand", .non), ("without", .ref (kwAt ("Weave", some "__init__") "without" K))] (He.fAd K ("Weave", some "__init__")) fd := by
  obtain ⟨fd, F⟩ := c.def_ 69 rfl
  have F : FunD K "__init__" "Weave.__init__" (defArgs (topM 101 0)) (defBody (topM 101 0)) (defScope (topM 101 0)) [] [("stand", .non), ("without", .ref (kwAt ("Weave", some "__init__") "without" K))] _ fd := F
  exact ⟨fd, ⟨⟨_, _, F⟩, ⟨rfl, rfl, rfl, by decide +kernel, rfl, by decide +kernel, by decide +kernel⟩, rfl, c_Weave_init__⟩, F⟩
theorem e_Weave_can (c : SaysQ (exs more) dfs tbs w K) : ∃ fd, DefB K gl "can" "Weave.can" i_Weave_can (topM 101 1) (He.fAd K ("Weave", some "can")) fd ["self", "thing"] ∧ Binds K fd ["self", "thing"] [] := by
  obtain ⟨fd, F⟩ := c.def_ 70 rfl
  have F : FunD K "can" "Weave.can" (defArgs (topM 101 1)) (defBody (topM 101 1)) (defScope (topM 101 1)) [] [] _ fd := F
  exact ⟨fd, ⟨⟨_, _, F⟩, ⟨rfl, rfl, rfl, by decide +kernel, rfl, by decide +kernel, by decide +kernel⟩, rfl, c_Weave_can⟩, bind_mk F fun _ _ _ _ _ _ us hl => match us, hl with | [_, _], _ => rfl⟩
theorem e_Weave_do (c : SaysQ (exs more) dfs tbs w K) : ∃ fd, DefB K gl "do" "Weave.do" i_Weave_do (topM 101 2) (He.fAd K ("Weave", some "do")) fd ["self", "deed"] ∧ Binds K fd ["self", "deed"] [] := by
  obtain ⟨fd, F⟩ := c.def_ 71 rfl
  have F : FunD K "do" "Weave.do" (defArgs (topM 101 2)) (defBody (topM 101 2)) (defScope (topM 101 2)) [] [] _ fd := F
  exact ⟨fd, ⟨⟨_, _, F⟩, ⟨rfl, rfl, rfl, by decide +kernel, rfl, by decide +kernel, by decide +kernel⟩, rfl, c_Weave_do⟩, bind_mk F fun _ _ _ _ _ _ us hl => match us, hl with | [_, _], _ => rfl⟩
theorem e_Weave_now (c : SaysQ (exs more) dfs tbs w K) : ∃ fd, DefB K gl "now" "Weave.now" i_Weave_now (topM 101 5) (He.fAd K ("Weave", some "now")) fd ["self"] ∧ Binds K fd ["self"] [] := by
  obtain ⟨fd, F⟩ := c.def_ 72 rfl
  have F : FunD K "now" "Weave.now" (defArgs (topM 101 5)) (defBody (topM 101 5)) (defScope (topM 101 5)) [] [] _ fd := F
  exact ⟨fd, ⟨⟨_, _, F⟩, ⟨rfl, rfl, rfl, by decide +kernel, rfl, by decide +kernel, by decide +kernel⟩, rfl, c_Weave_now⟩, bind_mk F fun _ _ _ _ _ _ us hl => match us, hl with | [_], _ => rfl⟩
theorem e_Weave_wanted (c : SaysQ (exs more) dfs tbs w K) : ∃ fd, DefB K gl "wanted" "Weave.wanted" i_Weave_wanted (topM 101 6) (He.fAd K ("Weave", some "wanted")) fd ["self"] ∧ Binds K fd ["self"] [] := by
  obtain ⟨fd, F⟩ := c.def_ 73 rfl
  have F : FunD K "wanted" "Weave.wanted" (defArgs (topM 101 6)) (defBody (topM 101 6)) (defScope (topM 101 6)) [] [] _ fd := F
  exact ⟨fd, ⟨⟨_, _, F⟩, ⟨rfl, rfl, rfl, by decide +kernel, rfl, by decide +kernel, by decide +kernel⟩, rfl, c_Weave_wanted⟩, bind_mk F fun _ _ _ _ _ _ us hl => match us, hl with | [_], _ => rfl⟩
theorem e_Weave_node (c : SaysQ (exs more) dfs tbs w K) : ∃ fd, DefB K gl "node" "Weave.node" i_Weave_node (topM 101 10) (He.fAd K ("Weave", some "node")) fd ["self", "node"] ∧ Binds K fd ["self", "node"] [] := by
  obtain ⟨fd, F⟩ := c.def_ 74 rfl
  have F : FunD K "node" "Weave.node" (defArgs (topM 101 10)) (defBody (topM 101 10)) (defScope (topM 101 10)) [] [] _ fd := F
  exact ⟨fd, ⟨⟨_, _, F⟩, ⟨rfl, rfl, rfl, by decide +kernel, rfl, by decide +kernel, by decide +kernel⟩, rfl, c_Weave_node⟩, bind_mk F fun _ _ _ _ _ _ us hl => match us, hl with | [_, _], _ => rfl⟩
theorem e_law_rows (c : SaysQ (exs more) dfs tbs w K) : ∃ fd, DefB K gl "_law_rows" "_law_rows" i_law_rows (topS 103) (He.fAd K ("_law_rows", none)) fd [] ∧ Binds K fd [] [] := by
  obtain ⟨fd, F⟩ := c.def_ 75 rfl
  have F : FunD K "_law_rows" "_law_rows" (defArgs (topS 103)) (defBody (topS 103)) (defScope (topS 103)) [] [] _ fd := F
  exact ⟨fd, ⟨⟨_, _, F⟩, ⟨rfl, rfl, rfl, by decide +kernel, rfl, by decide +kernel, by decide +kernel⟩, rfl, c_law_rows⟩, bind_mk F fun _ _ _ _ _ _ us hl => match us, hl with | [], _ => rfl⟩
theorem e_law_told (c : SaysQ (exs more) dfs tbs w K) : ∃ fd, DefB K gl "_law_told" "_law_told" i_law_told (topS 104) (He.fAd K ("_law_told", none)) fd ["_law_rule", "_law_left"] ∧ Binds K fd ["_law_rule", "_law_left"] [] := by
  obtain ⟨fd, F⟩ := c.def_ 76 rfl
  have F : FunD K "_law_told" "_law_told" (defArgs (topS 104)) (defBody (topS 104)) (defScope (topS 104)) [] [] _ fd := F
  exact ⟨fd, ⟨⟨_, _, F⟩, ⟨rfl, rfl, rfl, by decide +kernel, rfl, by decide +kernel, by decide +kernel⟩, rfl, c_law_told⟩, bind_mk F fun _ _ _ _ _ _ us hl => match us, hl with | [_, _], _ => rfl⟩
theorem e_law_due (c : SaysQ (exs more) dfs tbs w K) : ∃ fd, DefB K gl "_law_due" "_law_due" i_law_due (topS 105) (He.fAd K ("_law_due", none)) fd [] ∧ Binds K fd [] [] := by
  obtain ⟨fd, F⟩ := c.def_ 77 rfl
  have F : FunD K "_law_due" "_law_due" (defArgs (topS 105)) (defBody (topS 105)) (defScope (topS 105)) [] [] _ fd := F
  exact ⟨fd, ⟨⟨_, _, F⟩, ⟨rfl, rfl, rfl, by decide +kernel, rfl, by decide +kernel, by decide +kernel⟩, rfl, c_law_due⟩, bind_mk F fun _ _ _ _ _ _ us hl => match us, hl with | [], _ => rfl⟩
theorem e_law_left_out (c : SaysQ (exs more) dfs tbs w K) : ∃ fd, DefB K gl "_law_left_out" "_law_left_out" i_law_left_out (topS 106) (He.fAd K ("_law_left_out", none)) fd [] ∧ Binds K fd [] [] := by
  obtain ⟨fd, F⟩ := c.def_ 78 rfl
  have F : FunD K "_law_left_out" "_law_left_out" (defArgs (topS 106)) (defBody (topS 106)) (defScope (topS 106)) [] [] _ fd := F
  exact ⟨fd, ⟨⟨_, _, F⟩, ⟨rfl, rfl, rfl, by decide +kernel, rfl, by decide +kernel, by decide +kernel⟩, rfl, c_law_left_out⟩, bind_mk F fun _ _ _ _ _ _ us hl => match us, hl with | [], _ => rfl⟩
theorem e_law (c : SaysQ (exs more) dfs tbs w K) : ∃ fd, DefB K gl "law" "law" i_law (topS 107) (He.fAd K ("law", none)) fd ["_law_script"] ∧ Binds K fd ["_law_script"] [] := by
  obtain ⟨fd, F⟩ := c.def_ 79 rfl
  have F : FunD K "law" "law" (defArgs (topS 107)) (defBody (topS 107)) (defScope (topS 107)) [] [] _ fd := F
  exact ⟨fd, ⟨⟨_, _, F⟩, ⟨rfl, rfl, rfl, by decide +kernel, rfl, by decide +kernel, by decide +kernel⟩, rfl, c_law⟩, bind_mk F fun _ _ _ _ _ _ us hl => match us, hl with | [_], _ => rfl⟩
theorem nms (X : K.In h) (G : h.Ns mainGlobals mg) (c : SaysQ (exs more) dfs tbs w K) : ClsNs K mg ocs where
  own := fun x hx => by
    have A : ∀ y ∈ ocs, (y == ("__debug__" : Str)) = false := by decide
    refine ⟨A x hx, ?_⟩
    simp only [ocs, List.mem_cons, List.not_mem_nil, or_false] at hx
    rcases hx with rfl | rfl | rfl | rfl | rfl | rfl
    · exact He.glo_ok X G (fact c 41 (f := .glo "Weave") rfl)
    · exact He.glo_ok X G (fact c 42 (f := .glo "Shape") rfl)
    · exact He.glo_ok X G (fact c 43 (f := .glo "Core") rfl)
    · exact He.glo_ok X G (fact c 44 (f := .glo "NodeSeat") rfl)
    · exact He.glo_ok X G (fact c 45 (f := .glo "ReaderSeat") rfl)
    · exact He.glo_ok X G (fact c 46 (f := .glo "LaneSeat") rfl)
  blt := fun x u hx => by
    have hm := mem_fst hx
    simp only [bxs, List.map_cons, List.map_nil, List.mem_cons, List.not_mem_nil, or_false] at hm
    rcases hm with rfl | rfl | rfl | rfl | rfl | rfl
    · exact He.free_ok X G (fact c 72 (f := .free "ValueError") rfl)
    · exact He.free_ok X G (fact c 73 (f := .free "IndexError") rfl)
    · exact He.free_ok X G (fact c 74 (f := .free "KeyError") rfl)
    · exact He.free_ok X G (fact c 75 (f := .free "LookupError") rfl)
    · exact He.free_ok X G (fact c 76 (f := .free "OverflowError") rfl)
    · exact He.free_ok X G (fact c 77 (f := .free "RuntimeError") rfl)
theorem tops (X : K.In h) (G : h.Ns mainGlobals mg) (c : SaysQ (exs more) dfs tbs w K) (so : Addr → Option HO) (hso : SoOk K so) : Top w K mg (St0 K so) T gl := by
  obtain ⟨d_law, D_law, B_law⟩ := e_law c
  obtain ⟨d_law_told, D_law_told, B_law_told⟩ := e_law_told c
  obtain ⟨d_law_left_out, D_law_left_out, B_law_left_out⟩ := e_law_left_out c
  obtain ⟨d_law_due, D_law_due, B_law_due⟩ := e_law_due c
  obtain ⟨d_law_rows, D_law_rows, B_law_rows⟩ := e_law_rows c
  obtain ⟨d_is_number, D_is_number, B_is_number⟩ := e_is_number c
  obtain ⟨d_do_now, D_do_now, B_do_now⟩ := e_do_now c
  obtain ⟨d_look_at_rules, D_look_at_rules, B_look_at_rules⟩ := e_look_at_rules c
  obtain ⟨d_look_at_shape, D_look_at_shape, B_look_at_shape⟩ := e_look_at_shape c
  obtain ⟨d_halves_up, D_halves_up, B_halves_up⟩ := e_halves_up c
  obtain ⟨d_is_within, D_is_within, B_is_within⟩ := e_is_within c
  obtain ⟨d_do_of_lane, D_do_of_lane, B_do_of_lane⟩ := e_do_of_lane c
  obtain ⟨d_do_of_reader, D_do_of_reader, B_do_of_reader⟩ := e_do_of_reader c
  obtain ⟨d_drop_thing, D_drop_thing, B_drop_thing⟩ := e_drop_thing c
  obtain ⟨d_do_alone, D_do_alone, B_do_alone⟩ := e_do_alone c
  obtain ⟨d_can_now, D_can_now, B_can_now⟩ := e_can_now c
  obtain ⟨d_is_deed, D_is_deed, B_is_deed⟩ := e_is_deed c
  obtain ⟨d_come_back, D_come_back, B_come_back⟩ := e_come_back c
  obtain ⟨d_tell_leaf, D_tell_leaf, B_tell_leaf⟩ := e_tell_leaf c
  obtain ⟨d_look_at_leaf, D_look_at_leaf, B_look_at_leaf⟩ := e_look_at_leaf c
  obtain ⟨d_enter_lane, D_enter_lane, B_enter_lane⟩ := e_enter_lane c
  obtain ⟨d_go_on, D_go_on, B_go_on⟩ := e_go_on c
  obtain ⟨d_come_out, D_come_out, B_come_out⟩ := e_come_out c
  obtain ⟨d_break_off, D_break_off, B_break_off⟩ := e_break_off c
  obtain ⟨d_rush_step, D_rush_step, B_rush_step⟩ := e_rush_step c
  obtain ⟨d_keep_step, D_keep_step, B_keep_step⟩ := e_keep_step c
  obtain ⟨d_can_of_lane, D_can_of_lane, B_can_of_lane⟩ := e_can_of_lane c
  obtain ⟨d_can_of_reader, D_can_of_reader, B_can_of_reader⟩ := e_can_of_reader c
  obtain ⟨d_most_of, D_most_of, B_most_of⟩ := e_most_of c
  obtain ⟨d_ask_leaf, D_ask_leaf, B_ask_leaf⟩ := e_ask_leaf c
  obtain ⟨d_close_next, D_close_next, B_close_next⟩ := e_close_next c
  obtain ⟨d_seek_next, D_seek_next, B_seek_next⟩ := e_seek_next c
  obtain ⟨d_open_next, D_open_next, B_open_next⟩ := e_open_next c
  obtain ⟨d_open_early, D_open_early, B_open_early⟩ := e_open_early c
  obtain ⟨d_is_under_way, D_is_under_way, B_is_under_way⟩ := e_is_under_way c
  obtain ⟨d_begin_one, D_begin_one, B_begin_one⟩ := e_begin_one c
  obtain ⟨d_due_of, D_due_of, B_due_of⟩ := e_due_of c
  obtain ⟨d_entered_ahead, D_entered_ahead, B_entered_ahead⟩ := e_entered_ahead c
  obtain ⟨d_open_leaf, D_open_leaf, B_open_leaf⟩ := e_open_leaf c
  obtain ⟨d_opened_number, D_opened_number, B_opened_number⟩ := e_opened_number c
  obtain ⟨d_look_at_number, D_look_at_number, B_look_at_number⟩ := e_look_at_number c
  have A : AllF (Fact K mg (St0 K so) T gl) kinds := ⟨⟨_, _, _, _, _, t_law, ⟨D_law, He.glo_ok X G (fact c 0 (f := .glo "law") rfl), B_law, by decide⟩⟩, ⟨rfl, He.free_ok X G (fact c 55 (f := .free "repr") rfl)⟩, ⟨_, _, _, _, _, t_law_told, ⟨D_law_told, He.glo_ok X G (fact c 1 (f := .glo "_law_told") rfl), B_law_told, by decide⟩⟩, ⟨_, _, _, _, _, t_law_left_out, ⟨D_law_left_out, He.glo_ok X G (fact c 2 (f := .glo "_law_left_out") rfl), B_law_left_out, by decide⟩⟩, ⟨_, _, _, _, _, t_law_due, ⟨D_law_due, He.glo_ok X G (fact c 3 (f := .glo "_law_due") rfl), B_law_due, by decide⟩⟩, ⟨rfl, He.free_ok X G (fact c 56 (f := .free "abs") rfl)⟩, ⟨_, _, _, _, _, t_law_rows, ⟨D_law_rows, He.glo_ok X G (fact c 4 (f := .glo "_law_rows") rfl), B_law_rows, by decide⟩⟩, ⟨_, by decide, He.glo_ok X G (fact c 41 (f := .glo "Weave") rfl), He.keep_ok (fact c 49 (f := .keep "Weave") rfl)⟩, ⟨_, by decide, He.glo_ok X G (fact c 42 (f := .glo "Shape") rfl), He.keep_ok (fact c 50 (f := .keep "Shape") rfl)⟩, ⟨rfl, He.free_ok X G (fact c 57 (f := .free "tuple") rfl)⟩, ⟨rfl, He.free_ok X G (fact c 58 (f := .free "sorted") rfl)⟩, ⟨rfl, He.free_ok X G (fact c 59 (f := .free "list") rfl)⟩, ⟨_, _, _, _, _, t_is_number, ⟨D_is_number, He.glo_ok X G (fact c 5 (f := .glo "is_number") rfl), B_is_number, by decide⟩⟩, ⟨_, _, _, _, _, t_do_now, ⟨D_do_now, He.glo_ok X G (fact c 6 (f := .glo "do_now") rfl), B_do_now, by decide⟩⟩, ⟨_, by decide, He.glo_ok X G (fact c 43 (f := .glo "Core") rfl), He.keep_ok (fact c 51 (f := .keep "Core") rfl)⟩, True.intro, ⟨_, _, _, _, _, t_look_at_rules, ⟨D_look_at_rules, He.glo_ok X G (fact c 7 (f := .glo "look_at_rules") rfl), B_look_at_rules, by decide⟩⟩, True.intro, ⟨_, _, _, _, _, t_look_at_shape, ⟨D_look_at_shape, He.glo_ok X G (fact c 8 (f := .glo "look_at_shape") rfl), B_look_at_shape, by decide⟩⟩, ⟨_, _, _, _, _, t_halves_up, ⟨D_halves_up, He.glo_ok X G (fact c 9 (f := .glo "halves_up") rfl), B_halves_up, by decide⟩⟩, ⟨_, _, _, _, _, t_is_within, ⟨D_is_within, He.glo_ok X G (fact c 10 (f := .glo "is_within") rfl), B_is_within, by decide⟩⟩, (fun v hv => by cases hv; obtain ⟨t, ht⟩ := He.int_ok X G (fact c 78 (f := .int "MOST_FAN" 4) rfl); exact ⟨_, ht, ⟨t, rfl⟩⟩), (fun v hv => by cases hv; obtain ⟨t, ht⟩ := He.int_ok X G (fact c 79 (f := .int "LEAST_FAN" 2) rfl); exact ⟨_, ht, ⟨t, rfl⟩⟩), (fun v hv => by cases hv; obtain ⟨t, ht⟩ := He.int_ok X G (fact c 80 (f := .int "MOST_LANES" 8) rfl); exact ⟨_, ht, ⟨t, rfl⟩⟩), ⟨rfl, He.free_ok X G (fact c 60 (f := .free "isinstance") rfl)⟩, ⟨rfl, He.free_ok X G (fact c 61 (f := .free "bool") rfl)⟩, ⟨rfl, He.free_ok X G (fact c 62 (f := .free "int") rfl)⟩, ⟨rfl, He.free_ok X G (fact c 63 (f := .free "sum") rfl)⟩, ⟨_, _, _, _, _, t_do_of_lane, ⟨D_do_of_lane, He.glo_ok X G (fact c 11 (f := .glo "do_of_lane") rfl), B_do_of_lane, by decide⟩⟩, ⟨_, _, _, _, _, t_do_of_reader, ⟨D_do_of_reader, He.glo_ok X G (fact c 12 (f := .glo "do_of_reader") rfl), B_do_of_reader, by decide⟩⟩, ⟨_, _, _, _, _, t_drop_thing, ⟨D_drop_thing, He.glo_ok X G (fact c 13 (f := .glo "drop_thing") rfl), B_drop_thing, by decide⟩⟩, ⟨_, _, _, _, _, t_do_alone, ⟨D_do_alone, He.glo_ok X G (fact c 14 (f := .glo "do_alone") rfl), B_do_alone, by decide⟩⟩, ⟨_, _, _, _, _, t_can_now, ⟨D_can_now, He.glo_ok X G (fact c 15 (f := .glo "can_now") rfl), B_can_now, by decide⟩⟩, ⟨_, _, _, _, _, t_is_deed, ⟨D_is_deed, He.glo_ok X G (fact c 16 (f := .glo "is_deed") rfl), B_is_deed, by decide⟩⟩, (fun v hv => by cases hv; obtain ⟨t, ht⟩ := He.int_ok X G (fact c 81 (f := .int "THINGS" 8) rfl); exact ⟨_, ht, ⟨t, rfl⟩⟩), ⟨_, by decide, He.glo_ok X G (fact c 44 (f := .glo "NodeSeat") rfl), He.keep_ok (fact c 52 (f := .keep "NodeSeat") rfl)⟩, (fun v hv => by cases hv; obtain ⟨t, ht⟩ := He.int_ok X G (fact c 82 (f := .int "READERS" 6) rfl); exact ⟨_, ht, ⟨t, rfl⟩⟩), ⟨_, by decide, He.glo_ok X G (fact c 45 (f := .glo "ReaderSeat") rfl), He.keep_ok (fact c 53 (f := .keep "ReaderSeat") rfl)⟩, ⟨_, by decide, He.glo_ok X G (fact c 46 (f := .glo "LaneSeat") rfl), He.keep_ok (fact c 54 (f := .keep "LaneSeat") rfl)⟩, (fun v hv => by cases hv; exact ⟨_, He.glo_ok X G (fact c 48 (f := .glo "RULES") rfl), rfl⟩), ⟨rfl, He.free_ok X G (fact c 64 (f := .free "str") rfl)⟩, (fun v hv => by cases hv; obtain ⟨t, ht⟩ := He.str_ok X G (fact c 83 (f := .str "AWAKE" "awake") rfl); exact ⟨_, ht, ⟨t, rfl⟩⟩), ⟨_, _, _, _, _, t_come_back, ⟨D_come_back, He.glo_ok X G (fact c 17 (f := .glo "come_back") rfl), B_come_back, by decide⟩⟩, (fun v hv => by cases hv; obtain ⟨t, ht⟩ := He.str_ok X G (fact c 84 (f := .str "IDLE" "idle") rfl); exact ⟨_, ht, ⟨t, rfl⟩⟩), (fun v hv => by cases hv; obtain ⟨t, ht⟩ := He.str_ok X G (fact c 85 (f := .str "GONE" "gone") rfl); exact ⟨_, ht, ⟨t, rfl⟩⟩), True.intro, True.intro, ⟨_, _, _, _, _, t_tell_leaf, ⟨D_tell_leaf, He.glo_ok X G (fact c 18 (f := .glo "tell_leaf") rfl), B_tell_leaf, by decide⟩⟩, ⟨_, _, _, _, _, t_look_at_leaf, ⟨D_look_at_leaf, He.glo_ok X G (fact c 19 (f := .glo "look_at_leaf") rfl), B_look_at_leaf, by decide⟩⟩, ⟨_, _, _, _, _, t_enter_lane, ⟨D_enter_lane, He.glo_ok X G (fact c 20 (f := .glo "enter_lane") rfl), B_enter_lane, by decide⟩⟩, ⟨_, _, _, _, _, t_go_on, ⟨D_go_on, He.glo_ok X G (fact c 21 (f := .glo "go_on") rfl), B_go_on, by decide⟩⟩, ⟨_, _, _, _, _, t_come_out, ⟨D_come_out, He.glo_ok X G (fact c 22 (f := .glo "come_out") rfl), B_come_out, by decide⟩⟩, ⟨_, _, _, _, _, t_break_off, ⟨D_break_off, He.glo_ok X G (fact c 23 (f := .glo "break_off") rfl), B_break_off, by decide⟩⟩, (fun v hv => by cases hv; obtain ⟨t, ht⟩ := He.str_ok X G (fact c 86 (f := .str "SWIFT" "swift") rfl); exact ⟨_, ht, ⟨t, rfl⟩⟩), (fun v hv => by cases hv; obtain ⟨t, ht⟩ := He.str_ok X G (fact c 87 (f := .str "PLAIN" "plain") rfl); exact ⟨_, ht, ⟨t, rfl⟩⟩), ⟨_, _, _, _, _, t_rush_step, ⟨D_rush_step, He.glo_ok X G (fact c 24 (f := .glo "rush_step") rfl), B_rush_step, by decide⟩⟩, ⟨_, _, _, _, _, t_keep_step, ⟨D_keep_step, He.glo_ok X G (fact c 25 (f := .glo "keep_step") rfl), B_keep_step, by decide⟩⟩, ⟨_, _, _, _, _, t_can_of_lane, ⟨D_can_of_lane, He.glo_ok X G (fact c 26 (f := .glo "can_of_lane") rfl), B_can_of_lane, by decide⟩⟩, ⟨_, _, _, _, _, t_can_of_reader, ⟨D_can_of_reader, He.glo_ok X G (fact c 27 (f := .glo "can_of_reader") rfl), B_can_of_reader, by decide⟩⟩, ⟨rfl, He.free_ok X G (fact c 65 (f := .free "all") rfl)⟩, ⟨_, _, _, _, _, t_most_of, ⟨D_most_of, He.glo_ok X G (fact c 28 (f := .glo "most_of") rfl), B_most_of, by decide⟩⟩, ⟨rfl, He.free_ok X G (fact c 66 (f := .free "len") rfl)⟩, True.intro, ⟨rfl, He.free_ok X G (fact c 67 (f := .free "max") rfl)⟩, ⟨_, _, _, _, _, t_ask_leaf, ⟨D_ask_leaf, He.glo_ok X G (fact c 29 (f := .glo "ask_leaf") rfl), B_ask_leaf, by decide⟩⟩, ⟨_, _, _, _, _, t_close_next, ⟨D_close_next, He.glo_ok X G (fact c 30 (f := .glo "close_next") rfl), B_close_next, by decide⟩⟩, ⟨_, _, _, _, _, t_seek_next, ⟨D_seek_next, He.glo_ok X G (fact c 31 (f := .glo "seek_next") rfl), B_seek_next, by decide⟩⟩, ⟨_, _, _, _, _, t_open_next, ⟨D_open_next, He.glo_ok X G (fact c 32 (f := .glo "open_next") rfl), B_open_next, by decide⟩⟩, ⟨_, _, _, _, _, t_open_early, ⟨D_open_early, He.glo_ok X G (fact c 33 (f := .glo "open_early") rfl), B_open_early, by decide⟩⟩, ⟨_, _, _, _, _, t_is_under_way, ⟨D_is_under_way, He.glo_ok X G (fact c 34 (f := .glo "is_under_way") rfl), B_is_under_way, by decide⟩⟩, ⟨_, _, _, _, _, t_begin_one, ⟨D_begin_one, He.glo_ok X G (fact c 35 (f := .glo "begin_one") rfl), B_begin_one, by decide⟩⟩, (fun v hv => by cases hv; obtain ⟨t, ht⟩ := He.int_ok X G (fact c 88 (f := .int "DEEPEST" 4) rfl); exact ⟨_, ht, ⟨t, rfl⟩⟩), ⟨_, _, _, _, _, t_due_of, ⟨D_due_of, He.glo_ok X G (fact c 36 (f := .glo "due_of") rfl), B_due_of, by decide⟩⟩, ⟨_, _, _, _, _, t_entered_ahead, ⟨D_entered_ahead, He.glo_ok X G (fact c 37 (f := .glo "entered_ahead") rfl), B_entered_ahead, by decide⟩⟩, ⟨_, _, _, _, _, t_open_leaf, ⟨D_open_leaf, He.glo_ok X G (fact c 38 (f := .glo "open_leaf") rfl), B_open_leaf, by decide⟩⟩, ⟨_, _, _, _, _, t_opened_number, ⟨D_opened_number, He.glo_ok X G (fact c 39 (f := .glo "opened_number") rfl), B_opened_number, by decide⟩⟩, ⟨_, _, _, _, _, t_look_at_number, ⟨D_look_at_number, He.glo_ok X G (fact c 40 (f := .glo "look_at_number") rfl), B_look_at_number, by decide⟩⟩, ⟨rfl, He.free_ok X G (fact c 68 (f := .free "min") rfl)⟩, True.intro⟩
  exact {
    so := hso
    fl := fun C f z => by
      obtain ⟨x, rfl, hm⟩ := z
      simp only [cfl, List.mem_cons, List.not_mem_nil, or_false, Prod.mk.injEq] at hm
      rcases hm with ⟨rfl, rfl⟩ | ⟨rfl, rfl⟩ | ⟨rfl, rfl⟩ | ⟨rfl, rfl⟩ | ⟨rfl, rfl⟩ | ⟨rfl, rfl⟩ | ⟨rfl, rfl⟩ | ⟨rfl, rfl⟩ | ⟨rfl, rfl⟩ | ⟨rfl, rfl⟩ | ⟨rfl, rfl⟩ | ⟨rfl, rfl⟩ | ⟨rfl, rfl⟩ | ⟨rfl, rfl⟩ | ⟨rfl, rfl⟩ | ⟨rfl, rfl⟩ | ⟨rfl, rfl⟩ | ⟨rfl, rfl⟩ | ⟨rfl, rfl⟩ | ⟨rfl, rfl⟩ | ⟨rfl, rfl⟩ | ⟨rfl, rfl⟩ | ⟨rfl, rfl⟩ | ⟨rfl, rfl⟩ | ⟨rfl, rfl⟩ | ⟨rfl, rfl⟩ | ⟨rfl, rfl⟩ | ⟨rfl, rfl⟩ | ⟨rfl, rfl⟩ | ⟨rfl, rfl⟩ | ⟨rfl, rfl⟩ | ⟨rfl, rfl⟩ | ⟨rfl, rfl⟩ | ⟨rfl, rfl⟩ | ⟨rfl, rfl⟩ | ⟨rfl, rfl⟩
      · exact ⟨He.cls_ok (fact c 89 (f := .cls "Weave") rfl), He.noat_ok (fact c 95 (f := .noat "Weave" "left_out") rfl)⟩
      · exact ⟨He.cls_ok (fact c 89 (f := .cls "Weave") rfl), He.noat_ok (fact c 96 (f := .noat "Weave" "core") rfl)⟩
      · exact ⟨He.cls_ok (fact c 89 (f := .cls "Weave") rfl), He.noat_ok (fact c 97 (f := .noat "Weave" "own_log") rfl)⟩
      · exact ⟨He.cls_ok (fact c 90 (f := .cls "Shape") rfl), He.noat_ok (fact c 98 (f := .noat "Shape" "own_lanes") rfl)⟩
      · exact ⟨He.cls_ok (fact c 90 (f := .cls "Shape") rfl), He.noat_ok (fact c 99 (f := .noat "Shape" "own_fan") rfl)⟩
      · exact ⟨He.cls_ok (fact c 90 (f := .cls "Shape") rfl), He.noat_ok (fact c 100 (f := .noat "Shape" "rows") rfl)⟩
      · exact ⟨He.cls_ok (fact c 91 (f := .cls "Core") rfl), He.noat_ok (fact c 101 (f := .noat "Core" "own_shape") rfl)⟩
      · exact ⟨He.cls_ok (fact c 91 (f := .cls "Core") rfl), He.noat_ok (fact c 102 (f := .noat "Core" "without") rfl)⟩
      · exact ⟨He.cls_ok (fact c 91 (f := .cls "Core") rfl), He.noat_ok (fact c 103 (f := .noat "Core" "lane_seats") rfl)⟩
      · exact ⟨He.cls_ok (fact c 91 (f := .cls "Core") rfl), He.noat_ok (fact c 104 (f := .noat "Core" "reader_seats") rfl)⟩
      · exact ⟨He.cls_ok (fact c 91 (f := .cls "Core") rfl), He.noat_ok (fact c 105 (f := .noat "Core" "node_seats") rfl)⟩
      · exact ⟨He.cls_ok (fact c 91 (f := .cls "Core") rfl), He.noat_ok (fact c 106 (f := .noat "Core" "things_in") rfl)⟩
      · exact ⟨He.cls_ok (fact c 91 (f := .cls "Core") rfl), He.noat_ok (fact c 107 (f := .noat "Core" "things_gone") rfl)⟩
      · exact ⟨He.cls_ok (fact c 91 (f := .cls "Core") rfl), He.noat_ok (fact c 108 (f := .noat "Core" "numbers") rfl)⟩
      · exact ⟨He.cls_ok (fact c 91 (f := .cls "Core") rfl), He.noat_ok (fact c 109 (f := .noat "Core" "wanted_by") rfl)⟩
      · exact ⟨He.cls_ok (fact c 91 (f := .cls "Core") rfl), He.noat_ok (fact c 110 (f := .noat "Core" "opened") rfl)⟩
      · exact ⟨He.cls_ok (fact c 91 (f := .cls "Core") rfl), He.noat_ok (fact c 111 (f := .noat "Core" "sought") rfl)⟩
      · exact ⟨He.cls_ok (fact c 91 (f := .cls "Core") rfl), He.noat_ok (fact c 112 (f := .noat "Core" "closed") rfl)⟩
      · exact ⟨He.cls_ok (fact c 91 (f := .cls "Core") rfl), He.noat_ok (fact c 113 (f := .noat "Core" "asked") rfl)⟩
      · exact ⟨He.cls_ok (fact c 91 (f := .cls "Core") rfl), He.noat_ok (fact c 114 (f := .noat "Core" "waited") rfl)⟩
      · exact ⟨He.cls_ok (fact c 92 (f := .cls "NodeSeat") rfl), He.noat_ok (fact c 115 (f := .noat "NodeSeat" "bits") rfl)⟩
      · exact ⟨He.cls_ok (fact c 92 (f := .cls "NodeSeat") rfl), He.noat_ok (fact c 116 (f := .noat "NodeSeat" "listed") rfl)⟩
      · exact ⟨He.cls_ok (fact c 92 (f := .cls "NodeSeat") rfl), He.noat_ok (fact c 117 (f := .noat "NodeSeat" "held") rfl)⟩
      · exact ⟨He.cls_ok (fact c 92 (f := .cls "NodeSeat") rfl), He.noat_ok (fact c 118 (f := .noat "NodeSeat" "opened_for") rfl)⟩
      · exact ⟨He.cls_ok (fact c 92 (f := .cls "NodeSeat") rfl), He.noat_ok (fact c 119 (f := .noat "NodeSeat" "stopped") rfl)⟩
      · exact ⟨He.cls_ok (fact c 93 (f := .cls "ReaderSeat") rfl), He.noat_ok (fact c 120 (f := .noat "ReaderSeat" "deep") rfl)⟩
      · exact ⟨He.cls_ok (fact c 93 (f := .cls "ReaderSeat") rfl), He.noat_ok (fact c 121 (f := .noat "ReaderSeat" "on") rfl)⟩
      · exact ⟨He.cls_ok (fact c 93 (f := .cls "ReaderSeat") rfl), He.noat_ok (fact c 122 (f := .noat "ReaderSeat" "entered") rfl)⟩
      · exact ⟨He.cls_ok (fact c 93 (f := .cls "ReaderSeat") rfl), He.noat_ok (fact c 123 (f := .noat "ReaderSeat" "listed_at") rfl)⟩
      · exact ⟨He.cls_ok (fact c 93 (f := .cls "ReaderSeat") rfl), He.noat_ok (fact c 124 (f := .noat "ReaderSeat" "things") rfl)⟩
      · exact ⟨He.cls_ok (fact c 94 (f := .cls "LaneSeat") rfl), He.noat_ok (fact c 125 (f := .noat "LaneSeat" "word") rfl)⟩
      · exact ⟨He.cls_ok (fact c 94 (f := .cls "LaneSeat") rfl), He.noat_ok (fact c 126 (f := .noat "LaneSeat" "runs") rfl)⟩
      · exact ⟨He.cls_ok (fact c 94 (f := .cls "LaneSeat") rfl), He.noat_ok (fact c 127 (f := .noat "LaneSeat" "looked") rfl)⟩
      · exact ⟨He.cls_ok (fact c 94 (f := .cls "LaneSeat") rfl), He.noat_ok (fact c 128 (f := .noat "LaneSeat" "wants") rfl)⟩
      · exact ⟨He.cls_ok (fact c 94 (f := .cls "LaneSeat") rfl), He.noat_ok (fact c 129 (f := .noat "LaneSeat" "passed") rfl)⟩
      · exact ⟨He.cls_ok (fact c 94 (f := .cls "LaneSeat") rfl), He.noat_ok (fact c 130 (f := .noat "LaneSeat" "calls_by") rfl)⟩
    at_ := fun x => by
      unfold gl
      cases q : kinds.lookup x with
      | none => exact True.intro
      | some g => exact A.at q
    rng := fun _ => He.free_ok X G (fact c 69 (f := .free "range") rfl)
    fre := fun x hx _ => by
      rcases hx with rfl | rfl
      · exact He.free_ok X G (fact c 70 (f := .free "enumerate") rfl)
      · exact He.free_ok X G (fact c 71 (f := .free "zip") rfl)
    xc := fun x C f _ hx => by
      cases hx
    isa := fun _ _ _ hx => isaF_ok (nms X G c) hx
    iso := fun _ _ _ hx => isoF_ok (nms X G c) hx
    isb := fun _ hx => isbF_ok (nms X G c) hx
    xf := fun C f hx => by
      obtain ⟨_, h2⟩ := He.ba hx
      obtain ⟨h3, h4⟩ := He.ba h2
      exact ⟨xvB_ok h3, of_decide_eq_true h4⟩
    mt := fun C m g hx => by
      obtain ⟨x, hm, rfl⟩ := mtF_mem (show mtF K cmt C m = some g from hx)
      simp only [cmt, List.mem_cons, List.not_mem_nil, or_false, Prod.mk.injEq] at hm
      rcases hm with ⟨rfl, rfl, rfl⟩ | ⟨rfl, rfl, rfl⟩ | ⟨rfl, rfl, rfl⟩ | ⟨rfl, rfl, rfl⟩ | ⟨rfl, rfl, rfl⟩ | ⟨rfl, rfl, rfl⟩ | ⟨rfl, rfl, rfl⟩ | ⟨rfl, rfl, rfl⟩ | ⟨rfl, rfl, rfl⟩ | ⟨rfl, rfl, rfl⟩ | ⟨rfl, rfl, rfl⟩ | ⟨rfl, rfl, rfl⟩ | ⟨rfl, rfl, rfl⟩ | ⟨rfl, rfl, rfl⟩ | ⟨rfl, rfl, rfl⟩ | ⟨rfl, rfl, rfl⟩ | ⟨rfl, rfl, rfl⟩ | ⟨rfl, rfl, rfl⟩ | ⟨rfl, rfl, rfl⟩ | ⟨rfl, rfl, rfl⟩ | ⟨rfl, rfl, rfl⟩ | ⟨rfl, rfl, rfl⟩ | ⟨rfl, rfl, rfl⟩ | ⟨rfl, rfl, rfl⟩ | ⟨rfl, rfl, rfl⟩ | ⟨rfl, rfl, rfl⟩ | ⟨rfl, rfl, rfl⟩ | ⟨rfl, rfl, rfl⟩ | ⟨rfl, rfl, rfl⟩ | ⟨rfl, rfl, rfl⟩ | ⟨rfl, rfl, rfl⟩ | ⟨rfl, rfl, rfl⟩ | ⟨rfl, rfl, rfl⟩
      · obtain ⟨fd, D, B⟩ := e_LaneSeat_is_free c
        exact ⟨He.cls_ok (fact c 94 (f := .cls "LaneSeat") rfl), _, _, _, _, _, fd, _, t_LaneSeat_is_free, He.meth_ok (fact c 131 (f := .meth "LaneSeat" "is_free") rfl), D, B⟩
      · obtain ⟨fd, D, B⟩ := e_ReaderSeat_is_running c
        exact ⟨He.cls_ok (fact c 93 (f := .cls "ReaderSeat") rfl), _, _, _, _, _, fd, _, t_ReaderSeat_is_running, He.meth_ok (fact c 132 (f := .meth "ReaderSeat" "is_running") rfl), D, B⟩
      · obtain ⟨fd, D, B⟩ := e_ReaderSeat_is_off c
        exact ⟨He.cls_ok (fact c 93 (f := .cls "ReaderSeat") rfl), _, _, _, _, _, fd, _, t_ReaderSeat_is_off, He.meth_ok (fact c 133 (f := .meth "ReaderSeat" "is_off") rfl), D, B⟩
      · obtain ⟨fd, D, B⟩ := e_ReaderSeat_leave c
        exact ⟨He.cls_ok (fact c 93 (f := .cls "ReaderSeat") rfl), _, _, _, _, _, fd, _, t_ReaderSeat_leave, He.meth_ok (fact c 134 (f := .meth "ReaderSeat" "leave") rfl), D, B⟩
      · obtain ⟨fd, D, B⟩ := e_NodeSeat_is_quiet c
        exact ⟨He.cls_ok (fact c 92 (f := .cls "NodeSeat") rfl), _, _, _, _, _, fd, _, t_NodeSeat_is_quiet, He.meth_ok (fact c 135 (f := .meth "NodeSeat" "is_quiet") rfl), D, B⟩
      · obtain ⟨fd, D, B⟩ := e_Shape_lanes c
        exact ⟨He.cls_ok (fact c 90 (f := .cls "Shape") rfl), _, _, _, _, _, fd, _, t_Shape_lanes, He.meth_ok (fact c 136 (f := .meth "Shape" "lanes") rfl), D, B⟩
      · obtain ⟨fd, D, B⟩ := e_Shape_nodes c
        exact ⟨He.cls_ok (fact c 90 (f := .cls "Shape") rfl), _, _, _, _, _, fd, _, t_Shape_nodes, He.meth_ok (fact c 137 (f := .meth "Shape" "nodes") rfl), D, B⟩
      · obtain ⟨fd, D, B⟩ := e_Shape_first_of c
        exact ⟨He.cls_ok (fact c 90 (f := .cls "Shape") rfl), _, _, _, _, _, fd, _, t_Shape_first_of, He.meth_ok (fact c 138 (f := .meth "Shape" "first_of") rfl), D, B⟩
      · obtain ⟨fd, D, B⟩ := e_Shape_leaves c
        exact ⟨He.cls_ok (fact c 90 (f := .cls "Shape") rfl), _, _, _, _, _, fd, _, t_Shape_leaves, He.meth_ok (fact c 139 (f := .meth "Shape" "leaves") rfl), D, B⟩
      · obtain ⟨fd, D, B⟩ := e_Shape_leaf_of c
        exact ⟨He.cls_ok (fact c 90 (f := .cls "Shape") rfl), _, _, _, _, _, fd, _, t_Shape_leaf_of, He.meth_ok (fact c 140 (f := .meth "Shape" "leaf_of") rfl), D, B⟩
      · obtain ⟨fd, D, B⟩ := e_Shape_seat_of c
        exact ⟨He.cls_ok (fact c 90 (f := .cls "Shape") rfl), _, _, _, _, _, fd, _, t_Shape_seat_of, He.meth_ok (fact c 141 (f := .meth "Shape" "seat_of") rfl), D, B⟩
      · obtain ⟨fd, D, B⟩ := e_Shape_parent_of c
        exact ⟨He.cls_ok (fact c 90 (f := .cls "Shape") rfl), _, _, _, _, _, fd, _, t_Shape_parent_of, He.meth_ok (fact c 142 (f := .meth "Shape" "parent_of") rfl), D, B⟩
      · obtain ⟨fd, D, B⟩ := e_Shape_beneath c
        exact ⟨He.cls_ok (fact c 90 (f := .cls "Shape") rfl), _, _, _, _, _, fd, _, t_Shape_beneath, He.meth_ok (fact c 143 (f := .meth "Shape" "beneath") rfl), D, B⟩
      · obtain ⟨fd, D, B⟩ := e_Core_lacks c
        exact ⟨He.cls_ok (fact c 91 (f := .cls "Core") rfl), _, _, _, _, _, fd, _, t_Core_lacks, He.meth_ok (fact c 144 (f := .meth "Core" "lacks") rfl), D, B⟩
      · obtain ⟨fd, D, B⟩ := e_Core_goes_on c
        exact ⟨He.cls_ok (fact c 91 (f := .cls "Core") rfl), _, _, _, _, _, fd, _, t_Core_goes_on, He.meth_ok (fact c 145 (f := .meth "Core" "goes_on") rfl), D, B⟩
      · obtain ⟨fd, D, B⟩ := e_Core_leaf c
        exact ⟨He.cls_ok (fact c 91 (f := .cls "Core") rfl), _, _, _, _, _, fd, _, t_Core_leaf, He.meth_ok (fact c 146 (f := .meth "Core" "leaf") rfl), D, B⟩
      · obtain ⟨fd, D, B⟩ := e_Core_due c
        exact ⟨He.cls_ok (fact c 91 (f := .cls "Core") rfl), _, _, _, _, _, fd, _, t_Core_due, He.meth_ok (fact c 147 (f := .meth "Core" "due") rfl), D, B⟩
      · obtain ⟨fd, D, B⟩ := e_Core_ask c
        exact ⟨He.cls_ok (fact c 91 (f := .cls "Core") rfl), _, _, _, _, _, fd, _, t_Core_ask, He.meth_ok (fact c 148 (f := .meth "Core" "ask") rfl), D, B⟩
      · obtain ⟨fd, D, B⟩ := e_Core_is_old c
        exact ⟨He.cls_ok (fact c 91 (f := .cls "Core") rfl), _, _, _, _, _, fd, _, t_Core_is_old, He.meth_ok (fact c 149 (f := .meth "Core" "is_old") rfl), D, B⟩
      · obtain ⟨fd, D, B⟩ := e_Core_is_here c
        exact ⟨He.cls_ok (fact c 91 (f := .cls "Core") rfl), _, _, _, _, _, fd, _, t_Core_is_here, He.meth_ok (fact c 150 (f := .meth "Core" "is_here") rfl), D, B⟩
      · obtain ⟨fd, D, B⟩ := e_Core_others_here c
        exact ⟨He.cls_ok (fact c 91 (f := .cls "Core") rfl), _, _, _, _, _, fd, _, t_Core_others_here, He.meth_ok (fact c 151 (f := .meth "Core" "others_here") rfl), D, B⟩
      · obtain ⟨fd, D, B⟩ := e_Core_is_quiet c
        exact ⟨He.cls_ok (fact c 91 (f := .cls "Core") rfl), _, _, _, _, _, fd, _, t_Core_is_quiet, He.meth_ok (fact c 152 (f := .meth "Core" "is_quiet") rfl), D, B⟩
      · obtain ⟨fd, D, B⟩ := e_Core_tell_up c
        exact ⟨He.cls_ok (fact c 91 (f := .cls "Core") rfl), _, _, _, _, _, fd, _, t_Core_tell_up, He.meth_ok (fact c 153 (f := .meth "Core" "tell_up") rfl), D, B⟩
      · obtain ⟨fd, D, B⟩ := e_Core_clear c
        exact ⟨He.cls_ok (fact c 91 (f := .cls "Core") rfl), _, _, _, _, _, fd, _, t_Core_clear, He.meth_ok (fact c 154 (f := .meth "Core" "clear") rfl), D, B⟩
      · obtain ⟨fd, D, B⟩ := e_Core_list_at c
        exact ⟨He.cls_ok (fact c 91 (f := .cls "Core") rfl), _, _, _, _, _, fd, _, t_Core_list_at, He.meth_ok (fact c 155 (f := .meth "Core" "list_at") rfl), D, B⟩
      · obtain ⟨fd, D, B⟩ := e_Core_unlist c
        exact ⟨He.cls_ok (fact c 91 (f := .cls "Core") rfl), _, _, _, _, _, fd, _, t_Core_unlist, He.meth_ok (fact c 156 (f := .meth "Core" "unlist") rfl), D, B⟩
      · obtain ⟨fd, D, B⟩ := e_Core_stop c
        exact ⟨He.cls_ok (fact c 91 (f := .cls "Core") rfl), _, _, _, _, _, fd, _, t_Core_stop, He.meth_ok (fact c 157 (f := .meth "Core" "stop") rfl), D, B⟩
      · obtain ⟨fd, D, B⟩ := e_Core_is_stopped c
        exact ⟨He.cls_ok (fact c 91 (f := .cls "Core") rfl), _, _, _, _, _, fd, _, t_Core_is_stopped, He.meth_ok (fact c 158 (f := .meth "Core" "is_stopped") rfl), D, B⟩
      · obtain ⟨fd, D, B⟩ := e_Weave_can c
        exact ⟨He.cls_ok (fact c 89 (f := .cls "Weave") rfl), _, _, _, _, _, fd, _, t_Weave_can, He.meth_ok (fact c 159 (f := .meth "Weave" "can") rfl), D, B⟩
      · obtain ⟨fd, D, B⟩ := e_Weave_do c
        exact ⟨He.cls_ok (fact c 89 (f := .cls "Weave") rfl), _, _, _, _, _, fd, _, t_Weave_do, He.meth_ok (fact c 160 (f := .meth "Weave" "do") rfl), D, B⟩
      · obtain ⟨fd, D, B⟩ := e_Weave_now c
        exact ⟨He.cls_ok (fact c 89 (f := .cls "Weave") rfl), _, _, _, _, _, fd, _, t_Weave_now, He.meth_ok (fact c 161 (f := .meth "Weave" "now") rfl), D, B⟩
      · obtain ⟨fd, D, B⟩ := e_Weave_wanted c
        exact ⟨He.cls_ok (fact c 89 (f := .cls "Weave") rfl), _, _, _, _, _, fd, _, t_Weave_wanted, He.meth_ok (fact c 162 (f := .meth "Weave" "wanted") rfl), D, B⟩
      · obtain ⟨fd, D, B⟩ := e_Weave_node c
        exact ⟨He.cls_ok (fact c 89 (f := .cls "Weave") rfl), _, _, _, _, _, fd, _, t_Weave_node, He.meth_ok (fact c 163 (f := .meth "Weave" "node") rfl), D, B⟩
    mkc := fun x n ks C g pm _ hx => by
      obtain ⟨pm, hm, rfl, rfl⟩ := mkF_mem (show mkF K mks x n ks = some (C, g, pm) from hx)
      simp only [mks, List.mem_cons, List.not_mem_nil, or_false, Prod.mk.injEq] at hm
      rcases hm with ⟨rfl, rfl, rfl, rfl, rfl⟩ | ⟨rfl, rfl, rfl, rfl, rfl⟩ | ⟨rfl, rfl, rfl, rfl, rfl⟩ | ⟨rfl, rfl, rfl, rfl, rfl⟩ | ⟨rfl, rfl, rfl, rfl, rfl⟩ | ⟨rfl, rfl, rfl, rfl, rfl⟩
      · obtain ⟨fd, D, F⟩ := e_Weave_init__ c
        exact ⟨by decide, He.glo_ok X G (fact c 41 (f := .glo "Weave") rfl), _, _, _, _, _, fd, _, t_Weave_init__, He.mkr_ok (fact c 164 (f := .mkr "Weave") rfl), D, bindK_kw F 1 ["without"] [("stand", .non)] [(false, 0), (true, 0)] [.inl 0, .inr (.non), .inl 1] (List.cons_ne_nil _ _) (fun q hq => by simp only [List.mem_cons, List.not_mem_nil, or_false] at hq ⊢; simp [hq]) (fun D doc pm an cdv ct us mv ws h1 h2 h3 => match us, mv, ws, h1, h2, h3 with | [_, _], [_], [_], _, _, _ => ⟨_, _, _, _, _, _, rfl, rfl, rfl⟩) (fun vs ws hl e => match vs, hl, e with | [_, _], _, e => by cases e; rfl)⟩
      · obtain ⟨fd, D, F⟩ := e_Shape_init__ c
        exact ⟨by decide, He.glo_ok X G (fact c 42 (f := .glo "Shape") rfl), _, _, _, _, _, fd, _, t_Shape_init__, He.mkr_ok (fact c 165 (f := .mkr "Shape") rfl), D, bindK_kw F 1 [] [("fan", .int 2)] [(false, 0)] [.inl 0, .inr (.int 2)] (List.cons_ne_nil _ _) (fun _ hq => hq) (fun D doc pm an cdv ct us mv ws h1 h2 h3 => match us, mv, ws, h1, h2, h3 with | [_, _], [_], [], _, _, _ => ⟨_, _, _, _, _, _, rfl, rfl, rfl⟩) (fun vs ws hl e => match vs, hl, e with | [_], _, e => by cases e; rfl)⟩
      · obtain ⟨fd, D, F⟩ := e_Core_init__ c
        exact ⟨by decide, He.glo_ok X G (fact c 43 (f := .glo "Core") rfl), _, _, _, _, _, fd, _, t_Core_init__, He.mkr_ok (fact c 166 (f := .mkr "Core") rfl), D, bindK_pos F 2 rfl (fun _ _ _ _ _ _ us hl => match us, hl with | [_, _, _], _ => rfl)⟩
      · obtain ⟨fd, D, F⟩ := e_NodeSeat_init__ c
        exact ⟨by decide, He.glo_ok X G (fact c 44 (f := .glo "NodeSeat") rfl), _, _, _, _, _, fd, _, t_NodeSeat_init__, He.mkr_ok (fact c 167 (f := .mkr "NodeSeat") rfl), D, bindK_pos F 0 rfl (fun _ _ _ _ _ _ us hl => match us, hl with | [_], _ => rfl)⟩
      · obtain ⟨fd, D, F⟩ := e_ReaderSeat_init__ c
        exact ⟨by decide, He.glo_ok X G (fact c 45 (f := .glo "ReaderSeat") rfl), _, _, _, _, _, fd, _, t_ReaderSeat_init__, He.mkr_ok (fact c 168 (f := .mkr "ReaderSeat") rfl), D, bindK_pos F 0 rfl (fun _ _ _ _ _ _ us hl => match us, hl with | [_], _ => rfl)⟩
      · obtain ⟨fd, D, F⟩ := e_LaneSeat_init__ c
        exact ⟨by decide, He.glo_ok X G (fact c 46 (f := .glo "LaneSeat") rfl), _, _, _, _, _, fd, _, t_LaneSeat_init__, He.mkr_ok (fact c 169 (f := .mkr "LaneSeat") rfl), D, bindK_pos F 0 rfl (fun _ _ _ _ _ _ us hl => match us, hl with | [_], _ => rfl)⟩
    gd := fun x hx => by
      unfold gl at hx
      have hl : kinds.lookup x = some .dct := by
        cases q : kinds.lookup x with
        | none => rw [q] at hx; cases hx
        | some g => rw [q] at hx; exact congrArg some hx
      have hm := mem_pair hl
      simp only [kinds, List.mem_cons, List.not_mem_nil, or_false, Prod.mk.injEq, reduceCtorEq, and_false, false_or] at hm
      simp only [and_true] at hm
      rcases hm with rfl
      · obtain ⟨es, n, kd⟩ := c.tab 0 rfl
        exact ⟨dc_FORMS, He.ga K "FORMS", es, n, rfl, He.glo_ok X G (fact c 47 (f := .glo "FORMS") rfl), kd, dctB_ok (dk c 0 (e := ("FORMS", dc_FORMS)) rfl)⟩
    }
end
set_option Elab.async false
set_option linter.all false
set_option maxRecDepth 100000
set_option maxHeartbeats 4000000
open PySem QL
open L2 hiding wE wT
section
variable {K : PySem.W.Frag} {w : World}
theorem esok (c : SaysQ (exs more) dfs tbs w K) (so : Addr → Option HO) (hle : SoLe (so0 K) so) : EsOk (nmOfK K ocs so) (St0 K so) es where
  so := rfl
  gv := fun x v h => by
    have h : lookK x ecs = some v := h
    rw [lookK_eq] at h
    have hm := mem_pair h
    simp only [ecs, List.mem_cons, List.not_mem_nil, or_false, Prod.mk.injEq] at hm
    rcases hm with ⟨rfl, rfl⟩ | ⟨rfl, rfl⟩ | ⟨rfl, rfl⟩ | ⟨rfl, rfl⟩ | ⟨rfl, rfl⟩ | ⟨rfl, rfl⟩ | ⟨rfl, rfl⟩ | ⟨rfl, rfl⟩ | ⟨rfl, rfl⟩ | ⟨rfl, rfl⟩ | ⟨rfl, rfl⟩ | ⟨rfl, rfl⟩
    · exact ⟨.int 4, by kernel_rfl, fun _ _ _ => (.int _)⟩
    · exact ⟨.int 2, by kernel_rfl, fun _ _ _ => (.int _)⟩
    · exact ⟨.int 8, by kernel_rfl, fun _ _ _ => (.int _)⟩
    · exact ⟨.int 8, by kernel_rfl, fun _ _ _ => (.int _)⟩
    · exact ⟨.int 6, by kernel_rfl, fun _ _ _ => (.int _)⟩
    · exact ⟨.ref (He.ga K "RULES"), by kernel_rfl, fun k h s => tup_rl (hle _ _ (by simp [so0, tps])) s (.cons (.str _) (.cons (.str _) (.cons (.str _) (.cons (.str _) (.cons (.str _) (.cons (.str _) (.cons (.str _) (.cons (.str _) (.cons (.str _) .nil)))))))))⟩
    · exact ⟨.str "awake", by kernel_rfl, fun _ _ _ => (.str _)⟩
    · exact ⟨.str "idle", by kernel_rfl, fun _ _ _ => (.str _)⟩
    · exact ⟨.str "gone", by kernel_rfl, fun _ _ _ => (.str _)⟩
    · exact ⟨.str "swift", by kernel_rfl, fun _ _ _ => (.str _)⟩
    · exact ⟨.str "plain", by kernel_rfl, fun _ _ _ => (.str _)⟩
    · exact ⟨.int 4, by kernel_rfl, fun _ _ _ => (.int _)⟩
  gd := fun x l h => by
    have h : lookK x eds = some l := h
    rw [lookK_eq] at h
    have hm := mem_pair h
    simp only [eds, List.mem_cons, List.not_mem_nil, or_false, Prod.mk.injEq] at hm
    rcases hm with ⟨rfl, rfl⟩
    · exact ⟨dc_FORMS, by kernel_rfl, (.cons ⟨rfl, fun _ _ _ => (.str _)⟩ (.cons ⟨rfl, fun _ _ _ => (.str _)⟩ (.cons ⟨rfl, fun _ _ _ => (.str _)⟩ (.cons ⟨rfl, fun _ _ _ => (.str _)⟩ (.cons ⟨rfl, fun _ _ _ => (.str _)⟩ (.cons ⟨rfl, fun _ _ _ => (.str _)⟩ (.cons ⟨rfl, fun _ _ _ => (.str _)⟩ (.cons ⟨rfl, fun _ _ _ => (.str _)⟩ (.cons ⟨rfl, fun _ _ _ => (.str _)⟩ (.cons ⟨rfl, fun _ _ _ => (.str _)⟩ (.cons ⟨rfl, fun _ _ _ => (.str _)⟩ (.cons ⟨rfl, fun _ _ _ => (.str _)⟩ (.cons ⟨rfl, fun _ _ _ => (.str _)⟩ (.cons ⟨rfl, fun _ _ _ => (.str _)⟩ (.cons ⟨rfl, fun _ _ _ => (.str _)⟩ (.cons ⟨rfl, fun _ _ _ => (.str _)⟩ (.cons ⟨rfl, fun _ _ _ => (.str _)⟩ (.cons ⟨rfl, fun _ _ _ => (.str _)⟩ (.cons ⟨rfl, fun _ _ _ => (.str _)⟩ (.cons ⟨rfl, fun _ _ _ => (.str _)⟩ (.cons ⟨rfl, fun _ _ _ => (.str _)⟩ .nil)))))))))))))))))))))⟩
  fl := fun cc f C h1 h2 => ⟨cc, nm_cl h2, fl_ok h1⟩
  xc := fun _ _ h => by cases h
  isa := fun _ _ _ _ h => by cases h
  iso := fun cc d b C h1 h2 => by
    have h1 : (if (ons.contains cc && ons.contains d) = true then some (eqK cc d) else none) = some b := h1
    split at h1
    · rename_i hc
      cases h1
      rw [Bool.and_eq_true] at hc
      rw [nm_cl h2]
      have z := List.all_eq_true.mp (He.ba (says_more c)).1 cc (by simpa using hc.1)
      exact of_decide_eq_true (List.all_eq_true.mp z d (by simpa using hc.2))
    · cases h1
  isb := fun cc h => by
    have h : ocs.contains cc = true := h
    exact List.all_eq_true.mp (He.ba (He.ba (says_more c)).2).1 cc (by simpa using h)
  xf := fun _ _ _ h => by cases h
  mt := fun cc m g C h1 h2 => by
    rw [nm_cl h2]
    exact mt_ok (He.ba (He.ba (says_more c)).2).2 h1
  mkc := fun cc n ks g pm h => by
    have hm := mk_ok h
    simp only [emk, List.mem_cons, List.not_mem_nil, or_false, Prod.mk.injEq] at hm
    rcases hm with ⟨rfl, rfl, rfl, rfl, rfl⟩ | ⟨rfl, rfl, rfl, rfl, rfl⟩ | ⟨rfl, rfl, rfl, rfl, rfl⟩ | ⟨rfl, rfl, rfl, rfl, rfl⟩ | ⟨rfl, rfl, rfl, rfl, rfl⟩ | ⟨rfl, rfl, rfl, rfl, rfl⟩
    · exact ⟨He.ga K "Weave", [.inl 0, .inr (.non), .inl 1], nm_at (by decide), by kernel_rfl, (.cons rfl (.cons (fun _ _ _ => .non) (.cons rfl .nil)))⟩
    · exact ⟨He.ga K "Shape", [.inl 0, .inr (.int 2)], nm_at (by decide), by kernel_rfl, (.cons rfl (.cons (fun _ _ _ => (.int _)) .nil))⟩
    · exact ⟨He.ga K "Core", [.inl 0, .inl 1], nm_at (by decide), by kernel_rfl, (.cons rfl (.cons rfl .nil))⟩
    · exact ⟨He.ga K "NodeSeat", [], nm_at (by decide), by kernel_rfl, .nil⟩
    · exact ⟨He.ga K "ReaderSeat", [], nm_at (by decide), by kernel_rfl, .nil⟩
    · exact ⟨He.ga K "LaneSeat", [], nm_at (by decide), by kernel_rfl, .nil⟩
end
set_option Elab.async false
set_option linter.all false
set_option maxRecDepth 100000
set_option maxHeartbeats 4000000
/-! K46d: the law's body, put together. -/
open PySem QL
open L2 hiding wE wT
/-! parts of the law -/
def s1 : Sx := match b_law with
  | .cons s _ => s
  | _ => .pass
def s2 : Sx := match b_law with
  | .cons _ (.cons s _) => s
  | _ => .pass
def s4 : Sx := match b_law with
  | .cons _ (.cons _ (.cons _ (.cons s _))) => s
  | _ => .pass
def s5 : Sx := match b_law with
  | .cons _ (.cons _ (.cons _ (.cons _ (.cons s _)))) => s
  | _ => .pass
def srO : Sr := match b_law with
  | .cons _ (.cons _ (.cons (.forS _ s _) _)) => s
  | _ => .val .nev
def sr1 : Sr := match bdy with
  | .cons (.forS _ s _) _ => s
  | _ => .val .nev
def sr2 : Sr := match bdy with
  | .cons _ (.cons (.forS _ s _) _) => s
  | _ => .val .nev
def rf : Sxs := .cons (.ret (.lit (.bl false))) .nil
def adE : Ex := .op .Add (.var 0) (.lst (.cons (.lit (.int 0)) .nil))
def rls : List Str := ["look", "list", "held", "late", "idle", "whole", "wait", "order", "asked"]
theorem no0_ok {r : R Bool} (h : no0 r = true) : ∃ h', r = .ok false h' := by
  unfold no0 at h
  split at h
  · rename_i b h'
    cases b with
    | false => exact ⟨h', rfl⟩
    | true => cases h
  · cases h
theorem no1_ok {xs : List EV} {r : R Bool} (h : no1 xs r = true) : ∃ h', r = .ok false h' ∧ h'[0]? = some (.lst xs) := by
  unfold no1 at h
  split at h
  · rename_i b h'
    rw [Bool.and_eq_true] at h
    obtain ⟨h1, h2⟩ := h
    cases b with
    | true => cases h1
    | false =>
      refine ⟨h', rfl, ?_⟩
      split at h2
      · rename_i e
        rw [← beqEs_eq h2]
        exact e
      · cases h2
  · cases h
/-- one test of a rule and what is left out: nothing is changed -/
def bodyB (g : Str → List EV → Bool) (σ : ESt) (h : EH) : RS := match σ with
  | [_, _, _, some (.str r), _, some (.tup xs), _, _] => chkS (g r xs) fun _ => .nx σ h
  | [_, _, _, some (.str r), _, some (.ref a), _, _] => (match h[a]? with
    | some (.lst xs) => chkS (g r xs) fun _ => .nx σ h
    | _ => .bad)
  | _ => .bad
section
variable {N : Nm} {S : Stat} (O : EsOk N S es) {W : WX}
include O
theorem bdB {g : Str → List EV → Bool} {c : Te} (hf : ∀ r xs, g r xs = true → xs.all flatE = true) (h0 : ∀ r xs, g r xs = true → q0 c r xs = true) (h1 : ∀ r xs, g r xs = true → q1 c r xs = true) {a : Sxs} :
    ∀ (σ : ESt) (τ : L2.St) (k : Kc) (h : EH) (D : Ends), Sim N k h → Rst N k σ τ → PoS N k (bodyB g σ h) D W → wSs S (sem S T 20) W (.cons (.ifs c a .nil) .nil) D τ k.H := by
  intro σ τ k h D s rs p
  unfold bodyB at p
  split at p
  · rename_i s0 s1 s2 r s4 xs s6 s7
    obtain ⟨c1, p⟩ := p.chk
    obtain ⟨h', e⟩ := no0_ok (h0 _ _ c1)
    have rs2 : Rst N k.cut0 (sg r (.tup xs)) τ := by
      cases rs with | cons b0 rs => cases rs with | cons b1 rs => cases rs with | cons b2 rs => cases rs with | cons b3 rs => cases rs with | cons b4 rs => cases rs with | cons b5 rs => cases rs with | cons b6 rs => cases rs with | cons b7 rs =>
      cases rs
      refine .cons trivial (.cons trivial (.cons trivial (.cons ?_ (.cons trivial (.cons ?_ (.cons trivial (.cons trivial .nil)))))))
      · rename_i y3 _ _ _ _
        cases y3 with
        | none => exact b3.elim
        | some v => exact Rl.flat rfl b3
      · rename_i y5 _ _
        cases y5 with
        | none => exact b5.elim
        | some v =>
          have b5 : Rl N k (.tup xs) v := b5
          cases b5 with
          | tup q1 q2 => exact .tup q1 (q2.flats (hf _ _ c1))
    unfold wSs wS
    refine evT_ok (k := k.cut0) O (evF_ok O T 20) c s.cut0 rs2 ?_
    rw [e]
    intro k' w' l s' z
    have z : false = w' := z
    subst z
    rw [if_neg (by decide)]
    unfold wSs wSs
    obtain ⟨lb, sb⟩ := back0 s l
    exact p (k.back k') τ lb sb (rs.mono lb s)
  · rename_i s0 s1 s2 r s4 a s6 s7
    split at p
    · rename_i xs ha
      obtain ⟨c1, p⟩ := p.chk
      obtain ⟨h', e, e0⟩ := no1_ok (h1 _ _ c1)
      have rs2 : Rst N (k.cut1 a) (sg r (.ref 0)) τ := by
        cases rs with | cons b0 rs => cases rs with | cons b1 rs => cases rs with | cons b2 rs => cases rs with | cons b3 rs => cases rs with | cons b4 rs => cases rs with | cons b5 rs => cases rs with | cons b6 rs => cases rs with | cons b7 rs =>
        cases rs
        refine .cons trivial (.cons trivial (.cons trivial (.cons ?_ (.cons trivial (.cons ?_ (.cons trivial (.cons trivial .nil)))))))
        · rename_i y3 _ _ _ _
          cases y3 with
          | none => exact b3.elim
          | some v => exact Rl.flat rfl b3
        · rename_i y5 _ _
          cases y5 with
          | none => exact b5.elim
          | some v =>
            have b5 : Rl N k (.ref a) v := b5
            cases b5 with
            | ref q1 => exact Rl.ref (k := k.cut1 a) (a := 0) (Nat.lt_succ_self 0)
      unfold wSs wS
      refine evT_ok (k := k.cut1 a) O (evF_ok O T 20) c (s.cut1 ha (hf _ _ c1)) rs2 ?_
      rw [e]
      intro k' w' l s' z
      have z : false = w' := z
      subst z
      rw [if_neg (by decide)]
      unfold wSs wSs
      obtain ⟨lb, sb⟩ := back1 s ha (hf _ _ c1) l s' e0
      exact p (k.back k') τ lb sb (rs.mono lb s)
    · exact p.elim
  · exact p.elim
def g1 (r : Str) (xs : List EV) : Bool := rls.contains r && beqEs xs []
def g2 (r : Str) (xs : List EV) : Bool := rls.contains r && beqEs xs [.str r]
omit O in
theorem q_all : ∀ r ∈ rls, q0 c1 r [] = true ∧ q1 c1 r [] = true ∧ q0 c2 r [.str r] = true ∧ q1 c2 r [.str r] = true := by
  intro r h
  simp only [rls, List.mem_cons, List.not_mem_nil, or_false] at h
  rcases h with rfl | rfl | rfl | rfl | rfl | rfl | rfl | rfl | rfl
  · exact ⟨w1_look, w2_look, w3_look, w4_look⟩
  · exact ⟨w1_list, w2_list, w3_list, w4_list⟩
  · exact ⟨w1_held, w2_held, w3_held, w4_held⟩
  · exact ⟨w1_late, w2_late, w3_late, w4_late⟩
  · exact ⟨w1_idle, w2_idle, w3_idle, w4_idle⟩
  · exact ⟨w1_whole, w2_whole, w3_whole, w4_whole⟩
  · exact ⟨w1_wait, w2_wait, w3_wait, w4_wait⟩
  · exact ⟨w1_order, w2_order, w3_order, w4_order⟩
  · exact ⟨w1_asked, w2_asked, w3_asked, w4_asked⟩
omit O in
theorem g1_ok {r : Str} {xs : List EV} (h : g1 r xs = true) : r ∈ rls ∧ xs = [] := by
  unfold g1 at h
  rw [Bool.and_eq_true] at h
  exact ⟨by simpa using h.1, beqEs_eq h.2⟩
omit O in
theorem g2_ok {r : Str} {xs : List EV} (h : g2 r xs = true) : r ∈ rls ∧ xs = [.str r] := by
  unfold g2 at h
  rw [Bool.and_eq_true] at h
  exact ⟨by simpa using h.1, beqEs_eq h.2⟩
theorem bd1 {a : Sxs} : ∀ (σ : ESt) (τ : L2.St) (k : Kc) (h : EH) (D : Ends), Sim N k h → Rst N k σ τ → PoS N k (bodyB g1 σ h) D W → wSs S (sem S T 20) W (.cons (.ifs c1 a .nil) .nil) D τ k.H :=
  bdB O (fun r xs h => by rw [(g1_ok h).2]; rfl) (fun r xs h => by rw [(g1_ok h).2]; exact (q_all r (g1_ok h).1).1) (fun r xs h => by rw [(g1_ok h).2]; exact (q_all r (g1_ok h).1).2.1)
theorem bd2 {a : Sxs} : ∀ (σ : ESt) (τ : L2.St) (k : Kc) (h : EH) (D : Ends), Sim N k h → Rst N k σ τ → PoS N k (bodyB g2 σ h) D W → wSs S (sem S T 20) W (.cons (.ifs c2 a .nil) .nil) D τ k.H :=
  bdB O (fun r xs h => by rw [(g2_ok h).2]; rfl) (fun r xs h => by rw [(g2_ok h).2]; exact (q_all r (g2_ok h).1).2.2.1) (fun r xs h => by rw [(g2_ok h).2]; exact (q_all r (g2_ok h).1).2.2.2)
/-- a for over a source, its body led over by any run -/
theorem forA {F : Str → List EV → EH → R EV} {G : Sm} (hF : FOk N F G) {t : Tg} {sr : Sr} {b : Sxs} {body : ESt → EH → RS} {σ : ESt} {τ : L2.St} {k : Kc} {h : EH} {D : Ends} (Bd : ∀ (σ : ESt) (τ : L2.St) (k : Kc) (h : EH) (D : Ends), Sim N k h → Rst N k σ τ → PoS N k (body σ h) D W → wSs S G W b D τ k.H)
    (s : Sim N k h) (rs : Rst N k σ τ) (p : PoS N k ((evI es F sr σ h).st σ fun q h1 => loE q.2 t body q.1 σ h1) D W) : wS S G W (.forS t sr b) D τ k.H := by
  unfold wS
  refine evI_ok O hF sr s rs (PoS.st p s rs fun q h1 k1 w _ l1 s1 r1 p1 => ?_)
  rw [O.so, ← r1.1]
  exact loE_ok O (kb := k1) Bd r1.2 q.1 0 rfl LeR.refl s1 (rs.mono l1 s) p1
omit O in
theorem bdy_eq : bdy = .cons (.forS (.nm 5) sr1 (.cons (.ifs c1 rf .nil) .nil)) (.cons (.forS (.nm 5) sr2 (.cons (.ifs c2 rf .nil) .nil)) .nil) := rfl
/-- all that is done for one rule -/
def bodyA (σ : ESt) (h : EH) : RS := ((evI es F0 sr1 σ h).st σ fun q h1 => loE q.2 (.nm 5) (bodyB g1) q.1 σ h1).bind fun σ' h' => (evI es F0 sr2 σ' h').st σ' fun q h1 => loE q.2 (.nm 5) (bodyB g2) q.1 σ' h1
theorem bdA : ∀ (σ : ESt) (τ : L2.St) (k : Kc) (h : EH) (D : Ends), Sim N k h → Rst N k σ τ → PoS N k (bodyA σ h) D W → wSs S (sem S T 20) W bdy D τ k.H := by
  intro σ τ k h D s rs p
  rw [bdy_eq]
  unfold bodyA at p
  unfold wSs
  refine forA O (evF_ok O T 20) (bd1 O) s rs (PoS.bind p rfl fun σ1 h1 k1 τ1 l1 s1 rs1 p1 => ?_)
  unfold wSs
  exact forA O (evF_ok O T 20) (bd2 O) s1 rs1 p1
/-! ### the law -/
omit O in
theorem law_eq : b_law = .cons s1 (.cons s2 (.cons (.forS (.nm 3) srO bdy) (.cons s4 (.cons s5 (.cons (.ret last) .nil))))) := rfl
def nsE : EO := .lst (rls.map .str)
def st0 : ESt := [some (.ref 0), none, none, none, none, none, none, none]
def st1 : ESt := [some (.ref 0), some (.ref 1), none, none, none, none, none, none]
def st2 (m : Int) : ESt := [some (.ref 0), some (.ref 1), some (.int m), none, none, none, none, none]
def hp2 (xs : List EV) : EH := [.fls xs, nsE, .lst [.int 0], .lst (xs ++ [.int 0])]
omit O in
theorem e1 (xs : List EV) : evS es F0 s1 st0 [.fls xs] = .nx st1 [.fls xs, nsE] := by kernel_rfl
omit O in
theorem e2a (xs : List EV) (hl : xs.length ≤ 63) : evE es F0 adE st1 [.fls xs, nsE] = .ok (.ref 3) (hp2 xs) := by
  have hd : decide (xs.length + [EV.int 0].length ≤ sizeLine) = true := decide_eq_true (Nat.le_trans (Nat.add_le_add_right hl 1) (by decide))
  show chk (decide (xs.length + [EV.int 0].length ≤ sizeLine)) (fun _ => newE (.lst (xs ++ [.int 0])) [.fls xs, nsE, .lst [.int 0]]) = _
  rw [hd]
  rfl
omit O in
theorem e2 (ns : List Int) (hl : ns.length ≤ 63) : ∃ m : Int, 0 ≤ m ∧ m < 9 ∧ evS es F0 s2 st1 [.fls (ns.map .int), nsE] = .nx (st2 m) (hp2 (ns.map .int)) := by
  have a := e2a (ns.map .int) (by rw [List.length_map]; exact hl)
  cases ns with
  | nil => exact ⟨0, by decide, by decide, by kernel_rfl⟩
  | cons n r =>
    refine ⟨(if n < 0 then -n else n) % 9, Int.emod_nonneg _ (by decide), Int.emod_lt_of_pos _ (by decide), ?_⟩
    have b1 : evE es F0 (.idx adE (.lit (.int 0))) st1 [.fls ((n :: r).map .int), nsE] = .ok (.int n) (hp2 ((n :: r).map .int)) := by
      show (evE es F0 adE st1 _).bind (fun x h1 => (evE es F0 (.lit (.int 0)) st1 h1).bind fun y h2 => idxE x y h2) = _
      rw [a]
      show R.opt (atI (EV.int n :: (r.map EV.int ++ [.int 0])) 0) (hp2 ((n :: r).map .int)) = _
      have z : atI (EV.int n :: (r.map EV.int ++ [.int 0])) 0 = some (.int n) := by
        unfold atI
        have q : ixN (EV.int n :: (r.map EV.int ++ [.int 0])).length 0 = some 0 := by
          unfold ixN
          simp
          omega
        rw [q]
        rfl
      rw [z]
      rfl
    have b2 : evA es F0 (.cons (.idx adE (.lit (.int 0))) .nil) st1 [.fls ((n :: r).map .int), nsE] = .ok [.int n] (hp2 ((n :: r).map .int)) := by
      show (evE es F0 _ st1 _).bind (fun x h1 => (evA es F0 .nil st1 h1).bind fun xs h2 => .ok (x :: xs) h2) = _
      rw [b1]
      rfl
    have b3 : evE es F0 (.bi .abs (.cons (.idx adE (.lit (.int 0))) .nil)) st1 [.fls ((n :: r).map .int), nsE] = .ok (.int (if n < 0 then -n else n)) (hp2 ((n :: r).map .int)) := by
      show (evA es F0 _ st1 _).bind (fun vs h1 => biE .abs vs h1) = _
      rw [b2]
      rfl
    have b4 : evE es F0 (.op .Mod (.bi .abs (.cons (.idx adE (.lit (.int 0))) .nil)) (.lit (.int 9))) st1 [.fls ((n :: r).map .int), nsE] = .ok (.int ((if n < 0 then -n else n) % 9)) (hp2 ((n :: r).map .int)) := by
      show (evE es F0 _ st1 _).bind (fun x h1 => (evE es F0 (.lit (.int 9)) st1 h1).bind fun y h2 => opE .Mod x y h2) = _
      rw [b3]
      rfl
    show (evE es F0 (.op .Mod (.bi .abs (.cons (.idx adE (.lit (.int 0))) .nil)) (.lit (.int 9))) st1 [.fls ((n :: r).map .int), nsE]).st st1 (fun x h1 => .nx (st1.set 2 (some x)) h1) = _
    rw [b4]
    rfl
def runZ (m : Int) (xs : List EV) : RS := (((evI es F0 srO (st2 m) (hp2 xs)).st (st2 m) fun q h1 => loE q.2 (.nm 3) bodyA q.1 (st2 m) h1).bind fun σ h => evS es F0 s4 σ h).bind fun σ h => evS es F0 s5 σ h
def finZ (r : RS) : Bool := match r with
  | .nx [_, _, _, _, _, _, some (.str a), some (.str b)] _ => (eqK a "held" && eqK b "asked") || ((eqK a "whole" && eqK b "look") || (eqK a "order" && eqK b "list"))
  | _ => false
omit O in
theorem r0 (xs : List EV) : finZ (runZ 0 xs) = true := by kernel_rfl
omit O in
theorem r1 (xs : List EV) : finZ (runZ 1 xs) = true := by kernel_rfl
omit O in
theorem r2 (xs : List EV) : finZ (runZ 2 xs) = true := by kernel_rfl
omit O in
theorem r3 (xs : List EV) : finZ (runZ 3 xs) = true := by kernel_rfl
omit O in
theorem r4 (xs : List EV) : finZ (runZ 4 xs) = true := by kernel_rfl
omit O in
theorem r5 (xs : List EV) : finZ (runZ 5 xs) = true := by kernel_rfl
omit O in
theorem r6 (xs : List EV) : finZ (runZ 6 xs) = true := by kernel_rfl
omit O in
theorem r7 (xs : List EV) : finZ (runZ 7 xs) = true := by kernel_rfl
omit O in
theorem r8 (xs : List EV) : finZ (runZ 8 xs) = true := by kernel_rfl
omit O in
theorem r_all (m : Int) (xs : List EV) (h0 : 0 ≤ m) (h9 : m < 9) : finZ (runZ m xs) = true := by
  have : m = 0 ∨ m = 1 ∨ m = 2 ∨ m = 3 ∨ m = 4 ∨ m = 5 ∨ m = 6 ∨ m = 7 ∨ m = 8 := by omega
  rcases this with rfl | rfl | rfl | rfl | rfl | rfl | rfl | rfl | rfl
  · exact r0 xs
  · exact r1 xs
  · exact r2 xs
  · exact r3 xs
  · exact r4 xs
  · exact r5 xs
  · exact r6 xs
  · exact r7 xs
  · exact r8 xs
omit O in
theorem z_all {a b : Str} (h : ((eqK a "held" && eqK b "asked") || ((eqK a "whole" && eqK b "look") || (eqK a "order" && eqK b "list"))) = true) : ∃ h', evE es F0 last (sz a b) [] = .ok (.bl true) h' := by
  have key : ∀ {r : R EV}, yes0 r = true → ∃ h', r = .ok (.bl true) h' := by
    intro r q
    unfold yes0 at q
    split at q
    · rename_i h'
      exact ⟨h', by rw [q]⟩
    · cases q
  rw [Bool.or_eq_true, Bool.or_eq_true, Bool.and_eq_true, Bool.and_eq_true, Bool.and_eq_true] at h
  rcases h with ⟨h1, h2⟩ | ⟨h1, h2⟩ | ⟨h1, h2⟩
  · rw [eqK_eq h1, eqK_eq h2]; exact key z_held
  · rw [eqK_eq h1, eqK_eq h2]; exact key z_whole
  · rw [eqK_eq h1, eqK_eq h2]; exact key z_order
theorem w_body {ns : List Int} (hl : ns.length ≤ 63) {τ : L2.St} {k : Kc} {D : Ends} (s : Sim N k [.fls (ns.map .int)]) (rs : Rst N k st0 τ) (hD : ∀ H, D.rt (.bl true) H) : wSs S (sem S T 20) W b_law D τ k.H := by
  have hF := evF_ok O T 20
  obtain ⟨m, m0, m9, E2⟩ := e2 ns hl
  have Z := r_all m (ns.map .int) m0 m9
  rw [law_eq]
  unfold wSs
  refine evS_ok O hF s1 s rs ?_
  rw [e1]
  intro k1 τ1 l1 sm1 rs1
  show wSs S (sem S T 20) W (.cons s2 (.cons (.forS (.nm 3) srO bdy) (.cons s4 (.cons s5 (.cons (.ret last) .nil))))) D τ1 k1.H
  unfold wSs
  refine evS_ok O hF s2 sm1 rs1 ?_
  rw [E2]
  intro k2 τ2 l2 sm2 rs2
  show wSs S (sem S T 20) W (.cons (.forS (.nm 3) srO bdy) (.cons s4 (.cons s5 (.cons (.ret last) .nil)))) D τ2 k2.H
  have main : ∀ r : RS, finZ r = true → PoS N k2 r { D with nx := fun τ H => wSs S (sem S T 20) W (.cons (.ret last) .nil) D τ H } W := by
    intro r hr
    unfold finZ at hr
    split at hr
    · rename_i y0 y1 y2 y3 y4 y5 a b h5
      obtain ⟨h', e⟩ := z_all hr
      intro k5 τ5 l5 sm5 rs5
      have rs6 : Rst N k5.cut0 (sz a b) τ5 := by
        cases rs5 with | cons b0 rs => cases rs with | cons b1 rs => cases rs with | cons b2 rs => cases rs with | cons b3 rs => cases rs with | cons b4 rs => cases rs with | cons b5 rs => cases rs with | cons b6 rs => cases rs with | cons b7 rs =>
        cases rs
        refine .cons trivial (.cons trivial (.cons trivial (.cons trivial (.cons trivial (.cons trivial (.cons ?_ (.cons ?_ .nil)))))))
        · rename_i y6 _
          cases y6 with
          | none => exact b6.elim
          | some v => exact Rl.flat rfl b6
        · rename_i y7
          cases y7 with
          | none => exact b7.elim
          | some v => exact Rl.flat rfl b7
      show wSs S (sem S T 20) W (.cons (.ret last) .nil) D τ5 k5.H
      unfold wSs wS
      refine evE_ok (k := k5.cut0) O hF last sm5.cut0 rs6 ?_
      rw [e]
      intro k' w' l s' z
      have z : Rl N k' (.bl true) w' := z
      cases z
      exact hD _
    · cases hr
  have p := main _ Z
  unfold runZ at p
  unfold wSs
  refine forA O hF (bdA O) sm2 rs2 (PoS.bind (PoS.bind p (D' := { D with nx := fun τ H => wSs S (sem S T 20) W (.cons s5 (.cons (.ret last) .nil)) D τ H }) rfl fun σ4 h4 k4 τ4 l4 s4 r4 p4 => ?_) rfl fun σ3 h3 k3 τ3 l3 s3 r3 p3 => ?_)
  · show wSs S (sem S T 20) W (.cons s5 (.cons (.ret last) .nil)) D τ4 k4.H
    unfold wSs
    exact evS_ok O hF s5 s4 r4 p4
  · show wSs S (sem S T 20) W (.cons K46.s4 (.cons s5 (.cons (.ret last) .nil))) D τ3 k3.H
    unfold wSs
    exact evS_ok O hF K46.s4 s3 r3 p3
end
set_option Elab.async false
set_option linter.all false
set_option maxRecDepth 100000
set_option maxHeartbeats 4000000
open PySem QL
open L2 hiding wE wT
theorem fin {P : Program} {w : World} {K : PySem.W.Frag} {h : Heap} {mg : Str → Option Value} {fa : Addr} (KX : K.In h) (G : h.Ns mainGlobals mg) (hmg : mg ("law" : Str) = some (.ref fa)) (c : SaysQ (exs more) dfs tbs w K) :
      ∃ (K : PySem.W.Frag) (so0 : Addr → Option HO) (sp : (Addr → Option HO) → Sp) (fd : FuncData), K.In h ∧ SoOk K so0 ∧ (∀ (s : Shared) (u : Value), BindsTo s fd ⟨[u], []⟩ [("_law_script", u)]) ∧
        (∀ so, SoOk K so → SoLe so0 so → ∀ base : Heap, K.In base → base.Ns mainGlobals mg → FnG P w K mg base 43 fa fd ["_law_script"] (sp so)) ∧
        ∀ (a : Addr) (ns : List Int) (so : Addr → Option HO) (H : Hp), ns.length ≤ 63 → SoLe so0 so → rd so H a = some (.lst (ns.map V.int)) → (∀ b, b ≠ a → H b = none) → (∀ o, H a = some o → ∃ x u, o = .frz x u) → (H a ≠ none → so a = none) → sp so [.ref a] H (fun v _ => v = .bl true) fun _ _ _ => False := by
  obtain ⟨fd, F⟩ := c.def_ 79 rfl
  have F : FunD K "law" "law" (defArgs (topS 107)) (defBody (topS 107)) (defScope (topS 107)) [] [] _ fd := F
  have D : DefB K gl "law" "law" i_law (topS 107) (He.fAd K ("law", none)) fd ["_law_script"] := ⟨⟨_, _, F⟩, ⟨rfl, rfl, rfl, by decide +kernel, rfl, by decide +kernel, by decide +kernel⟩, rfl, c_law⟩
  have e := hmg.symm.trans (He.glo_ok KX G (fact c 0 (f := .glo "law") rfl))
  cases e
  refine ⟨K, so0 K, fun so => (sem (St0 K so) T 21).fn "law", fd, KX, so0_ok c, ?_, fun so hso _ base _ _ => (tops KX G c so hso).fng 21 "law" "law" "law" i_law _ _ _ _ t_law D, fun a ns so H hl hle hs hz hf hn => ?_⟩
  · obtain ⟨oc, od, dV, kV, doc, pm, an, cdv, ct, osl, rfl, lk, hcd, hD, hK⟩ := F.ex
    rcases hD with ⟨_, rfl⟩ | ⟨e, _⟩
    · exact fun s v => .of_eq rfl
    · exact absurd rfl e
  · exact (u_law (n := 20) (w_body (esok c so hle) (k := ⟨1, fun _ => a, H⟩) hl (sim_script hs hz hf hn) (.cons (Rl.ref (k := ⟨1, fun _ => a, H⟩) (a := 0) (Nat.lt_succ_self 0)) (.cons trivial (.cons trivial (.cons trivial (.cons trivial (.cons trivial (.cons trivial (.cons trivial .nil)))))))) (fun _ => rfl)))
set_option Elab.async false
set_option linter.all false
set_option maxRecDepth 100000
open PySem PySem.Spec QL
abbrev R : PySem.W.OpenRow := PySem.W.OpenLaw.row PySem.Challenge.rw_quietlanes_k46_rules_left_out_by_hand
def loose0 : List PySem.Str := ["_wall", "is_within", "halves_up", "look_at_number", "due_of", "opened_number", "is_under_way", "open_leaf", "open_next", "seek_next", "close_next", "begin_one", "open_early", "keep_step", "entered_ahead", "ask_leaf", "rush_step", "enter_lane", "come_out", "break_off", "go_on", "do_of_reader", "move_calls", "look_at_leaf", "tell_leaf", "run_calls", "come_back", "do_of_lane", "drop_thing", "do_alone"]
def loose1 : List PySem.Str := ["do_now", "most_of", "is_number", "is_deed", "can_of_reader", "can_of_lane", "can_now", "lane_row", "reader_row", "node_row", "stand_of", "core_of", "is_count", "are_numbers", "is_rising", "is_list_of", "are_calls", "is_lane_row", "is_reader_row", "is_node_row", "has_form", "are_placed", "are_seated", "are_opened", "are_lanes_right", "is_lane_right", "is_old_unlisted", "are_old_kept", "is_held_right", "are_rushed"]
def loose2 : List PySem.Str := ["are_things_kept", "look_at_shape", "is_stand", "look_at_rules", "_law_rows", "_law_told", "_law_due", "_law_left_out", "AWAKE", "IDLE", "GONE", "PLAIN", "SWIFT", "MOST_LANES", "LEAST_FAN", "MOST_FAN", "READERS", "THINGS", "FORMS", "DEEPEST", "WORDS", "RULES", "NoShape", "NoNumber", "NoDeed", "NoStand", "NoLane", "NoNode", "NoReader", "NoRule"]
def loose3 : List PySem.Str := ["LaneSeat", "ReaderSeat", "NodeSeat", "Shape", "Core", "Weave"]
def loose : List PySem.Str := loose0 ++ loose1 ++ loose2 ++ loose3
abbrev hk : PySem.W.Hook := hookC (exs more) dfs tbs
def Kf (s : PySem.W.SharedT) : PySem.W.Frag := KG (HandSHeadRun.getT s)
def ob (s : PySem.W.SharedT) : AlQ := obsQ (exs more) dfs tbs (Kf s)
theorem ob_eq (s : PySem.W.SharedT) : ob s = hk.obs s.abs := obsC_eq (HandSHeadRun.getT_eq s)
def ex1 (K : PySem.W.Frag) : Bool := fas.all fun f => f.ok K
def ex2 (K : PySem.W.Frag) : Bool := (xks.all fun e => xkB K e.1 e.2.1 e.2.2) && ((dcs.all fun e => dctB K (He.ga K e.1) e.2) && ((tps.all fun e => tupB K (He.ga K e.1) e.2) && more K))
section
open PySem.W PySem.Calls PyProof.Rows HandSHeadRun
noncomputable abbrev Xr (w : World) (os : OsState) : Option SharedT := endF (stepQ (denQ tabQ) R.prog w) 60000 R.prog w os
abbrev wf (w : World) (b : Bool) : World := w.withFollow "special-get-raises" b
noncomputable abbrev P1 (w : World) : Prop := ∀ os : OsState, (Xr w os).map (fun s => (looksF R.prog (boot_heap w.params) s.abs, seenQ (PySem.W.view R.prog [107]) loose (importedModules R.prog.main.body) (fun s => xlAt (PySem.W.view R.prog [107]) [] s && recOk R.toRowW.records s) s.abs, ex1 (Kf s))) = some (true, openGood (PySem.W.view R.prog [107]) loose, true)
noncomputable abbrev P2 (w : World) : Prop := ∀ os : OsState, (Xr w os).map (fun s => (ex2 (Kf s), tbs.map (fun t => He.dicW (Kf s) (t.1 (Kf s))), dfs.all (fun d => d.ok (Kf s)), dfs.map fun d => He.fnW (Kf s) d.at_)) = some (true, tbs.map (fun t => some (He.keysIn w.params t.2)), true, dfs.map He.DefD.val)
set_option maxHeartbeats 0 in
theorem p1f (w : World) : P1 (wf w false) := by
  intro os
  kernel_rfl
set_option maxHeartbeats 0 in
theorem p1t (w : World) : P1 (wf w true) := by
  intro os
  kernel_rfl
set_option maxHeartbeats 0 in
theorem p2f (w : World) : P2 (wf w false) := by
  intro os
  kernel_rfl
set_option maxHeartbeats 0 in
theorem p2t (w : World) : P2 (wf w true) := by
  intro os
  kernel_rfl
theorem join (w : World) (h1 : P1 w) (h2 : P2 w) : HandSHeadRun.RunEq R (PySem.W.view R.prog [107]) hk ob 60000 loose w := by
  intro os
  exact parts2 (f1 := ex1) (f2 := ex2) (fun K => rfl) (h1 os) (h2 os)
theorem run (w : World) : HandSHeadRun.RunEq R (PySem.W.view R.prog [107]) hk ob 60000 loose w := PySem.W.byRow2 "special-get-raises" (P := fun w => HandSHeadRun.RunEq R (PySem.W.view R.prog [107]) hk ob 60000 loose w) (fun w => join _ (p1f w) (p2f w)) (fun w => join _ (p1t w) (p2t w)) w
end
end K46
set_option linter.all false
open PySem PySem.W PySem.Calls PyProof.Rows in
set_option maxRecDepth 100000 in
set_option maxHeartbeats 0 in
theorem PySem.Challenge.cw_quietlanes_k46_rules_left_out_by_hand_holds : PySem.Challenge.rw_quietlanes_k46_rules_left_out_by_hand.Holds := by
  w_on; o_law
  refine HandSHeadRun.head_any (r := OpenLaw.row PySem.Challenge.rw_quietlanes_k46_rules_left_out_by_hand) (q := view (OpenLaw.row PySem.Challenge.rw_quietlanes_k46_rules_left_out_by_hand).prog [107]) (H := K46.hk) (ob := K46.ob) (M := 60000) (loose := K46.loose) (d := HandSHeadRun.topDef (OpenLaw.row PySem.Challenge.rw_quietlanes_k46_rules_left_out_by_hand).prog 107) (kwd := []) K46.ob_eq
    (by kernel_rfl) (fun s => by kernel_rfl) K46.run (by kernel_rfl) (by kernel_rfl) (by kernel_rfl) (by rfl) (by first | assumption | decide +kernel) (by decide +kernel) ⟨rfl, rfl, rfl, rfl, rfl, by decide +kernel⟩ ?hw ?hc
  case hw => w_witness2
  case hc =>
    refine QL.walk_h (l := PySem.Challenge.rw_quietlanes_k46_rules_left_out_by_hand) (n := 63) (k := 43) (x := "_law_script") rfl (by decide) (by kernel_rfl) ⟨rfl, by decide, by decide⟩ ?F
    intro w mg fa h Y G hmg0
    obtain ⟨K, KX, c⟩ := Y
    have hmg : mg ("law" : PySem.Str) = some (.ref fa) := by
      have e : (HandSHeadRun.topDef (OpenLaw.row PySem.Challenge.rw_quietlanes_k46_rules_left_out_by_hand).prog 107).name = ("law" : PySem.Str) := by kernel_rfl
      rw [← e]
      exact hmg0
    exact K46.fin KX G hmg c
