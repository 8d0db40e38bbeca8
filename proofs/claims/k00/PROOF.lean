import PyProof.Rows.All
import Wide.All
import OpenK.AllK
import Wide.FinOn
import PyProof.Draws
import PyProof.Walks
import KE.GoesMore
import KE.GoesZip
import HandS.Iter
import HandS.Zip
import HandS.HotCalls
import HandS.Comp
import HandS.Walk
import HandS.Exc
import KE.KExcIs
import HandS.ExcInit
import HandS.ExcIs
import HandS.ExcField
import HandS.ExcOwn
import HandS.ExcCtx
import HandS.Defaults
import HandS.ExcValue
import HandS.ForMost
import HandS.Wide
import HandS.TupAny
import HandS.IsInst
import HandS.Deep
import HandS.More
import HandS.Codes
import HandS.SortInts
import HandS.WideBits
import HandS.WordsDict
import HandS.SortKw
import KE.DataMinMax
import HandS.WordsExc
import KE.GoesEnum
import HandS.Dict
import HandS.Small
import HandS.Style
import HandS.TryMany
import HandS.Head0
import HandS.Head1
import HandS.Head2
import HandS.HeadEnd
import HandS.HeadHook1
import HandS.HeadHook2
import HandS.HeadWalk
import PySem.Challenge.RW_provenpicks_k00_errors_and_what_they_kee
set_option Elab.async false
set_option linter.all false
set_option maxRecDepth 100000
set_option maxHeartbeats 4000000
/-! Iterators that end while an exception is handled. -/
namespace Rf
open PySem PySem.Spec PyProof.Rows L2 L2H HotX
section
variable {prog : Program} {w : World} {A : Around} {E : Value → Shared → Prop} {s : Shared} {z1 : Addr}
theorem hot_up {h h' : Heap} (t : HotAt A z1 h) (k : ∀ b o, b = z1 → h.get? b = some o → h'.get? b = some o) : HotAt A z1 h' := by
  obtain ⟨t1, o, us, t2, t3, t4⟩ := t
  exact ⟨t1, o, us, k _ _ rfl t2, t3, t4⟩
/-- StopIteration is made and let go -/
theorem stops_hot {α : Type} {Q : α → Shared → Prop} (t : HotAt A z1 s.heap)
    (q : ∀ g e, (∀ b u, s.heap.get? b = some u → g.get? b = some u) → (∃ u, g.get? e = some u ∧ u.cls = .type "StopIteration") → E (.ref e) { s with heap := g }) :
    wpAny (model prog w) A (newExc (.type "StopIteration") [] >>= fun e => (raiseNew e : Sem α)) Q E s := by
  obtain ⟨t1, o, us, t2, t3, t4⟩ := t
  refine wpAny_bind ?_
  simp only [newExc, newTuple]
  refine wpAny_bind (wpAny_newObj_type ?_ (by size_fits))
  refine wpAny_bind (m := firstArgMember _ _) (wpAny_of_eq (a := Value.none) (by first | (simp only [firstArgMember]; rfl) | rfl) ?_)
  refine wpAny_newObj_type ?_ (by size_fits)
  have up := Heap.get?_push_of_some { cls := .type "tuple", data := .seq ([] : List Value).toArray } t2
  refine raiseNew_hot (x1 := z1) ⟨t1, o, us, Heap.get?_push_of_some _ (Heap.get?_push_of_some _ t2), t3, t4⟩ (Nat.ne_of_lt (Heap.lt_size (Heap.get?_push_of_some _ t2))) (Heap.get?_push_size _ rfl) rfl
    (by first | (simp; done) | (simp; omega) | (simp only [Array.size_append]; simp; omega)) (q _ _ (fun b u e => ?_) ⟨_, Heap.get?_update_self _ (Heap.get?_push_size _ rfl) rfl, rfl⟩)
  rw [Heap.get?_update_other _ _ (Nat.ne_of_gt (Heap.lt_size (Heap.get?_push_of_some _ e)))]
  exact Heap.get?_push_of_some _ (Heap.get?_push_of_some _ e)
/-- a list's iterator at its end, drawn from -/
theorem nextOf_list_hot {j a : Addr} {i : Nat} {xs : Array Value} {Q : Value → Shared → Prop} (t : HotAt A z1 s.heap) (nj : z1 ≠ j) (g : s.heap.IsListIter j a i) (l : s.heap.IsList a xs) (n : xs[i]? = none)
    (q : ∀ h' e, Heap.ExtBut j s.heap h' → (∃ o, h'.get? e = some o ∧ o.cls = .type "StopIteration") → E (.ref e) { s with heap := h' }) : wpAny (model prog w) A (Builtin.SmallTypes.nextOf (.ref j)) Q E s := by
  obtain ⟨u, g1, g2, g3⟩ := id g
  obtain ⟨ul, l1, _, _, l2⟩ := l
  unfold Builtin.SmallTypes.nextOf
  refine wpAny_bind (wpAny_callSpecial?_slot (name := Str.ofString "__next__") g.typeIs slot_listiter_next (wpAny_call_entry slot_listiter_next g.typeIs entry_listiter_next ?_ (args_listiter_next _)))
  show wpAny _ _ (field (.ref j) 0 >>= _) _ _ s
  refine wpAny_bind (wpAny_field g1 g3 (x := .ref a) rfl ?_)
  show wpAny _ _ (if (Value.ref a == Value.none) = true then _ else _) _ _ s
  rw [if_neg (show ¬ ((Value.ref a == Value.none) = true) from Bool.false_ne_true)]
  show wpAny _ _ (field (.ref j) 1 >>= _) _ _ s
  refine wpAny_bind (wpAny_field g1 g3 (x := .int i 0) rfl ?_)
  show wpAny _ _ (seqItems? (.ref a) >>= _) _ _ s
  refine wpAny_bind (wpAny_seqItems l1 l2 ?_)
  simp only [Int.toNat_natCast, n]
  refine wpAny_bind (wpAny_rule (wpAny_bind (wpAny_setField g1 g3 (by simp) ?_)))
  have sb := Heap.SameBut.update (h := s.heap) j (Obj.mapFields (·.setIfInBounds 0 .none))
  exact stops_hot (A := A.in1) (hot_up (A := A.in1) t fun b o e q => sb.extBut b o (by rw [e]; exact nj) q) fun h' e k x => q h' e (fun b o ne y => k b o (sb.extBut b o ne y)) x
/-- a tuple's -/
theorem nextOf_tup_hot {j a : Addr} {i : Nat} {xs : Array Value} {Q : Value → Shared → Prop} (t : HotAt A z1 s.heap) (nj : z1 ≠ j) (g : s.heap.IsTupleIter j a i) (l : s.heap.IsTuple a xs) (n : xs[i]? = none)
    (q : ∀ h' e, Heap.ExtBut j s.heap h' → (∃ o, h'.get? e = some o ∧ o.cls = .type "StopIteration") → E (.ref e) { s with heap := h' }) : wpAny (model prog w) A (Builtin.SmallTypes.nextOf (.ref j)) Q E s := by
  obtain ⟨u, g1, g2, g3⟩ := id g
  obtain ⟨ul, l1, _, _, l2⟩ := l
  unfold Builtin.SmallTypes.nextOf
  refine wpAny_bind (wpAny_callSpecial?_slot (name := Str.ofString "__next__") g.typeIs F.slot_tuple_iterator_next (wpAny_call_entry F.slot_tuple_iterator_next g.typeIs F.entry_tuple_iterator_next ?_ (F.args_tuple_iterator_next_1 _)))
  show wpAny _ _ (field (.ref j) 0 >>= _) _ _ s
  refine wpAny_bind (wpAny_field g1 g3 (x := .ref a) rfl ?_)
  show wpAny _ _ (if (Value.ref a == Value.none) = true then _ else _) _ _ s
  rw [if_neg (show ¬ ((Value.ref a == Value.none) = true) from Bool.false_ne_true)]
  show wpAny _ _ (field (.ref j) 1 >>= _) _ _ s
  refine wpAny_bind (wpAny_field g1 g3 (x := .int i 0) rfl ?_)
  show wpAny _ _ (seqItems? (.ref a) >>= _) _ _ s
  refine wpAny_bind (wpAny_seqItems l1 l2 ?_)
  simp only [Int.toNat_natCast, n]
  refine wpAny_bind (wpAny_rule (wpAny_bind (wpAny_setField g1 g3 (by simp) ?_)))
  have sb := Heap.SameBut.update (h := s.heap) j (Obj.mapFields (·.setIfInBounds 0 .none))
  exact stops_hot (A := A.in1) (hot_up (A := A.in1) t fun b o e q => sb.extBut b o (by rw [e]; exact nj) q) fun h' e k x => q h' e (fun b o ne y => k b o (sb.extBut b o ne y)) x
/-- a list's iterator at its end, asked -/
theorem next_list_hot {j a : Addr} {i : Nat} {xs : Array Value} {Q : Option Value → Shared → Prop} (t : HotAt A z1 s.heap) (nj : z1 ≠ j) (g : s.heap.IsListIter j a i) (l : s.heap.IsList a xs) (n : xs[i]? = none)
    (q : ∀ h', Heap.ExtBut j s.heap h' → Q none { s with heap := h' }) : wpAny (model prog w) A (pyNext (.ref j)) Q E s := by
  obtain ⟨u, g1, g2, g3⟩ := id g
  obtain ⟨ul, l1, _, _, l2⟩ := l
  unfold pyNext
  refine wpAny_bind (wpAny_attempt (wpAny_callSpecial?_slot (name := Str.ofString "__next__") g.typeIs slot_listiter_next (wpAny_call_entry slot_listiter_next g.typeIs entry_listiter_next ?_ (args_listiter_next _))))
  show wpAny _ _ (field (.ref j) 0 >>= _) _ _ s
  refine wpAny_bind (wpAny_field g1 g3 (x := .ref a) rfl ?_)
  show wpAny _ _ (if (Value.ref a == Value.none) = true then _ else _) _ _ s
  rw [if_neg (show ¬ ((Value.ref a == Value.none) = true) from Bool.false_ne_true)]
  show wpAny _ _ (field (.ref j) 1 >>= _) _ _ s
  refine wpAny_bind (wpAny_field g1 g3 (x := .int i 0) rfl ?_)
  show wpAny _ _ (seqItems? (.ref a) >>= _) _ _ s
  refine wpAny_bind (wpAny_seqItems l1 l2 ?_)
  simp only [Int.toNat_natCast, n]
  refine wpAny_bind (wpAny_rule (wpAny_bind (wpAny_setField g1 g3 (by simp) ?_)))
  have sb := Heap.SameBut.update (h := s.heap) j (Obj.mapFields (·.setIfInBounds 0 .none))
  refine stops_hot (A := A.in1) (hot_up (A := A.in1) t fun b o e q => sb.extBut b o (by rw [e]; exact nj) q) fun h' e k ⟨oe, x1, x2⟩ => ?_
  refine wpAny_bind (wpAny_isInstance (T := "StopIteration") (b := true) (s := { s with heap := h' }) ⟨oe, x1, x2⟩ isSubtype_stop (wpAny_pure (q h' fun b o ne y => k b o (sb.extBut b o ne y))))
/-- a dict's keys at their end -/
theorem next_key_hot {j d : Addr} {i n ep : Nat} {u : Obj} {es : Array DictEntry} {Q : Option Value → Shared → Prop} (t : HotAt A z1 s.heap) (nj : z1 ≠ j) (g : s.heap.IsKeyIter j d i n ep) (g0 : s.heap.get? d = some u) (gd : u.data = .dict es ep)
    (gz : es.size = n) (ge : n ≤ i) (q : ∀ h', Heap.ExtBut j s.heap h' → Q none { s with heap := h' }) : wpAny (model prog w) A (pyNext (.ref j)) Q E s := by
  obtain ⟨v, g1, g2, g3⟩ := id g
  unfold pyNext
  refine wpAny_bind (wpAny_attempt (wpAny_callSpecial?_slot (name := Str.ofString "__next__") g.typeIs F.slot_dict_keyiterator_next (wpAny_call_entry F.slot_dict_keyiterator_next g.typeIs F.entry_dict_keyiterator_next ?_ (F.args_dict_keyiterator_next_1 _))))
  refine wpAny_bind (wpAny_pure ?_)
  refine wpAny_bind ?_
  refine wpAny_bind ?_
  first | refine wpAny_bind (wpAny_typeNameOfWhole_keyiter g.typeIs (wpAny_pure ?_)) | refine wpAny_bind (wpAny_typeNameOf_keyiter g.typeIs (wpAny_pure ?_))
  refine wpAny_bind (wpAny_fieldsOf g1 g3 ?_)
  simp only [show Builtin.Dict_items.ownsTuple "dict_keyiterator" = false from by decide, Bool.false_eq_true, if_false]
  show wpAny _ _ (if (Value.ref d == Value.none) = true then _ else _) _ _ s
  rw [if_neg (show ¬ ((Value.ref d == Value.none) = true) from Bool.false_ne_true)]
  refine wpAny_bind (wpAny_pure (wpAny_bind (wpAny_dictEntries g0 gd ?_)))
  rw [if_neg (by rw [gz]; simp)]
  refine wpAny_bind (wpAny_pure (wpAny_bind (wpAny_dictEpoch g0 gd ?_)))
  rw [if_neg (by simp)]
  refine wpAny_pure ?_
  have ge2 : es.size ≤ i := gz ▸ ge
  simp only [show ¬ ((i : Int) < 0) from by omega, if_false, Int.toNat_natCast, Array.getElem?_eq_none ge2]
  refine wpAny_bind ?_
  first | refine wpAny_bind (wpAny_typeNameOfWhole_keyiter g.typeIs (wpAny_pure ?_)) | refine wpAny_bind (wpAny_typeNameOf_keyiter g.typeIs (wpAny_pure ?_))
  show wpAny _ _ (setField (.ref j) 0 .none >>= _) _ _ s
  refine wpAny_bind (wpAny_setField g1 g3 (by simp) ?_)
  have sb := Heap.SameBut.update (h := s.heap) j (Obj.mapFields (·.setIfInBounds 0 .none))
  refine stops_hot (A := A.in1) (hot_up (A := A.in1) t fun b o e q => sb.extBut b o (by rw [e]; exact nj) q) fun h' e k ⟨oe, x1, x2⟩ => ?_
  refine wpAny_bind (wpAny_isInstance (T := "StopIteration") (b := true) (s := { s with heap := h' }) ⟨oe, x1, x2⟩ isSubtype_stop (wpAny_pure (q h' fun b o ne y => k b o (sb.extBut b o ne y))))
end
theorem draws_lst_hot {prog : Program} {w : World} {A : Around} {z1 j a : Addr} (nj : z1 ≠ j) (na : a ≠ j) (xs : Array Value) :
    Draws prog w A j [j, a, z1] xs.size (fun i v => xs[i]? = some v) (fun i h => (h.IsListIter j a i ∧ h.IsList a xs) ∧ HotAt A z1 h) where
  live := fun _ _ st => let ⟨o, x, _⟩ := st.1.1; ⟨o, x⟩
  frame := fun _ _ _ st k => ⟨⟨st.1.1.at fun o e => k j (by simp) o e, st.1.2.at fun o e => k a (by simp) o e⟩, hot_up st.2 fun b o e => k b (by simp [e]) o⟩
  item := fun i s Q E hi st q => wpAny_nextOf_list_item st.1.1 st.1.2 (x := xs[i]) (by simp [hi]) fun h' y sb => q _ h' s.toks (by simp [hi]) ⟨⟨y, st.1.2.extBut sb.extBut na⟩, hot_up st.2 fun b o e => sb.extBut b o (by rw [e]; exact nj)⟩ sb
  done := fun s Q E st q => nextOf_list_hot st.2 nj st.1.1 st.1.2 (by simp) q
theorem draws_tup_hot {prog : Program} {w : World} {A : Around} {z1 j a : Addr} (nj : z1 ≠ j) (na : a ≠ j) (xs : Array Value) :
    Draws prog w A j [j, a, z1] xs.size (fun i v => xs[i]? = some v) (fun i h => (h.IsTupleIter j a i ∧ h.IsTuple a xs) ∧ HotAt A z1 h) where
  live := fun _ _ st => let ⟨o, x, _⟩ := st.1.1; ⟨o, x⟩
  frame := fun _ _ _ st k => ⟨⟨st.1.1.at fun o e => k j (by simp) o e, st.1.2.at fun o e => k a (by simp) o e⟩, hot_up st.2 fun b o e => k b (by simp [e]) o⟩
  item := fun i s Q E hi st q => wpAny_nextOf_tuple_item st.1.1 st.1.2 (x := xs[i]) (by simp [hi]) fun h' y sb => q _ h' s.toks (by simp [hi]) ⟨⟨y, st.1.2.at fun o e => sb.extBut a o na e⟩, hot_up st.2 fun b o e => sb.extBut b o (by rw [e]; exact nj)⟩ sb
  done := fun s Q E st q => nextOf_tup_hot st.2 nj st.1.1 st.1.2 (by simp) q
theorem walks_lst_hot {prog : Program} {w : World} {A : Around} {z1 j a : Addr} (nj : z1 ≠ j) (na : a ≠ j) (xs : Array Value) :
    Walks prog w A j [j, a, z1] [j] xs.size (fun i v => xs[i]? = some v) (fun i h => (h.IsListIter j a i ∧ h.IsList a xs) ∧ HotAt A z1 h) where
  sub := fun b hb => by simp at hb; simp [hb]
  frame := fun _ _ _ st k => ⟨⟨st.1.1.at fun o e => k j (by simp) o e, st.1.2.at fun o e => k a (by simp) o e⟩, hot_up st.2 fun b o e => k b (by simp [e]) o⟩
  item := fun i s Q E hi st q => wpAny_pyNext_list_item st.1.1 st.1.2 (x := xs[i]) (by simp [hi]) fun h' y sb => q _ h' s.toks (by simp [hi]) ⟨⟨y, st.1.2.extBut sb.extBut na⟩, hot_up st.2 fun b o e => sb.extBut b o (by rw [e]; exact nj)⟩ fun b o nb e => sb.extBut b o (fun z => nb (by simp [z])) e
  done := fun s Q E st q => next_list_hot st.2 nj st.1.1 st.1.2 (by simp) fun h' k => q h' s.toks fun b o nb e => k b o (fun z => nb (by simp [z])) e
  self := fun _ _ _ _ st q => wpAny_pyIter_listiter st.1.1 q
end Rf

/-! enumerate, zip and the keys of dicts, walked while an exception is handled. -/
namespace Rf
open PySem PySem.Spec PyProof.Rows L2 L2H HotX
section
variable {X : Cx} {pins : List (Addr × Obj)} {σ : L2.St} {H : Hp} {s : Shared} {fp : List Addr}
theorem pair_new (I : Inv X pins σ H s) (hf : ∀ b ∈ fp, FpOk X pins H b) {g : Heap} {tk : Nat} {u1 u2 : Value} {x y : V} (k : ∀ c o, c ∉ fp → s.heap.get? c = some o → g.get? c = some o)
    (T : g.get? s.heap.objs.size = some { cls := .type "tuple", data := .seq #[u1, u2] }) (r1 : RelV x u1) (r2 : RelV y u2) (lt : ∀ b ∈ fp, ∃ o, s.heap.get? b = some o) :
    Inv X pins σ (upd H s.heap.objs.size (.tup [x, y])) { s with heap := g, toks := tk } ∧ ∀ b ∈ fp, upd H s.heap.objs.size (.tup [x, y]) b = none := by
  refine ⟨I.turnedNew (ch := fp) k hf (Nat.le_refl _) ⟨by show 2 ≤ sizeLine; decide, [u1, u2], .cons r1 (.cons r2 .nil), _, T, rfl, _, rfl⟩, fun b hb => ?_⟩
  obtain ⟨o, e⟩ := lt b hb
  rw [upd_ne (Nat.ne_of_lt (Heap.lt_size e))]
  exact (hf b hb).1
theorem hot_ne (hc : HotC X) (I : Inv X pins σ H s) (hf : ∀ b ∈ fp, FpOk X pins H b) : ∃ z1, HotAt X.A z1 s.heap ∧ ∀ b ∈ fp, z1 ≠ b := by
  obtain ⟨p, ⟨h1, vs, h2, h3⟩, hp⟩ := hc
  exact ⟨p.1, ⟨h1, p.2, vs, (I.pin p (List.mem_append_left _ hp)).1, h2, h3⟩, fun b hb => (hf b hb).2.2.2.2.2 p (List.mem_append_left _ hp)⟩
end
/-- a kind of things that are walked item by item -/
structure Knd where
  sq : Hp → Addr → List V → Prop
  it : Heap → Addr → Addr → Nat → Prop
  seq : Heap → Addr → Array Value → Prop
structure KndOk (K : PySem.W.Frag) (κ : Knd) : Prop where
  items : ∀ {X : Cx} {pins : List (Addr × Obj)} {σ : L2.St} {H : Hp} {s : Shared} {a : Addr} {xs : List V}, X.K = K → Inv X pins σ H s → κ.sq H a xs → ∃ its : List Value, Vals xs its ∧ κ.seq s.heap a its.toArray
  dr : ∀ (prog : Program) (w : World) (A : Around) (z1 j a : Addr), z1 ≠ j → a ≠ j → ∀ xs : Array Value, Draws prog w A j [j, a, z1] xs.size (fun i v => xs[i]? = some v) (fun i h => (κ.it h j a i ∧ κ.seq h a xs) ∧ HotAt A z1 h)
  obj : ∀ {h : Heap} {j a : Addr} {i : Nat}, κ.it h j a i → ∃ o, h.get? j = some o ∧ ∀ v, o.data ≠ .cell v
  kp : ∀ {h h' : Heap} {j a : Addr} {i : Nat}, κ.it h j a i → (∀ o, h.get? j = some o → h'.get? j = some o) → κ.it h' j a i
def kLst (K : PySem.W.Frag) : Knd := ⟨SqL K, fun h j a i => h.IsListIter j a i, fun h a xs => h.IsList a xs⟩
def kTup (K : PySem.W.Frag) : Knd := ⟨SqT K, fun h j a i => h.IsTupleIter j a i, fun h a xs => h.IsTuple a xs⟩
theorem kLst_ok {K : PySem.W.Frag} : KndOk K (kLst K) where
  items := fun e I q => by subst e; obtain ⟨its, rv, p, _⟩ := I.list q; exact ⟨its, rv, p.isList⟩
  dr := fun _ _ _ _ _ _ nj na xs => draws_lst_hot nj na xs
  obj := fun ⟨o, e, _, d⟩ => ⟨o, e, fun v z => by rw [d] at z; cases z⟩
  kp := fun st k => st.at k
theorem kTup_ok {K : PySem.W.Frag} : KndOk K (kTup K) where
  items := fun e I q => by subst e; obtain ⟨its, rv, p, _⟩ := I.tuple q; exact ⟨its, rv, p⟩
  dr := fun _ _ _ _ _ _ nj na xs => draws_tup_hot nj na xs
  obj := fun ⟨o, e, _, d⟩ => ⟨o, e, fun v z => by rw [d] at z; cases z⟩
  kp := fun st k => st.at k
def ItzH (κ : Knd) (a b : Addr) (xs ys : List V) : It :=
  ⟨fun i H => κ.sq H a xs ∧ κ.sq H b ys ∧ i < min xs.length ys.length, fun i H v H' => ∃ T x y, v = .ref T ∧ H T = none ∧ H' = upd H T (.tup [x, y]) ∧ xs[i]? = some x ∧ ys[i]? = some y, fun i H => κ.sq H a xs ∧ κ.sq H b ys ∧ i = min xs.length ys.length⟩
theorem sep2 {z TI TO i1 i2 a b z1 : Addr} (D : ZipApart z TI TO i1 i2 a b) (n : ∀ c ∈ [z, TI, TO, i1, i2], z1 ≠ c) : ZipSep2 z TI TO i1 i2 [i1, a, z1] [i2, b, z1] := by
  have n1 := n z (by simp)
  have n2 := n TO (by simp)
  have n3 := n i1 (by simp)
  have n4 := n i2 (by simp)
  refine ⟨D.TIz, D.TOz, D.TITO, D.TIi1, by simp, ?_, ?_, D.TIi2, by simp, ?_, ?_, ?_, ?_⟩
  · simp [D.i1z.symm, D.l1z.symm, n1.symm]
  · simp [D.TOi1, D.l1TO.symm, n2.symm]
  · simp [D.i2z.symm, D.l2z.symm, n1.symm]
  · simp [D.TOi2, D.l2TO.symm, n2.symm]
  · simp [D.i12, D.l2i1.symm, n3.symm]
  · simp [D.i12.symm, D.l1i2.symm, n4.symm]
theorem turn_zipH {κ : Knd} {P : Program} {w : World} {K : PySem.W.Frag} (ko : KndOk K κ) {elts : List Expr} {kk : Nat} {tpos : Pos} {a b z TI TO i1 i2 : Addr} {xs ys : List V} (D : ZipApart z TI TO i1 i2 a b) :
    TurnH P w K (.Tuple elts kk tpos) (ItzH κ a b xs ys) [z, TI, TO, i1, i2] z (fun i h => IsZip h z TI TO .none ∧ IsPair h TI (.ref i1) (.ref i2) ∧ (∃ x y, IsPair h TO x y) ∧ κ.it h i1 a i ∧ κ.it h i2 b i) where
  mem := by simp
  obj := fun i h st c hc => by
    obtain ⟨t1, t2, ⟨x, y, t3⟩, t4, t5⟩ := st
    have hc' : c = z ∨ c = TI ∨ c = TO ∨ c = i1 ∨ c = i2 := by simpa using hc
    rcases hc' with rfl | rfl | rfl | rfl | rfl
    · exact ⟨_, t1, fun v q => nomatch q⟩
    · exact ⟨_, t2, fun v q => nomatch q⟩
    · exact ⟨_, t3, fun v q => nomatch q⟩
    · exact ko.obj t4
    · exact ko.obj t5
  keep := fun i h h' st k => by
    obtain ⟨t1, t2, ⟨x, y, t3⟩, t4, t5⟩ := st
    exact ⟨k z (by simp) _ t1, k TI (by simp) _ t2, ⟨x, y, k TO (by simp) _ t3⟩, ko.kp t4 (k i1 (by simp)), ko.kp t5 (k i2 (by simp))⟩
  item := by
    intro X hP hw hK hc i pins s σ H E I hf st hg
    subst hP hw hK
    obtain ⟨t1, t2, ⟨x0, y0, t3⟩, t4, t5⟩ := st
    obtain ⟨qx, qy, hi⟩ := hg
    obtain ⟨us, r1, p1⟩ := ko.items rfl I qx
    obtain ⟨vs, r2, p2⟩ := ko.items rfl I qy
    obtain ⟨z1, hot, nz⟩ := hot_ne hc I hf
    have l1 := r1.length
    have l2 := r2.length
    have D1 := ko.dr X.prog X.w X.A.in1 z1 i1 a (nz i1 (by simp)) D.l1i1 us.toArray
    have D2 := ko.dr X.prog X.w X.A.in1 z1 i2 b (nz i2 (by simp)) D.l2i2 vs.toArray
    refine wpAny_pyNext_zipD2_item (sep2 D nz) D1 D2 t1 t2 t3 ⟨⟨t4, p1⟩, hot⟩ ⟨⟨t5, p2⟩, hot⟩ (by simp; omega) (by simp; omega) fun u1 u2 g tk e1 e2 g1 g2 g3 g4 g5 g6 g7 => ?_
    refine ⟨_, rfl, wpAny_letOwnedTupleGo_zip (s := { s with heap := g, toks := tk }) g1 fun g' g1' sb => ?_⟩
    have hzl : z < s.heap.objs.size := Heap.lt_size t1
    obtain ⟨x, hx, rx⟩ : ∃ x, xs[i]? = some x ∧ RelV x u1 := by
      obtain ⟨x, hx⟩ : ∃ x, xs[i]? = some x := ⟨xs[i]'(by omega), List.getElem?_eq_getElem _⟩
      obtain ⟨u, hu, ru⟩ := r1.get hx
      have e1' : us[i]? = some u1 := by simpa using e1
      rw [hu] at e1'
      cases e1'
      exact ⟨x, hx, ru⟩
    obtain ⟨y, hy, ry⟩ : ∃ y, ys[i]? = some y ∧ RelV y u2 := by
      obtain ⟨y, hy⟩ : ∃ y, ys[i]? = some y := ⟨ys[i]'(by omega), List.getElem?_eq_getElem _⟩
      obtain ⟨u, hu, ru⟩ := r2.get hy
      have e2' : vs[i]? = some u2 := by simpa using e2
      rw [hu] at e2'
      cases e2'
      exact ⟨y, hy, ru⟩
    obtain ⟨I1, nf⟩ := pair_new (g := g') (tk := tk) (x := x) (y := y) I hf (fun c o hn e => (sb.2 c fun q => hn (by simp [q])).trans (g7 c o (fun q => hn (by simp [q])) (fun q => hn (by simp [q])) (fun q => hn (by simp [q])) (fun q => hn (by simp [q])) e))
      ((sb.2 _ (Nat.ne_of_gt hzl)).trans g5) rx ry fun c hcm => by
        have hc' : c = z ∨ c = TI ∨ c = TO ∨ c = i1 ∨ c = i2 := by simpa using hcm
        rcases hc' with rfl | rfl | rfl | rfl | rfl
        · exact ⟨_, t1⟩
        · exact ⟨_, t2⟩
        · exact ⟨_, t3⟩
        · obtain ⟨o, e, _⟩ := ko.obj t4; exact ⟨o, e⟩
        · obtain ⟨o, e, _⟩ := ko.obj t5; exact ⟨o, e⟩
    exact ⟨.ref s.heap.objs.size, _, I1, rfl, ⟨_, x, y, rfl, I.hok.fresh (Nat.le_refl _), rfl, hx, hy⟩, ⟨g1', (sb.2 _ D.TIz).trans (g7 _ _ D.TIz D.TITO D.TIi1 D.TIi2 t2), ⟨u1, u2, (sb.2 _ D.TOz).trans g2⟩, ko.kp g3.1.1 fun o e => (sb.2 _ D.i1z).trans e, ko.kp g4.1.1 fun o e => (sb.2 _ D.i2z).trans e⟩, nf⟩
  done := by
    intro X hP hw hK hc i pins s σ H E I hf st hg
    subst hP hw hK
    obtain ⟨t1, t2, ⟨x0, y0, t3⟩, t4, t5⟩ := st
    obtain ⟨qx, qy, hi⟩ := hg
    obtain ⟨us, r1, p1⟩ := ko.items rfl I qx
    obtain ⟨vs, r2, p2⟩ := ko.items rfl I qy
    obtain ⟨z1, hot, nz⟩ := hot_ne hc I hf
    have l1 := r1.length
    have l2 := r2.length
    have D1 := ko.dr X.prog X.w X.A.in1 z1 i1 a (nz i1 (by simp)) D.l1i1 us.toArray
    have D2 := ko.dr X.prog X.w X.A.in1 z1 i2 b (nz i2 (by simp)) D.l2i2 vs.toArray
    refine wpAny_pyNext_zipD2_end (sep2 D nz) D1 D2 t1 t2 t3 ⟨⟨t4, p1⟩, hot⟩ ⟨⟨t5, p2⟩, hot⟩ (by simp; omega) (by simp; omega) (by simp; omega) fun g tk k => ⟨rfl, ?_⟩
    exact I.turnedL (ch := [z, TI, TO, i1, i2]) (fun c o hn e => k c o (fun q => hn (by simp [q])) (fun q => hn (by simp [q])) (fun q => hn (by simp [q])) (fun q => hn (by simp [q])) e) hf
  self := fun A i s Q E st q => wpAny_pyIter_zip st.1 q
/-! ### enumerate(list) -/
def IteH (K : PySem.W.Frag) (a : Addr) (xs : List V) : It :=
  ⟨fun i H => SqL K H a xs ∧ i < xs.length, fun i H v H' => ∃ T x, v = .ref T ∧ H T = none ∧ H' = upd H T (.tup [.int (i : Nat), x]) ∧ xs[i]? = some x, fun i H => SqL K H a xs ∧ i = xs.length⟩
theorem turn_enuH {P : Program} {w : World} {K : PySem.W.Frag} {elts : List Expr} {kk : Nat} {tpos : Pos} {a e j : Addr} {xs : List V} (na : a ≠ j) (ne : e ≠ j) :
    TurnH P w K (.Tuple elts kk tpos) (IteH K a xs) [e, j] e (fun i h => (∃ old, IsEnum h e j ((i : Nat) : Int) old) ∧ h.IsListIter j a i) where
  mem := by simp
  obj := fun i h st c hc => by
    obtain ⟨⟨old, t1⟩, t2⟩ := st
    have hc' : c = e ∨ c = j := by simpa using hc
    rcases hc' with rfl | rfl
    · exact ⟨_, t1, fun v q => nomatch q⟩
    · exact kLst_ok.obj (K := K) (κ := kLst K) t2
  keep := fun i h h' st k => ⟨let ⟨old, t1⟩ := st.1; ⟨old, k e (by simp) _ t1⟩, st.2.at (k j (by simp))⟩
  item := by
    intro X hP hw hK hc i pins s σ H E I hf st hg
    subst hP hw hK
    obtain ⟨⟨old, t1⟩, t2⟩ := st
    obtain ⟨qx, hi⟩ := hg
    obtain ⟨its, rv, p, _⟩ := I.list qx
    obtain ⟨x, hx⟩ : ∃ x, xs[i]? = some x := ⟨xs[i], List.getElem?_eq_getElem hi⟩
    obtain ⟨u, hu, ru⟩ := rv.get hx
    have hel : e < s.heap.objs.size := Heap.lt_size t1
    refine wpAny_pyNext_enum_item t1 t2 p.isList (x := u) (by simpa using hu) ne fun g g1 g2 g3 g4 g5 => ?_
    refine ⟨_, rfl, wpAny_letOwnedTupleGo_enum (s := { s with heap := g, toks := s.toks + 1 }) g1 fun g' g1' sb => ?_⟩
    obtain ⟨I1, nf⟩ := pair_new (g := g') (tk := s.toks + 1) (x := .int (i : Nat)) (y := x) I hf (fun c o hn q => (sb.2 c fun z => hn (by simp [z])).trans (g5 c o (fun z => hn (by simp [z])) (fun z => hn (by simp [z])) q))
      ((sb.2 _ (Nat.ne_of_gt hel)).trans g3) ⟨_, rfl⟩ ru fun c hcm => by
        have hc' : c = e ∨ c = j := by simpa using hcm
        rcases hc' with rfl | rfl
        · exact ⟨_, t1⟩
        · obtain ⟨o, q, _⟩ := t2; exact ⟨o, q⟩
    refine ⟨.ref s.heap.objs.size, _, I1, rfl, ⟨_, x, rfl, I.hok.fresh (Nat.le_refl _), rfl, hx⟩, ⟨⟨u, ?_⟩, g2.at fun o q => (sb.2 j (Ne.symm ne)).trans q⟩, nf⟩
    have e1 : ((i + 1 : Nat) : Int) = (i : Int) + 1 := by omega
    rw [e1]
    exact g1'
  done := by
    intro X hP hw hK hc i pins s σ H E I hf st hg
    subst hP hw hK
    obtain ⟨⟨old, t1⟩, t2⟩ := st
    obtain ⟨qx, hi⟩ := hg
    obtain ⟨its, rv, p, _⟩ := I.list qx
    obtain ⟨z1, hot, nz⟩ := hot_ne hc I hf
    obtain ⟨f0, f1, f2, f3, f4, f5⟩ := hf j (by simp)
    have hl := rv.length
    have hn : i = its.toArray.size := by simp; omega
    subst hn
    exact wpAny_pyNext_enum_endD (draws_lst_hot (nz j (by simp)) na its.toArray) t1 ⟨⟨t2, p.isList⟩, hot⟩ fun g k => ⟨rfl, I.turned (t' := s.toks) (fun c o hb q => k c o hb q) f0 f1 f3 f4 f5⟩
  self := fun A i s Q E st q => let ⟨⟨_, t⟩, _⟩ := st; wpAny_pyIter_enum t q
/-! ### the keys of a locked dict -/
theorem turn_keyH {P : Program} {w : World} {K : PySem.W.Frag} {tg : Expr} {d j : Addr} {o : Obj} {es : Array DictEntry} {ep : Nat} {kvs : List (Key × V)} (hod : o.data = .dict es ep) : TurnH P w K tg (Itk d o kvs) [j] j (fun i h => h.IsKeyIter j d i kvs.length ep) where
  mem := by simp
  obj := fun i h st c hc => by
    have hc' : c = j := by simpa using hc
    subst hc'
    obtain ⟨u, t1, _, t2⟩ := st
    exact ⟨u, t1, fun v z => by rw [t2] at z; cases z⟩
  keep := fun i h h' st k => st.at (k j (by simp))
  item := by
    intro X hP hw hK hc i pins s σ H E I hf st hg
    subst hP hw hK
    obtain ⟨hd, hi⟩ := hg
    obtain ⟨f0, f1, f2, f3, f4, f5⟩ := hf j (by simp)
    obtain ⟨_, _, _, es', ep', vs, hdt, _, kv, hm⟩ := I.frzK hd
    obtain ⟨rfl, rfl⟩ := dict_ep hod hdt
    obtain ⟨⟨k, v⟩, hkv⟩ : ∃ p, kvs[i]? = some p := ⟨kvs[i], List.getElem?_eq_getElem hi⟩
    obtain ⟨u, hu, ru⟩ := kv_get kv hkv
    have hl : kvs.length = vs.length := Paired.length kv
    rw [hl] at st
    refine wpAny_pyNext_dict_item st hm hu fun key g g1 st' sb => ?_
    have I1 : Inv X pins σ H { s with heap := g } := I.turned (t' := s.toks) (fun b ob hb e => (sb.2 b hb).trans e) f0 f1 f3 f4 f5
    obtain ⟨oi, e1, e2, e3⟩ := id st'
    refine ⟨key, rfl, go_of (s := { s with heap := g }) e1 e2 e3 (by decide) ⟨kV k, H, I1, relV_key (show keyIs k key = true from g1), ⟨rfl, k, v, hkv, rfl⟩, ?_, fun b hb => (hf b hb).1⟩⟩
    show g.IsKeyIter j d (i + 1) kvs.length _
    rw [hl]
    exact st'
  done := by
    intro X hP hw hK hc i pins s σ H E I hf st hg
    subst hP hw hK
    obtain ⟨hd, hi⟩ := hg
    obtain ⟨z1, hot, nz⟩ := hot_ne hc I hf
    obtain ⟨f0, f1, f2, f3, f4, f5⟩ := hf j (by simp)
    obtain ⟨_, hgd, _, es', ep', vs, hdt, hsz, kv, hm⟩ := I.frzK hd
    obtain ⟨rfl, rfl⟩ := dict_ep hod hdt
    exact next_key_hot hot (nz j (by simp)) st hgd hdt hsz hi fun g k => ⟨rfl, I.turned (t' := s.toks) (fun b ob hb e => k b ob hb e) f0 f1 f3 f4 f5⟩
  self := fun A i s Q E st q => wpAny_pyIter_keyiter st q
end Rf

/-! Comprehensions while an exception is handled. -/
namespace Rf
open PySem PySem.Spec PyProof.Rows L2 L2H HotX
/-- a comprehension's block that keeps the pins -/
abbrev blkH (X : Cx) (s : Shared) (H : Hp) (scope : Scope) (ce : Env) (fp : List Addr) : Cx := (X.blk s H scope ce fp).tr X.pn (fun _ _ => False)
section
variable {X : Cx} {pins : List (Addr × Obj)} {σ : L2.St} {H : Hp} {s : Shared}
theorem HotC.blk (hc : HotC X) {s' : Shared} {H' : Hp} {scope : Scope} {ce : Env} {fp : List Addr} : HotC (blkH X s' H' scope ce fp) := by
  obtain ⟨p, h, hp⟩ := hc
  exact ⟨p, h, hp⟩
theorem startH {scope : Scope} {own : List (Str × Nat)} {fp : List Addr} (I : Inv X pins σ H s) (ok : BlkOk X.N X.env.scope scope own) (hN : X.N.Nodup) (hfp : ∀ b ∈ fp, FpOk X pins H b ∧ b < s.heap.objs.size) :
    Inv (blkH X s H scope (compEnvC scope (cellsFrom (s.heap.objs.size + 1) scope.names (cloFrom X.env.cells scope.names [])) s.heap.objs.size X.env) fp) [] (wipe σ (own.map (·.2))) H { s with heap := pushCells (s.heap.push { cls := .type "dict", data := .dict #[] }) scope.names } := by
  have J := block_start I ok hN hfp
  refine ⟨J.ok.toTry _ _, J.os, J.bare, J.base, J.loc, J.cell, J.free, J.freeC, fun p hp => ?_, J.hok, J.len⟩
  have hp' : p ∈ X.pn := by simpa using hp
  obtain ⟨p1, p2, p3, p4, p5⟩ := I.pin p (List.mem_append_left _ hp')
  refine ⟨pushCells_keeps _ _ _ _ (Heap.get?_push_of_some _ p1), p2, Nat.ne_of_lt (Heap.lt_size p1), fun z => ?_, p5⟩
  rcases List.mem_cons.mp (I.stkSub p.1 z) with z | z
  · exact p3 z
  · exact p4 z
theorem lcH {Q : VK} {elt tg iter : Expr} {ifs : List Expr} {scope : Scope} {own : List (Str × Nat)} {pos pos' : Pos} {wi : TI} {g : TG} {tt : TT} {te : TE}
    (hc : HotC X) (hN : X.N.Nodup) (I : Inv X pins σ H s) (hi : PIH X tg iter wi) (ok : BlkOk X.N X.env.scope scope own)
    (hg : ∀ (s : Shared) (H : Hp) (C : Addr) (cl : List (Str × Addr)) (fp : List Addr), PG (blkH X s H scope (compEnvC scope cl C X.env) fp) tg g) (ht : ∀ (s : Shared) (H : Hp) (C : Addr) (cl : List (Str × Addr)) (fp : List Addr), PTs (blkH X s H scope (compEnvC scope cl C X.env) fp) ifs tt)
    (he : ∀ (s : Shared) (H : Hp) (C : Addr) (cl : List (Str × Addr)) (fp : List Addr), PE (blkH X s H scope (compEnvC scope cl C X.env) fp) elt te) (hs : ∀ x, foldedSetIterable iter X.env x = pure x)
    (h : tLc wi g tt te (own.map (·.2)) σ H Q) :
    wpAny (model X.prog X.w) X.A (comprehension (.ListComp elt [⟨tg, iter, ifs, 0⟩] scope pos) scope X.env pos' (newList []) false (eval iter X.env) none) (EP X pins σ Q) X.xe s := by
  have free : ∀ y ∈ scope.names, y.2 = .free → ∃ c, X.env.cells.lookup y.1 = some c := fun y hy e => (ok.free y hy e).elim (fun k => I.ok.has _ (.inl k)) fun k => I.ok.has _ (.inr k)
  refine wpAny_comprehension_free (use := none) rfl hs (closure_ok free) ok.kind (fun y hy e => by rw [ok.uniq y hy, e]) (thn (hi.run pins s σ H _ I h) fun xv s1 y1 => thn y1 fun iv s2 y2 => ?_)
  obtain ⟨it, fp, tn, J, H2, rfl, I2, T, t2, f2, q⟩ := y2
  refine wpAny_newObj_type (newEnv_comp ?_) (by show 0 ≤ sizeLine; decide)
  generalize eD : s2.heap.objs.size = D
  obtain ⟨W, ⟨m0, w0⟩, turn⟩ := q D (I2.hok.fresh (Nat.le_of_eq eD))
  generalize e3 : ({ s2 with heap := s2.heap.push { cls := .type "list", data := .seq ([] : List Value).toArray } } : Shared) = s3
  have I3 : Inv X pins σ (upd H2 D (.lst [])) s3 := by
    rw [← e3]
    refine I2.laid (t' := s2.toks) (fun b o e => Heap.get?_push_of_some _ e) (Nat.le_of_eq eD) ⟨Nat.zero_le _, [], 0, .nil, ?_⟩
    rw [← eD]
    exact Heap.get?_push_size _ rfl
  have h3 : s3.heap = s2.heap.push { cls := .type "list", data := .seq ([] : List Value).toArray } := by rw [← e3]
  have f3 : ∀ b ∈ fp, FpOk X pins (upd H2 D (.lst [])) b ∧ b < s3.heap.objs.size := fun b hb => by
    obtain ⟨o, e, _⟩ := T.obj _ _ t2 b hb
    have lt := Heap.lt_size e
    refine ⟨⟨?_, (f2 b hb).2⟩, by rw [h3, Heap.size_push]; exact Nat.lt_succ_of_lt lt⟩
    rw [upd_ne (by rw [← eD]; exact Nat.ne_of_lt lt)]
    exact (f2 b hb).1
  have t3 : tn 0 s3.heap := T.keep _ _ _ t2 fun b _ o e => by rw [h3]; exact Heap.get?_push_of_some _ e
  have I4 := startH I3 ok hN f3
  have pg := hg s3 (upd H2 D (.lst [])) s3.heap.objs.size (cellsFrom (s3.heap.objs.size + 1) scope.names (cloFrom X.env.cells scope.names [])) fp
  have pt := ht s3 (upd H2 D (.lst [])) s3.heap.objs.size (cellsFrom (s3.heap.objs.size + 1) scope.names (cloFrom X.env.cells scope.names [])) fp
  have pe := he s3 (upd H2 D (.lst [])) s3.heap.objs.size (cellsFrom (s3.heap.objs.size + 1) scope.names (cloFrom X.env.cells scope.names [])) fp
  show codeAny _ _ (.compStart (.ListComp elt [⟨tg, iter, ifs, 0⟩] scope pos) 0 (.ref it) (.ref D) (compEnvC scope (cellsFrom (s3.heap.objs.size + 1) scope.names (cloFrom X.env.cells scope.names [])) s3.heap.objs.size X.env)) (compPost (model X.prog X.w) X.A X.xe none (EP X pins σ Q) (.ref D) s3.heap.objs.size) { s3 with heap := pushCells (s3.heap.push { cls := .type "dict", data := .dict #[] }) scope.names }
  have n3 : ∀ b ∈ fp, (upd H2 D (.lst [])) b = none := fun b hb => (f3 b hb).1.1
  generalize ec : compEnvC scope (cellsFrom (s3.heap.objs.size + 1) scope.names (cloFrom X.env.cells scope.names [])) s3.heap.objs.size X.env = ce at I4 pg pt pe ⊢
  have cL : ce.locals = s3.heap.objs.size := by subst ec; rfl
  generalize eH : upd H2 D (.lst []) = H3 at I3 I4 pg pt pe w0 n3 f3
  generalize e4 : ({ s3 with heap := pushCells (s3.heap.push { cls := .type "dict", data := .dict #[] }) scope.names } : Shared) = s4 at I4 ⊢
  have t4 : tn 0 s4.heap := T.keep _ _ _ t3 fun b _ o e => by rw [← e4]; exact pushCells_keeps _ _ _ _ (Heap.get?_push_of_some _ e)
  have hb : HotC (blkH X s3 H3 scope ce fp) := HotC.blk hc
  have stat : ∀ {σ' : L2.St} {H' : Hp} {s' : Shared}, Inv (blkH X s3 H3 scope ce fp) [] σ' H' s' → (∀ b ∈ fp, H' b = none) → ∀ b ∈ fp, FpOk (blkH X s3 H3 scope ce fp) [] H' b := fun {σ' H' s'} I' hn b hb =>
    ⟨hn b hb, (I'.ok.exf b hb).1, I'.ok.exfs b hb, .inl hb, fun x c e => (I'.ok.exf b hb).2 x c e, fun p hp => (f3 b hb).1.2.2.2.2.2 p (List.mem_append_left _ (by simpa using hp))⟩
  have loop : codeAny (model X.prog X.w) X.A (.compLoop (.ListComp elt [⟨tg, iter, ifs, 0⟩] scope pos) 0 (.ref it) (.ref D) ce) (compPost (model X.prog X.w) X.A X.xe none (EP X pins σ Q) (.ref D) s3.heap.objs.size) s4 := by
    refine compLoop_any (fun n s' => ∃ i H', Inv (blkH X s3 H3 scope ce fp) [] (wipe σ (own.map (·.2))) H' s' ∧ tn i s'.heap ∧ (∀ b ∈ fp, H' b = none) ∧ W i n H') ?_ m0 ⟨0, H3, I4, t4, n3, w0⟩
    rintro n s5 ⟨i, H5, I5, t5, n5, w5⟩
    rcases turn i n H5 w5 with ⟨stop, qq⟩ | ⟨go, Nx, hNx, step⟩
    · refine thnF (T.done (blkH X s3 H3 scope ce fp) rfl rfl rfl hb i [] s5 _ H5 (fun _ _ => False) I5 (stat I5 n5) t5 stop) fun r s6 ⟨hr, I6⟩ => ?_
      subst hr
      have I7 : Inv X pins σ H5 s6 := I3.call' (ch := fp) I6.os I6.base I6.hok I6.bare fun b hb => ⟨(f3 b hb).1.2.2.2.1, (f3 b hb).1.2.1, (f3 b hb).1.2.2.2.2.1, (f3 b hb).1.2.2.2.2.2⟩
      have nC : H5 s3.heap.objs.size = none := by
        have z : H5 ce.locals = none := I6.free
        rw [cL] at z
        exact z
      obtain ⟨m, hn, _⟩ := I6.loc
      have hn : s6.heap.Ns ce.locals m := hn
      rw [cL] at hn
      refine ⟨m, hn, fun h'' sb => ?_⟩
      obtain ⟨f0, f1, _, fa, fb, fc⟩ := I3.fpOk (Nat.le_refl _) nC
      exact ⟨.ref D, H5, I7.turned (t' := s6.toks) (fun b o hb e => (sb.2 b hb).trans e) f0 f1 fa fb fc, rfl, qq⟩
    · refine thnF (T.item (blkH X s3 H3 scope ce fp) rfl rfl rfl hb i [] s5 _ H5 (fun _ _ => False) I5 (stat I5 n5) t5 go) fun r s6 ⟨u, hr, y6⟩ => ?_
      subst hr
      refine thnF y6 fun _ s7 ⟨x, H7, I7, r7, y7, t7, n7⟩ => ?_
      refine thnF (pg.run _ s7 _ H7 x u _ (I7.pinned (stat I7 n7) (T.obj _ _ t7)) r7 (step x H7 y7)) fun _ s8 ⟨σ8, H8, I8, hw8, q8⟩ => ?_
      refine thnF (pt.run _ s8 σ8 H8 _ I8 q8) fun b s9 ⟨H9, I9, q9⟩ => ?_
      have fin : ∀ {s' : Shared} {H' : Hp}, Inv (blkH X s3 H3 scope ce fp) ([] ++ pinsAt fp s7.heap) σ8 H' s' → Nx H' → ∃ m, m < n ∧ ∃ i H', Inv (blkH X s3 H3 scope ce fp) [] (wipe σ (own.map (·.2))) H' s' ∧ tn i s'.heap ∧ (∀ b ∈ fp, H' b = none) ∧ W i m H' := fun {s' H'} I' nx => by
        obtain ⟨m', hm, w'⟩ := hNx H' nx
        have stay : ∀ b ∈ fp, ∀ o, s7.heap.get? b = some o → s'.heap.get? b = some o ∧ H' b = none := fun b hb o e =>
          let z := I'.pin (b, o) (List.mem_append_right _ (List.mem_append_right _ (mem_pinsAt hb e)))
          ⟨z.1, z.2.1⟩
        refine ⟨m', hm, i + 1, H', (I'.unpinned (pins := [])).weak (by rw [← hw8, wipe_length]) (fun j v e => ?_), T.keep _ _ _ t7 fun b hb o e => (stay b hb o e).1, fun b hb => ?_, w'⟩
        · rw [← hw8] at e
          exact (wipe_some e).1
        · obtain ⟨o, e, _⟩ := T.obj _ _ t7 b hb
          exact (stay b hb o e).2
      cases b with
      | false =>
        simp only [Bool.false_eq_true, if_false] at q9 ⊢
        exact fin I9 q9
      | true =>
        simp only [if_true] at q9 ⊢
        refine thnF (pe.run _ s9 σ8 H9 _ I9 q9) fun z sA ⟨yv, HA, IA, rA, acc, hDA, hzA, nx⟩ => ?_
        exact app_ok (X := blkH X s3 H3 scope ce fp) IA hDA hzA rA fun sB IB => fin IB nx
  exact codeAny_compStart_list loop (T.self X.A 0 _ _ _ t4 loop)
theorem pe_lcH {elt tg iter : Expr} {ifs : List Expr} {scope : Scope} {own : List (Str × Nat)} {pos : Pos} {wi : TI} {g : TG} {tt : TT} {te : TE} (hc : HotC X) (hN : X.N.Nodup) (hi : PIH X tg iter wi) (ok : BlkOk X.N X.env.scope scope own)
    (hg : ∀ (s : Shared) (H : Hp) (C : Addr) (cl : List (Str × Addr)) (fp : List Addr), PG (blkH X s H scope (compEnvC scope cl C X.env) fp) tg g) (ht : ∀ (s : Shared) (H : Hp) (C : Addr) (cl : List (Str × Addr)) (fp : List Addr), PTs (blkH X s H scope (compEnvC scope cl C X.env) fp) ifs tt)
    (he : ∀ (s : Shared) (H : Hp) (C : Addr) (cl : List (Str × Addr)) (fp : List Addr), PE (blkH X s H scope (compEnvC scope cl C X.env) fp) elt te) (hs : ∀ x, foldedSetIterable iter X.env x = pure x) :
    PE X (.ListComp elt [⟨tg, iter, ifs, 0⟩] scope pos) (tLc wi g tt te (own.map (·.2))) := by
  refine ⟨fun pins s σ H Q I h => ?_⟩
  rw [eval_ListComp]
  exact lcH hc hN I hi ok hg ht he hs h
/-! ### what is walked -/
theorem walk_enuH {K : PySem.W.Frag} {a : Addr} {xs : List V} : Walk (IteH K a xs) xs.length (fun H => SqL K H a xs) (fun i H v H' => ∃ T x, v = .ref T ∧ H T = none ∧ H' = upd H T (.tup [.int (i : Nat), x]) ∧ xs[i]? = some x) :=
  ⟨fun _ _ hi q => ⟨q, hi⟩, fun _ q => ⟨q, rfl⟩, fun _ _ _ _ _ _ y => y⟩
theorem walk_zipH {κ : Knd} {a b : Addr} {xs ys : List V} : Walk (ItzH κ a b xs ys) (min xs.length ys.length) (fun H => κ.sq H a xs ∧ κ.sq H b ys) (YPair (fun i => xs[i]?) (fun i => ys[i]?)) :=
  ⟨fun _ _ hi q => ⟨q.1, q.2, hi⟩, fun _ q => ⟨q.1, q.2, rfl⟩, fun _ _ _ _ _ _ y => y⟩
theorem pi_enuH {e : Expr} {ta : TA} {p pos tpos : Pos} {elts : List Expr} {kk : Nat} (hg : Gl X "enumerate") (hm : X.mg "enumerate" = none) (ha : PA X [e] ta) (hs : starEach [e] X.env = [(false, eval e X.env)]) :
    PIH X (.Tuple elts kk tpos) (.Call (.Name "enumerate" p) [e] [] pos) (fun σ H R => ta σ H fun vs H1 => ∃ a xs, vs = [.ref a] ∧ SqL X.K H1 a xs ∧ R (IteH X.K a xs) H1) := by
  refine ⟨fun pins s σ H R I h => ?_⟩
  refine Call_ (ld_blt I hg hm boot_enumerate (PyProof.Rows.callWith_type1 (thn (ha.run pos pins s σ H _ I h) fun us s1 ⟨vs, H1, I1, r1, q1⟩ => ?_) hs rfl))
  obtain ⟨a, xs, rfl, hq, q⟩ := q1
  cases r1 with
  | cons r rr =>
    cases rr
    cases r
    obtain ⟨its, rv, p', hz⟩ := I1.list hq
    refine call_enumerate_list p'.isList fun g g1 g2 g3 g4 => wpAny_pyIter_enum g1 ?_
    have lt : a < s1.heap.objs.size := p'.lt
    refine ⟨s1.heap.objs.size + 1, [s1.heap.objs.size + 1, s1.heap.objs.size], _, _, H1, rfl, I1.kept (t' := s1.toks) g4, turn_enuH (e := s1.heap.objs.size + 1) (Nat.ne_of_lt lt) (Nat.succ_ne_self _), ⟨⟨.none, g1⟩, g2⟩, fun b hb => ?_, q⟩
    have hb' : b = s1.heap.objs.size + 1 ∨ b = s1.heap.objs.size := by simpa using hb
    have le : s1.heap.objs.size ≤ b := by rcases hb' with z | z <;> rw [z] <;> first | exact Nat.le_succ _ | exact Nat.le_refl _
    exact I1.fpOk le (I1.hok.fresh le)
theorem pi_zipH {e e2 : Expr} {ta : TA} {p pos tpos : Pos} {elts : List Expr} {kk : Nat} (hg : Gl X "zip") (hm : X.mg "zip" = none) (ha : PA X [e, e2] ta)
    (hs : starEach [e, e2] X.env = (false, eval e X.env) :: starEach [e2] X.env) (hpl : (backTo pos (starEach [e2] X.env)).any (·.1) = false) :
    PIH X (.Tuple elts kk tpos) (.Call (.Name "zip" p) [e, e2] [] pos) (fun σ H R => ta σ H fun vs H1 => ∃ a b xs ys, vs = [.ref a, .ref b] ∧ ((SqL X.K H1 a xs ∧ SqL X.K H1 b ys ∧ R (ItzH (kLst X.K) a b xs ys) H1) ∨ (SqT X.K H1 a xs ∧ SqT X.K H1 b ys ∧ R (ItzH (kTup X.K) a b xs ys) H1))) := by
  refine ⟨fun pins s σ H R I h => ?_⟩
  refine Call_ (ld_blt I hg hm PyProof.Rows.boot_zip (PyProof.Rows.callWith_type1 (thn (ha.run pos pins s σ H _ I h) fun us s1 ⟨vs, H1, I1, r1, q1⟩ => ?_) hs hpl))
  obtain ⟨a, b, xs, ys, rfl, q1⟩ := q1
  obtain ⟨u1, u2, rfl, ra, rb⟩ := vals2 r1
  cases ra
  cases rb
  have new : ∀ c ∈ [s1.heap.objs.size + 4, s1.heap.objs.size + 2, s1.heap.objs.size + 3, s1.heap.objs.size, s1.heap.objs.size + 1], FpOk X pins H1 c := fun c hcm => by
    have le : s1.heap.objs.size ≤ c := by
      have hc' : c = s1.heap.objs.size + 4 ∨ c = s1.heap.objs.size + 2 ∨ c = s1.heap.objs.size + 3 ∨ c = s1.heap.objs.size ∨ c = s1.heap.objs.size + 1 := by simpa using hcm
      omega
    exact I1.fpOk le (I1.hok.fresh le)
  rcases q1 with ⟨qx, qy, q⟩ | ⟨qx, qy, q⟩
  · obtain ⟨its, rv, p1, _⟩ := I1.list qx
    obtain ⟨its2, rv2, p2, _⟩ := I1.list qy
    refine call_zip_2 p1.isList p2.isList fun g g1 g2 g3 g4 g5 g6 g7 => wpAny_pyIter_zip g1 ?_
    exact ⟨_, _, _, _, H1, rfl, I1.kept (t' := s1.toks) g7, turn_zipH kLst_ok (PySem.W.ktu_apart s1.heap.objs.size a b p1.lt p2.lt), ⟨g1, g2, ⟨_, _, g3⟩, g4, g5⟩, new, q⟩
  · obtain ⟨its, rv, p1, _⟩ := I1.tuple qx
    obtain ⟨its2, rv2, p2, _⟩ := I1.tuple qy
    obtain ⟨o1, x1, _⟩ := id p1
    obtain ⟨o2, x2, _⟩ := id p2
    refine RZ.call_zipT (show s1.heap.IsTuple a its.toArray from p1) (show s1.heap.IsTuple b its2.toArray from p2) fun g g1 g2 g3 g4 g5 g6 g7 => wpAny_pyIter_zip g1 ?_
    exact ⟨_, _, _, _, H1, rfl, I1.kept (t' := s1.toks) g7, turn_zipH kTup_ok (PySem.W.ktu_apart s1.heap.objs.size a b (Heap.lt_size x1) (Heap.lt_size x2)), ⟨g1, g2, ⟨_, _, g3⟩, g4, g5⟩, new, q⟩
theorem pi_keyH {tg e : Expr} {td : TE} (he : PE X e td) : PIH X tg e (fun σ H R => td σ H fun x H1 => ∃ d o kvs, x = .ref d ∧ H1 d = some (.frz o (.dK kvs)) ∧ R (Itk d o kvs) H1) := by
  refine ⟨fun pins s σ H R I h => thn (he.run pins s σ H _ I h) fun u s1 ⟨x, H1, I1, rx, d, o, kvs, ex, hd, q⟩ => ?_⟩
  subst ex
  obtain rfl : u = Value.ref d := rx
  obtain ⟨hs, hgd, hx, es, ep, vs, hdt, hsz, kv, hm⟩ := I1.frzK hd
  refine iter_keys hs hgd hx hdt ⟨_, [s1.heap.objs.size], _, _, H1, rfl, I1.kept (t' := s1.toks) fun b ob e => Heap.get?_push_of_some _ e, turn_keyH hdt, ⟨_, Heap.get?_push_size _ rfl, rfl, ?_⟩, fun b hb => ?_, q⟩
  · rw [hsz] <;> rfl
  · have hb' : b = s1.heap.objs.size := by simpa using hb
    subst hb'
    exact I1.fpOk (Nat.le_refl _) (I1.hok.fresh (Nat.le_refl _))
/-- all(list) -/
theorem call_allH (hc : HotC X) : CallR X (.builtin "all") (rAll X.K) := by
  intro pins s σ H vs us Q I r h
  obtain ⟨a, bs, rfl, hs, q⟩ := h
  obtain ⟨its, rv, hl, _⟩ := I.list hs
  rw [Vals.ref1 r]
  have hb := rv.bls
  obtain ⟨z1, hot⟩ := hc.at I
  have lz : z1 < s.heap.objs.size := by
    obtain ⟨_, o, us, e, _⟩ := hot
    exact Heap.lt_size e
  refine call_all_walk (iter_any hl.isList fun s₂ e2 st hne => ?_)
  subst e2
  refine ⟨_, _, _, _, _, _, _, rfl, walks_lst_hot (A := X.A.in1) (z1 := z1) (Nat.ne_of_lt lz) hne its.toArray, ⟨st, hot_up (A := X.A.in1) hot fun b o _ e => Heap.get?_push_of_some _ e⟩, truth_bools hb, fun g tk k => ?_⟩
  refine ⟨.bl _, H, I.kept fun b o eo => k b o (fun m => ?_) (Heap.get?_push_of_some _ eo), ?_, q⟩
  · have m' : b = s.heap.objs.size := by simpa using m
    exact absurd (m' ▸ Heap.lt_size eo) (Nat.lt_irrefl _)
  · show Value.bool _ = Value.bool _
    rw [← L2.all_range, hb, List.size_toArray, List.length_map]
end
end Rf

/-! A tuple taken apart while an exception is handled. -/
namespace Rf
open PySem PySem.Spec PyProof.Rows L2 L2H HotX
section
variable {prog : Program} {w : World} {A : Around} {E : Value → Shared → Prop} {s : Shared} {z1 : Addr}
theorem next_tup_hot {j a : Addr} {i : Nat} {xs : Array Value} {Q : Option Value → Shared → Prop} (t : HotAt A z1 s.heap) (nj : z1 ≠ j) (g : s.heap.IsTupleIter j a i) (l : s.heap.IsTuple a xs) (n : xs[i]? = none)
    (q : ∀ h', Heap.ExtBut j s.heap h' → Q none { s with heap := h' }) : wpAny (model prog w) A (pyNext (.ref j)) Q E s := by
  obtain ⟨u, g1, g2, g3⟩ := id g
  obtain ⟨ul, l1, _, _, l2⟩ := l
  unfold pyNext
  refine wpAny_bind (wpAny_attempt (wpAny_callSpecial?_slot (name := Str.ofString "__next__") g.typeIs F.slot_tuple_iterator_next (wpAny_call_entry F.slot_tuple_iterator_next g.typeIs F.entry_tuple_iterator_next ?_ (F.args_tuple_iterator_next_1 _))))
  show wpAny _ _ (field (.ref j) 0 >>= _) _ _ s
  refine wpAny_bind (wpAny_field g1 g3 (x := .ref a) rfl ?_)
  show wpAny _ _ (if (Value.ref a == Value.none) = true then _ else _) _ _ s
  rw [if_neg (show ¬ ((Value.ref a == Value.none) = true) from Bool.false_ne_true)]
  show wpAny _ _ (field (.ref j) 1 >>= _) _ _ s
  refine wpAny_bind (wpAny_field g1 g3 (x := .int i 0) rfl ?_)
  show wpAny _ _ (seqItems? (.ref a) >>= _) _ _ s
  refine wpAny_bind (wpAny_seqItems l1 l2 ?_)
  simp only [Int.toNat_natCast, n]
  refine wpAny_bind (wpAny_rule (wpAny_bind (wpAny_setField g1 g3 (by simp) ?_)))
  have sb := Heap.SameBut.update (h := s.heap) j (Obj.mapFields (·.setIfInBounds 0 .none))
  refine stops_hot (A := A.in1) (hot_up (A := A.in1) t fun b o e q => sb.extBut b o (by rw [e]; exact nj) q) fun h' e k ⟨oe, x1, x2⟩ => ?_
  refine wpAny_bind (wpAny_isInstance (T := "StopIteration") (b := true) (s := { s with heap := h' }) ⟨oe, x1, x2⟩ isSubtype_stop (wpAny_pure (q h' fun b o ne y => k b o (sb.extBut b o ne y))))
theorem items_hot {a : Addr} {xs : Array Value} {Q : List Value → Shared → Prop} (t : HotAt A z1 s.heap) (l : s.heap.IsTuple a xs) (q : ∀ h', Heap.ExtBut s.heap.objs.size s.heap h' → Q xs.toList { s with heap := h' }) :
    wpAny (model prog w) A (unpackItems (.ref a) xs.size none) Q E s := by
  have na : a ≠ s.heap.objs.size := by obtain ⟨o, e, _⟩ := l; exact Nat.ne_of_lt (Heap.lt_size e)
  have nz : z1 ≠ s.heap.objs.size := by obtain ⟨_, o, _, e, _⟩ := t; exact Nat.ne_of_lt (Heap.lt_size e)
  unfold unpackItems
  refine wpAny_bind ?_
  · unfold notIterableAtAll
    refine wpAny_bind (wpAny_specialOf l.typeIs F.slot_tuple_iter.lookup (wpAny_pure ?_))
    simp only [Bool.false_eq_true, if_false]
    refine wpAny_bind (wpAny_holding (wpAny_pyIter_tuple l ?_))
    refine wpAny_bind (wpAny_holding (wpAny_draw_tuple na xs.size 0 _ _ ⟨_, Heap.get?_push_size _ rfl, rfl, rfl⟩ (l.push _) (by omega) fun g g1 sb => ?_))
    rw [show List.take xs.size (List.drop 0 xs.toList) = xs.toList from by rw [List.drop_zero]; exact List.take_of_length_le (by simp), if_neg (by simp)]
    have up : ∀ b o, b ≠ s.heap.objs.size → s.heap.get? b = some o → g.get? b = some o := fun b o hb e => sb.extBut b o hb (Heap.get?_push_of_some _ e)
    refine wpAny_bind (wpAny_holding (next_tup_hot (s := { s with heap := g }) (hot_up t fun b o e => up b o (by rw [e]; exact nz)) nz g1 ((l.push _).extBut sb.extBut na) (by simp) fun g' k => ?_))
    simp only [Option.isSome_none, Bool.false_eq_true, if_false]
    exact wpAny_pure (q g' fun b o hb e => k b o hb (up b o hb e))
end
theorem pg_tupH {X : Cx} {es : List Expr} {k : Nat} {t : TGs} {n : Nat} {pos : Pos} (hc : HotC X) (h : PGs X es t) (hn : (assignEach es X.env).length = n) (hst : (assignEach es X.env).findIdx? (·.1) = none) : PG X (.Tuple es k pos) (gTup X.K n t) := by
  refine ⟨fun pins s σ H v u Q I r hw => ?_⟩
  obtain ⟨a, xs, rfl, hq, hl, hw⟩ := hw
  cases r
  obtain ⟨its, rv, ht, hz⟩ := I.tuple hq
  obtain ⟨z1, hot⟩ := hc.at I
  have ln : (assignEach es X.env).length = its.toArray.size := by simp [hn, ← hl, rv.length]
  rw [assign_Tuple]
  refine wpAny_bind (wpAny_standAt ?_)
  unfold unpack
  rw [ln, hst]
  refine wpAny_bind (wpAny_holding (items_hot hot (show s.heap.IsTuple a its.toArray from ht) fun g x => ?_))
  have I1 : Inv X pins σ H { s with heap := g } := I.kept (t' := s.toks) fun b o e => x b o (Nat.ne_of_lt (Heap.lt_size e)) e
  exact h.run pins _ σ H xs _ Q I1 (by simpa using rv) hw
end Rf

/-! Own exceptions as values: made by position and by name, asked for their class and their fields. -/
namespace Rf
open PySem PySem.Spec PyProof.Rows L2 HandSPX
section
variable {M : Model} {A : Around} {E : Value → Shared → Prop} {h : Heap} {g : Array GenState} {d : Drawn} {t : Nat} {os : OsState}
variable {nm q : Str} {C N : Addr} {bs bm bmB : List Value} {hdct : Bool} {sn : List Str} {sub : List Value} {ab : Bool} {col : Option Bool} {dd : Option Addr} {k0 k1 k2 k3 k5 : Option Value} {B newId initId : String}
theorem kw_new_check (F : ExcBaseFacts B newId initId bmB) (hT : ∀ Y : String, bm.contains (.type Y) = bmB.contains (.type Y)) {us : List Value} {kw : List (Str × Value)} {Q : Unit → Shared → Prop}
    (z : h.get? C = some (excClassObj nm q C N bs bm hdct sn sub ab col dd k0 k1 k2 k3 k5 newId)) (y : Q () ⟨h, g, d, t, os⟩) : wpAny M A (checkBuiltinCall newId ⟨.ref C :: us, kw⟩) Q E ⟨h, g, d, t, os⟩ := by
  have hc : (Value.ref C :: bm).contains (.type B) = true := by rw [List.contains_cons, hT, F.hasB, Bool.or_true]
  have ns := F.noStar
  simp only [checkBuiltinCall, F.newKind, F.newSplit, F.newRow]
  repeat (first | refine wpAny_loadPart_at z ?_ | (refine wpAny_isSubtype_exc z ?_; rw [hc]) | refine wpAny_staticBase_exc z ?_ | refine wpAny_madeBy_exc z ?_ | simp only [bne_self_eq_false, Bool.false_eq_true, if_false] | wp_step)
  exact y
end
section
variable {prog : Program} {w : World} {A : Around} {E : Value → Shared → Prop} {R : Result → Shared → Prop} {h : Heap} {g : Array GenState} {d : Drawn} {t : Nat} {os : OsState}
variable {nm q : Str} {C N : Addr} {bs bm bmB : List Value} {hdct : Bool} {sn : List Str} {sub : List Value} {ab : Bool} {col : Option Bool} {dd : Option Addr} {k0 k1 k2 k3 k5 : Option Value} {B newId initId : String}
theorem kw_new (F : ExcBaseFacts B newId initId bmB) (hT : ∀ Y : String, bm.contains (.type Y) = bmB.contains (.type Y)) {us : List Value} {kw : List (Str × Value)}
    (z : h.get? C = some (excClassObj nm q C N bs bm hdct sn sub ab col dd k0 k1 k2 k3 k5 newId)) (y : R (.ok (.ret (.ref (h.objs.size + 1)))) ⟨(h.push (W.kdv_tup us)).push (excO C h.objs.size), g, d, t, os⟩) (hz : us.length ≤ sizeLine) :
    codeAny (model prog w) A (.builtin newId ⟨.ref C :: us, kw⟩) R ⟨h, g, d, t, os⟩ := by
  have ends := F.ends
  have c1 : (Value.ref C :: bm).contains (.type B) = true := by rw [List.contains_cons, hT, F.hasB, Bool.or_true]
  have c2 : (Value.ref C :: bm).contains (.type "AttributeError") = false := by rw [List.contains_cons, hT, F.noAttr]; rfl
  have c3 : (Value.ref C :: bm).contains (.type "NameError") = false := by rw [List.contains_cons, hT, F.noName]; rfl
  refine codeAny_builtinAt F.entry ?_
  unfold Builtin.«BaseException.__new__»
  refine PySem.wpAt_bind ?_
  show PySem.wpAt _ _ _ (stack >>= _) _ _ _
  refine PySem.wpAt_bind (PySem.wpAt_stack fun p1 p2 => PySem.wpAt_of_wpAny ?_)
  wp_walk
  refine PySem.wpAt_of_wpAny ?_
  rw [F.owner]
  repeat (first | with_reducible refine wpAny_madeHere_exc F.canon z ?_ | with_reducible refine wpAny_loadPart_at z ?_ | (with_reducible refine wpAny_isSubtype_exc z ?_; first | rw [c1] | rw [c2] | rw [c3]) | wp_step)
  show R _ _
  rw [Heap.size_push]
  exact y
theorem kw_typecall (F : ExcBaseFacts B newId initId bmB) (hT : ∀ Y : String, bm.contains (.type Y) = bmB.contains (.type Y)) {us : List Value} {kw : List (Str × Value)} {fI : Addr} {Q : Fin → Shared → Prop}
    (z : h.get? C = some (excClassObj nm q C N bs bm hdct sn sub ab col dd k0 k1 k2 k3 k5 newId))
    (hi : W.Looks (model prog w) h (typeLookup (.ref C) "__init__") (some (.ref fI))) (hb : ∀ v, W.Looks (model prog w) h (bindSpecial (.ref fI) v) (.ref fI, [v])) (hz : us.length ≤ sizeLine)
    (y : codeAny (model prog w) A (.call (.ref fI) ⟨.ref (h.objs.size + 1) :: us, kw⟩)
      (fun r s' => match r with | .ok (.ret v) => v = .none ∧ Q (.done (.ret (.ref (h.objs.size + 1)))) s' | .ok _ => False | .error e => E e s')
      ⟨(h.push (W.kdv_tup us)).push (excO C h.objs.size), g, d, t, os⟩) :
    wpAny (model prog w) A (Builtin.«type.__call__» ⟨.ref C :: us, kw⟩) Q E ⟨h, g, d, t, os⟩ := by
  repeat (first | with_reducible refine wpAny_loadPart_at z ?_ | with_reducible refine wpAny_madeBy_exc z ?_ | wp_step)
  refine codeAny_call_builtin_code (Code.quiet_builtin _ F.quiet) (kw_new_check F hT z ?_)
  refine kw_new F hT z ?_ hz
  show wpAny _ _ _ _ _ _
  have k : ∀ b o, h.get? b = some o → ((h.push (W.kdv_tup us)).push (excO C h.objs.size)).get? b = some o := fun b o e => Heap.get?_push_of_some _ (Heap.get?_push_of_some _ e)
  have z2 := k _ _ z
  have y2 : ((h.push (W.kdv_tup us)).push (excO C h.objs.size)).get? (h.objs.size + 1) = some (excO C h.objs.size) := by heap_get
  have y3 : (Value.ref C :: bm).contains (.ref C) = true := by simp
  have i1 := hi.keeps k
  have b1 := (hb (.ref (h.objs.size + 1))).keeps k
  unfold isInstance
  repeat (first | with_reducible refine wpAny_loadPart_at y2 ?_ | (with_reducible refine wpAny_isSubtype_exc z2 ?_; rw [y3]) | wp_step)
  show wpAny _ _ (typeLookup (.ref C) _) _ _ _
  refine i1.at (wpAny_holding (wpAny_bind (b1.at (wpAny_bind (wpAny_call (codeAny_mono y fun r s' x => ?_))))))
  rcases r with e | (v | _ | _ | _) <;> first | exact x | exact x.elim | skip
  obtain ⟨rfl, x⟩ := x
  first
    | exact wpAny_pure (wpAny_pure x)
    | (wp_walk; exact x)
theorem kw_call (F : ExcBaseFacts B newId initId bmB) (hT : ∀ Y : String, bm.contains (.type Y) = bmB.contains (.type Y)) {us : List Value} {kw : List (Str × Value)} {fI : Addr}
    (z : h.get? C = some (excClassObj nm q C N bs bm hdct sn sub ab col dd k0 k1 k2 k3 k5 newId))
    (hi : W.Looks (model prog w) h (typeLookup (.ref C) "__init__") (some (.ref fI))) (hb : ∀ v, W.Looks (model prog w) h (bindSpecial (.ref fI) v) (.ref fI, [v])) (hz : us.length ≤ sizeLine)
    (y : codeAny (model prog w) (A.under (.builtin "type.__call__" ⟨.ref C :: us, kw⟩)) (.call (.ref fI) ⟨.ref (h.objs.size + 1) :: us, kw⟩) (W.InitBack (h.objs.size + 1) R) ⟨(h.push (W.kdv_tup us)).push (excO C h.objs.size), g, d, t, os⟩) :
    codeAny (model prog w) A (.call (.ref C) ⟨us, kw⟩) R ⟨h, g, d, t, os⟩ := by
  have f1 := tc_lookup
  have f2 := tc_bind (.ref C)
  have ty : (⟨h, g, d, t, os⟩ : Shared).TypeIs (.ref C) "type" := ⟨_, z, rfl⟩
  refine codeAny_of_tree ?_
  show wpAny _ _ (callAny (.ref C) _) _ _ _
  repeat (any_goals (first | assumption | with_reducible refine wpAny_loadPart_at z ?_ | wp_step))
  refine ⟨rfl, ?_⟩
  refine codeAny_call_builtin_at (Code.quiet_builtin _ (by decide +kernel)) entry_typeCall (wpAny_check_type_call_sub z (kw_typecall F hT z hi hb hz ?_))
  refine codeAny_mono y fun r s' x => ?_
  rcases r with e | (v | _ | _ | _) <;> exact x
end
end Rf

namespace Rf
open PySem PySem.Spec PyProof.Rows L2
section
variable {X : Cx} {CX : CXT} {x : Str} {C fI : Addr} {k : Nat} {fd : FuncData} {ps : List Str} {sp : Sp}
/-- C(..): the exception stays, tracked -/
theorem run_oex {pins : List (Addr × Obj)} {σ : L2.St} {H : Hp} {s : Shared} {Q : VK} {us ws : List Value} {kw : List (Str × Value)} {vs : List V} (T : OexC X.K C) (iC : PySem.W.findIn X.K (.ref C) "__init__" = some (some (.ref fI)))
    (tI : PySem.W.typeIn X.K (.ref fI) = some (.type "function")) (F1 : FnOk X.prog X.w X.K X.mg X.base CX k fI fd ps sp) (hr : Room (k + 1) X.A) (hb : ∀ s v, X.K.In s.heap → BindsTo s fd ⟨v :: us, kw⟩ (ps.zip (v :: ws))) (hx : Passes CX X (fun _ _ _ => False))
    (I : Inv X pins σ H s) (r : Vals vs ws) (hz : us.length ≤ sizeLine)
    (q : ∀ a, H a = none → sp (.ref a :: vs) (upd H a (exo a C none)) (fun v H2 => v = .non ∧ Q (.ref a) H2) (fun _ _ _ => False)) : wpAny (model X.prog X.w) X.A (call (.ref C) us kw) (EP X pins σ Q) X.xe s := by
  obtain ⟨nm, qn, N, bs, bm, sn, sub, ab, col, dd, k0, k1, k2, k3, k5, hC, hbm⟩ := T.cls
  obtain ⟨hp, g, dr, tk, os⟩ := s
  have sz : hp.objs.size ≤ hp.objs.size + 1 := Nat.le_succ _
  have q1 := q (hp.objs.size + 1) (I.hok.fresh sz)
  have y1 : ((hp.push (PySem.W.kdv_tup us)).push (PySem.HandSPX.excO C hp.objs.size)).get? (hp.objs.size + 1) = some (PySem.HandSPX.excO C hp.objs.size) := by heap_get
  have I2 : Inv X pins σ (upd H (hp.objs.size + 1) (exo (hp.objs.size + 1) C none)) ⟨(hp.push (PySem.W.kdv_tup us)).push (PySem.HandSPX.excO C hp.objs.size), g, dr, tk, os⟩ :=
    I.laid (t' := tk) (fun b o e => Heap.get?_push_of_some _ (Heap.get?_push_of_some _ e)) sz (exo_ok y1)
  have r2 : Vals (V.ref (hp.objs.size + 1) :: vs) (Value.ref (hp.objs.size + 1) :: ws) := .cons rfl r
  refine wpAny_call (kw_call F.excBase_ValueError (fun Y => PySem.HandSPX.refsVE_contains Y bm hbm) (I.kIn _ _ hC) (PySem.W.looks_findIn I.kIn iC) (fun v => PySem.W.bind_fn I.kIn v tI) hz
    (codeAny_mono (F1.run _ X.stack _ _ ⟨Value.ref (hp.objs.size + 1) :: us, kw⟩ (Value.ref (hp.objs.size + 1) :: ws) _ _ (fun _ _ _ => False) (hr.make C us kw) (I2.env0.make C us kw) (hb _ _ I2.kIn) r2 q1) fun r s' y => ?_))
  cases r with
  | error e => exact hx pins σ _ _ e s' I2 y
  | ok fl =>
    cases fl with
    | ret u =>
      obtain ⟨v, H', I3, rv, ev, q3⟩ := I2.after y
      subst ev
      exact ⟨rv, ⟨V.ref (hp.objs.size + 1), H', I3, rfl, q3⟩⟩
    | next => exact y.elim
    | brk => exact y.elim
    | cont => exact y.elim
/-- what is asked of the making -/
def tMkV (C : Addr) (sp : Sp) (ta : TA) : TE := fun σ H Q => ta σ H fun vs H1 => vs.length ≤ 1000 ∧ ∀ a, H1 a = none → sp (.ref a :: vs) (upd H1 a (exo a C none)) (fun v H2 => v = .non ∧ Q (.ref a) H2) (fun _ _ _ => False)
theorem pe_oex {e : Expr} {es : List Expr} {ta : TA} {p pos : Pos} (T : OexC X.K C) (iC : PySem.W.findIn X.K (.ref C) "__init__" = some (some (.ref fI))) (tI : PySem.W.typeIn X.K (.ref fI) = some (.type "function"))
    (F1 : FnOk X.prog X.w X.K X.mg X.base CX k fI fd ps sp) (hr : Room (k + 1) X.A) (hb : Binds X.K fd ps []) (hx : Passes CX X (fun _ _ _ => False)) (hg : Gl X x) (hm : X.mg x = some (.ref C)) (ha : PA X (e :: es) ta)
    (hdb : (x == ("__debug__" : Str)) = false) (he : starEach (e :: es) X.env = (false, eval e X.env) :: starEach es X.env) (hpl : (backTo pos (starEach es X.env)).any (·.1) = false) :
    PE X (.Call (.Name x p) (e :: es) [] pos) (tMkV C sp ta) := by
  refine ⟨fun pins s σ H Q I h => wpAny_Call_Name_kw (ld_glob I hg hm ?_ hdb)⟩
  refine PySem.W.callWith_K (h₀ := X.base) I.ok.mod.kin T.kC (thn (ha.run pos pins s σ H _ I h) fun us s1 ⟨vs, H1, I1, r1, hz, q1⟩ => ⟨I1.kIn, ?_⟩) he hpl
  have l1 : vs.length = us.length := r1.length
  by_cases hn : ∃ a, H1 a = none
  · obtain ⟨a, hn⟩ := hn
    have l2 := F1.len _ _ _ _ (q1 a hn)
    refine run_oex (us := us) (kw := []) T iC tI F1 hr (fun s v Y => ?_) hx I1 r1 (by rw [sizeLine_eq]; omega) q1
    have b := hb s (v :: us) Y (by simp at l2 ⊢; omega)
    rw [List.append_nil] at b
    exact b
  · exact absurd ⟨s1.heap.objs.size, I1.hok.fresh (Nat.le_refl _)⟩ hn
/-- C(k = v, ..): all by name, in the order of the parameters -/
theorem pe_oexk {kws : List Keyword} {ta : TA} {p pos : Pos} {ks : List Str} (T : OexC X.K C) (iC : PySem.W.findIn X.K (.ref C) "__init__" = some (some (.ref fI))) (tI : PySem.W.typeIn X.K (.ref fI) = some (.type "function"))
    (F1 : FnOk X.prog X.w X.K X.mg X.base CX k fI fd ps sp) (hr : Room (k + 1) X.A) (hb : ∀ s v ws, X.K.In s.heap → ws.length = ks.length → BindsTo s fd ⟨[v], ks.zip ws⟩ (ps.zip (v :: ws))) (hp : ps.length = ks.length + 1) (hx : Passes CX X (fun _ _ _ => False)) (hg : Gl X x) (hm : X.mg x = some (.ref C))
    (hdb : (x == ("__debug__" : Str)) = false) (hk : PK X kws ta) (f1 : (backToKw pos (keywordEach kws X.env)).all (·.1.isSome) = true) (f2 : (backToKw pos (keywordEach kws X.env)).filterMap (·.1) = ks) (f3 : (backToKw pos (keywordEach kws X.env)).any (·.1.isNone) = false) :
    PE X (.Call (.Name x p) [] kws pos) (tMkV C sp ta) := by
  refine ⟨fun pins s σ H Q I h => wpAny_Call_Name_kw (ld_glob I hg hm ?_ hdb)⟩
  refine PySem.W.callWith_KW0 (h₀ := X.base) I.ok.mod.kin T.kC f1 (thn (hk.run pos pins s σ H _ I h) fun ws s1 ⟨vs, H1, I1, r1, hz, q1⟩ => ⟨I1.kIn, ?_⟩) (by rw [f3]; rfl)
  rw [f2]
  have l1 : vs.length = ws.length := r1.length
  have l2 := F1.len _ _ _ _ (q1 s1.heap.objs.size (I1.hok.fresh (Nat.le_refl _)))
  exact run_oex (us := []) (kw := ks.zip ws) T iC tI F1 hr (fun s v Y => hb s v ws Y (by simp at l2; omega)) hx I1 r1 (Nat.zero_le _) q1
end
/-! ### classes without an __init__ of their own -/
abbrev veT : List Value := [.type "ValueError", .type "Exception", .type "BaseException", .type "object"]
/-- what the written part says of such a class -/
structure OexZ (K : PySem.W.Frag) (C : Addr) : Prop where
  ex : PySem.W.excIn K C veT "ValueError.__new__" = true
  kp : PySem.W.keepIn K (.ref C) = true
  su : PySem.W.subIn K (.ref C) (.type "BaseException") = some true
  ty : PySem.W.typeIn K (.ref C) = some (.type "type")
section
variable {X : Cx} {x : Str} {C : Addr} {p pos : Pos}
/-- C() -/
theorem run_oex0 {pins : List (Addr × Obj)} {σ : L2.St} {H : Hp} {s : Shared} {Q : Value → Shared → Prop} {E : Value → Shared → Prop} (T : OexZ X.K C) (I : Inv X pins σ H s)
    (q : ∀ h' e, Heap.MadeExcOf s.heap h' e (.ref C) [] → Q (.ref e) { s with heap := h' }) : wpAny (model X.prog X.w) X.A (call (.ref C) []) Q E s := by
  obtain ⟨bm, N, nm, qn, bs, hdct, sn, sub, ab, col, dd, k0, k1, k2, k3, k5, mN, hC, hN, hni, tl⟩ := exc_obj I.kIn T.ex
  exact wpAny_call_exc_subT PySem.F.excBase_ValueError tl hC hN hni q (Nat.zero_le _)
theorem pe_oex0 (T : OexZ X.K C) (hg : Gl X x) (hm : X.mg x = some (.ref C)) (hdb : (x == ("__debug__" : Str)) = false) : PE X (.Call (.Name x p) [] [] pos) (fun _ H Q => ∀ a, H a = none → Q (.ref a) (upd H a (exo a C none))) := by
  refine ⟨fun pins s σ H Q I h => wpAny_Call_Name_kw (ld_glob I hg hm ?_ hdb)⟩
  refine PySem.W.callWith_K0 I.kIn T.kp (run_oex0 T I fun h' e m => ?_)
  obtain ⟨t, he, _, _⟩ := m.there
  have hn := I.hok.gone m.new
  exact ⟨.ref e, _, I.laidN (t' := s.toks) m.keeps m.new hn (exo_ok (t1 := t) he), rfl, h e hn⟩
theorem pmk_oex0 (T : OexZ X.K C) (hg : Gl X x) (hm : X.mg x = some (.ref C)) (hdb : (x == ("__debug__" : Str)) = false) : L2N.PMk X (.Call (.Name x p) [] [] pos) (fun _ H Q => Q (.ref C) none H) := by
  intro pins s σ H Q I h
  refine wpAny_Call_Name_kw (ld_glob I hg hm ?_ hdb)
  exact PySem.W.callWith_K0 I.kIn T.kp (run_oex0 T I fun h' e m => L2N.mk_of I m (raises_own T.su T.ty) h (I.hok.gone m.new))
end
/-- C(e, ..) to be raised, its context None -/
theorem pmkN_oex {X : Cx} {CX : CXT} {x : Str} {e : Expr} {es : List Expr} {ta : TA} {p pos : Pos} {C fI : Addr} {k : Nat} {fd : FuncData} {ps : List Str} {sp : Sp} (T : OexC X.K C) (iC : PySem.W.findIn X.K (.ref C) "__init__" = some (some (.ref fI))) (tI : PySem.W.typeIn X.K (.ref fI) = some (.type "function"))
    (F1 : FnOk X.prog X.w X.K X.mg X.base CX k fI fd ps sp) (hr : Room (k + 1) X.A) (hb : Binds X.K fd ps []) (hx : Passes CX X (fun _ _ _ => False)) (hg : Gl X x) (hm : X.mg x = some (.ref C)) (ha : PA X (e :: es) ta)
    (hdb : (x == ("__debug__" : Str)) = false) (he : starEach (e :: es) X.env = (false, eval e X.env) :: starEach es X.env) (hpl : (backTo pos (starEach es X.env)).any (·.1) = false) :
    L2N.PMk X (.Call (.Name x p) (e :: es) [] pos) (tMkO C sp [] ta) := by
  intro pins s σ H Q I h
  obtain ⟨nm, qn, N, bs, bm, sn, sub, ab, col, dd, k0, k1, k2, k3, k5, hC, hbm⟩ := T.cls
  refine wpAny_Call_Name_kw (ld_glob I hg hm ?_ hdb)
  refine PySem.W.callWith_K (h₀ := X.base) I.ok.mod.kin T.kC (thn (ha.run pos pins s σ H _ I h) fun us s1 ⟨vs, H1, I1, r1, hz, q1⟩ => ⟨I1.kIn, ?_⟩) he hpl
  show wpAny _ _ (call (.ref C) us) _ _ _
  obtain ⟨hp, g, dr, tk, os⟩ := s1
  have sz : hp.objs.size ≤ hp.objs.size + 1 := Nat.le_succ _
  have q2 := q1 (hp.objs.size + 1) (I1.hok.fresh sz)
  rw [List.append_nil] at q2
  have kk : ∀ b o, hp.get? b = some o → ((hp.push (PySem.W.kdv_tup us)).push (PySem.HandSPX.excO C hp.objs.size)).get? b = some o := fun b o z => Heap.get?_push_of_some _ (Heap.get?_push_of_some _ z)
  have y1 : ((hp.push (PySem.W.kdv_tup us)).push (PySem.HandSPX.excO C hp.objs.size)).get? (hp.objs.size + 1) = some (PySem.HandSPX.excO C hp.objs.size) := by heap_get
  have I2 : Inv X pins σ (upd H1 (hp.objs.size + 1) (exo (hp.objs.size + 1) C none)) ⟨(hp.push (PySem.W.kdv_tup us)).push (PySem.HandSPX.excO C hp.objs.size), g, dr, tk, os⟩ := I1.laid (t' := tk) kk sz (exo_ok y1)
  have r2 : Vals (V.ref (hp.objs.size + 1) :: vs) (Value.ref (hp.objs.size + 1) :: us) := .cons rfl r1
  have l2 := F1.len _ _ _ _ q2
  have l1 : vs.length = us.length := r1.length
  have b2 := hb _ (Value.ref (hp.objs.size + 1) :: us) I2.kIn (by simp at l2 ⊢; omega)
  rw [List.append_nil] at b2
  refine wpAny_call (PySem.HandSPX.call_own F.excBase_ValueError (fun Y => PySem.HandSPX.refsVE_contains Y bm hbm) (I1.kIn _ _ hC) (PySem.W.looks_findIn I1.kIn iC) (fun v => PySem.W.bind_fn I1.kIn v tI) (by rw [sizeLine_eq]; omega)
    (codeAny_mono (F1.run _ X.stack _ _ ⟨Value.ref (hp.objs.size + 1) :: us, []⟩ (Value.ref (hp.objs.size + 1) :: us) _ _ (fun _ _ _ => False) (hr.make C us []) (I2.env0.make C us []) b2 r2 q2) fun r s' y => ?_))
  cases r with
  | error er => exact hx pins σ _ _ er s' I2 y
  | ok fl =>
    cases fl with
    | ret u =>
      obtain ⟨v, H2, os2, bare2, un2, hok2, rv, ev, d, fs, ea, ed, hd1, q3⟩ := y
      subst ev
      obtain ⟨h2, g2, d2, t2, os'⟩ := s'
      obtain ⟨t0, G, J, kG, ge, hoe, na⟩ := mk_end0 (d2 := d2) (t2 := t2) I1 sz kk un2 hok2 os2 bare2 ea ed hd1
      exact ⟨rv, ⟨hp.objs.size + 1, _, _, ⟨G, g2, d2, t2, os'⟩, _, .ref C, some d, rfl, J, kG, ge, hoe, ⟨rfl, rfl, fun vs z => by cases z; rfl⟩, rfl, rfl, na, rfl, bare2, raises_own T.exC T.tyC, q3⟩⟩
    | next => exact y.elim
    | brk => exact y.elim
    | cont => exact y.elim
/-! ### asked for their class and their fields -/
section
variable {X : Cx} {a D : Addr}
def dictAt (h : Heap) : Option Addr → Option Obj → Prop
  | some dx, some o => h.get? dx = some o
  | none, none => True
  | _, _ => False
theorem inst_at {h : Heap} {oe : Obj} {od : Option Addr} {oD : Option Obj} (hg : h.get? a = some oe) (hz : Zc (.ref D) od oe) (hf : ∃ vs, oe.data = .fields vs) (hd : dictAt h od oD) : PySem.W.InstAt h a oe D oD := by
  obtain ⟨vs, hf⟩ := hf
  obtain ⟨h1, h2⟩ := hz
  refine ⟨hg, h1, by unfold PySem.W.notCls; rw [hf] <;> rfl, ?_⟩
  rw [h2]
  cases od <;> cases oD <;> exact hd
theorem clsIn_of {K : PySem.W.Frag} {D : Addr} (h : PySem.W.hasDictIn K D = true) : (PySem.W.clsIn K D).isSome = true := by
  obtain ⟨cd, e, _⟩ := PySem.W.any_some h
  rw [e]
  rfl
/-- an exception as the heap has it, seen by isinstance and by attributes -/
def SeenX (X : Cx) (D : Addr) (a : Addr) (pins : List (Addr × Obj)) (H : Hp) (s : Shared) (od : Option Addr) : Prop := ∃ (oe : Obj) (oD : Option Obj), PySem.W.InstAt s.heap a oe D oD ∧ (od.isSome = oD.isSome) ∧ ∀ dx, od = some dx → ∃ o, oD = some o ∧ s.heap.get? dx = some o
theorem seen_exo {pins : List (Addr × Obj)} {σ : L2.St} {H : Hp} {s : Shared} {od : Option Addr} (I : Inv X pins σ H s) (h : H a = some (exo a D od)) (hd : ∀ dx, od = some dx → ∃ fs, H dx = some (exd dx fs)) : SeenX X D a pins H s od := by
  obtain ⟨t, e⟩ := exo_at I.hok h
  cases od with
  | none => exact ⟨_, none, inst_at e ⟨rfl, rfl⟩ ⟨_, rfl⟩ trivial, rfl, fun _ z => by cases z⟩
  | some dx =>
    obtain ⟨fs, hd⟩ := hd dx rfl
    obtain ⟨mA, ⟨o, _, _, ho, _⟩, _⟩ := exd_at I.hok hd
    exact ⟨_, some o, inst_at e ⟨rfl, rfl⟩ ⟨_, rfl⟩ ho, rfl, fun _ z => by cases z; exact ⟨o, rfl, ho⟩⟩
theorem seen_pin {pins : List (Addr × Obj)} {σ : L2.St} {H : Hp} {s : Shared} {od : Option Addr} {oe : Obj} (I : Inv X pins σ H s) (hp : (a, oe) ∈ X.pn) (hz : Zc (.ref D) od oe) (hf : ∃ vs, oe.data = .fields vs) (hd : ∀ dx, od = some dx → ∃ fs, H dx = some (.xd fs)) : SeenX X D a pins H s od := by
  have e := (I.pin (a, oe) (List.mem_append_left _ hp)).1
  cases od with
  | none => exact ⟨_, none, inst_at e hz hf trivial, rfl, fun _ z => by cases z⟩
  | some dx =>
    obtain ⟨fs, hd⟩ := hd dx rfl
    have hx : ObjOk X.prog X.w H s.heap dx (.xd fs) := I.hok dx _ hd
    obtain ⟨mA, ⟨o, _, _, ho, _⟩, _⟩ := hx
    exact ⟨_, some o, inst_at e hz hf ho, rfl, fun _ z => by cases z; exact ⟨o, rfl, ho⟩⟩
/-- isinstance(e, c) -/
theorem call_seen (E : ExcC X.K D) : CallR X (.builtin "isinstance") (fun xs H Q => ∃ (a : Addr) (c : V) (cv : Value) (b : Bool) (od : Option Addr), xs = [.ref a, c] ∧ (∀ u, RelV c u → u = cv) ∧ PySem.W.kitOne X.K (.ref D) cv = some b ∧ (∀ pins σ s, Inv X pins σ H s → SeenX X D a pins H s od) ∧ Q (.bl b) H) := by
  intro pins s σ H xs us Q I r h
  obtain ⟨a, c, cv, b, od, rfl, hc, e, hs, q⟩ := h
  obtain ⟨u1, u2, rfl, r1, r2⟩ := vals2 r
  cases r1
  have ec := hc _ r2
  subst ec
  obtain ⟨oe, oD, J, _⟩ := hs pins σ s I
  exact PySem.W.kia_one (PySem.W.kitx_exc (clsIn_of E.hd) E.hg E.hk E.hs E.ha E.hn E.ht E.hm) I.kIn J e (fun z => nomatch z) fun tk => ⟨.bl b, H, I.tok tk, rfl, q⟩
/-- a tracked one's field -/
theorem pe_xfT {e : Expr} {te : TE} {pos : Pos} {n : Str} (he : PE X e te) (hb : attributeBase e n X.env (eval e X.env) = eval e X.env) :
    PE X (.Attribute e n pos) (fun σ H Q => te σ H fun x H1 => ∃ (a C dx : Addr) (fs : List (Str × V)) (v : V), x = .ref a ∧ XfC X.K C ∧ PySem.W.findIn X.K (.ref C) n = some none ∧ H1 a = some (exo a C (some dx)) ∧ H1 dx = some (exd dx fs) ∧ fs.lookup n = some v ∧ Q v H1) := by
  refine ⟨fun pins s σ H Q I h => attr_of hb (thn (he.run pins s σ H _ I h) fun u s1 hh => ?_)⟩
  obtain ⟨x, H1, I1, rx, a, C, dx, fs, v, rfl, T, hno, ha, hd, l, q⟩ := hh
  obtain rfl : u = Value.ref a := rx
  obtain ⟨t, e1⟩ := exo_at I1.hok ha
  obtain ⟨mA, hns, hr⟩ := exd_at I1.hok hd
  obtain ⟨od, ho, hl⟩ := lookIn_ns hns
  obtain ⟨u, hu, ru⟩ := RelO.some_of (v := v) (o := mA n) (by rw [← l]; exact hr n)
  exact HandSPX.exc_get I1.kIn (inst_at (D := C) (oD := some od) e1 ⟨rfl, rfl⟩ ⟨_, rfl⟩ ho) T.ga T.gg T.exC (PySem.W.findObj_own T.hdC hno rfl (by rw [hl, hu])) (handed_of ru) ⟨v, H1, I1.tok _, ru, q⟩
end
end Rf

/-! A small language over plain data with a store, and its evaluator (no model in sight). -/
namespace Rf
/-- the longest list -/
def SL : Nat := 16777216
abbrev Ky := Sum Int (List Nat)
instance : DecidableEq Ky := inferInstanceAs (DecidableEq (Sum Int (List Nat)))
/-- data: texts by code points; lst, dct: never written any more; frz: the script; ref: what stands in the store -/
inductive D where
  | non | bl (b : Bool) | int (i : Int) | str (s : List Nat)
  | tup (ds : List D) | lst (ds : List D) | frz (ds : List D) | dct (ks : List Ky) (vs : List D)
  | ref (n : Nat) | fn (f : Nat) | met (n f : Nat) | exc (c : Nat) (ds : List D) | exv (c : Nat) (ds : List D)
  deriving Inhabited
mutual
/-- no reference into the store within -/
def plain : D → Bool
  | .non | .bl _ | .int _ | .str _ | .fn _ => true
  | .tup ds | .lst ds | .dct _ ds | .exv _ ds => plains ds
  | .frz _ | .ref _ | .met _ _ | .exc _ _ => false
def plains : List D → Bool
  | [] => true
  | d :: ds => plain d && plains ds
end
mutual
/-- the same data -/
def sameD : D → D → Bool
  | .non, .non => true
  | .bl a, .bl b => decide (a = b)
  | .int a, .int b => decide (a = b)
  | .str a, .str b => decide (a = b)
  | .tup a, .tup b => sameDs a b
  | .lst a, .lst b => sameDs a b
  | .frz a, .frz b => sameDs a b
  | .dct k a, .dct l b => decide (k = l) && sameDs a b
  | .fn a, .fn b => decide (a = b)
  | _, _ => false
def sameDs : List D → List D → Bool
  | [], [] => true
  | x :: xs, y :: ys => sameD x y && sameDs xs ys
  | _, _ => false
end
mutual
theorem sameD_ok : ∀ {x y : D}, sameD x y = true → x = y
  | .non, y, h => by cases y <;> first | rfl | cases h
  | .bl _, y, h => by cases y <;> first | (rw [of_decide_eq_true h]) | cases h
  | .int _, y, h => by cases y <;> first | (rw [of_decide_eq_true h]) | cases h
  | .str _, y, h => by cases y <;> first | (rw [of_decide_eq_true h]) | cases h
  | .fn _, y, h => by cases y <;> first | (rw [of_decide_eq_true h]) | cases h
  | .tup _, y, h => by cases y <;> first | (rw [sameDs_ok h]) | cases h
  | .lst _, y, h => by cases y <;> first | (rw [sameDs_ok h]) | cases h
  | .frz _, y, h => by cases y <;> first | (rw [sameDs_ok h]) | cases h
  | .dct k a, y, h => by
    cases y with
    | dct l b =>
      have h' : (decide (k = l) && sameDs a b) = true := h
      obtain ⟨h1, h2⟩ := Bool.and_eq_true_iff.mp h'
      rw [of_decide_eq_true h1, sameDs_ok h2]
    | _ => cases h
  | .ref _, y, h => by cases y <;> cases h
  | .met _ _, y, h => by cases y <;> cases h
  | .exc _ _, y, h => by cases y <;> cases h
  | .exv _ _, y, h => by cases y <;> cases h
theorem sameDs_ok : ∀ {x y : List D}, sameDs x y = true → x = y
  | [], y, h => by cases y <;> first | rfl | cases h
  | a :: as, y, h => by
    cases y with
    | nil => cases h
    | cons b bs =>
      have h' : (sameD a b && sameDs as bs) = true := h
      obtain ⟨h1, h2⟩ := Bool.and_eq_true_iff.mp h'
      rw [sameD_ok h1, sameDs_ok h2]
end
inductive Ob where
  | lst (ds : List D) | dct (ks : List Ky) (vs : List D) | ins (c : Nat) (fs : List (Nat × D)) | dead
  deriving Inhabited
abbrev Sto := List Ob
abbrev En := List (Option D)
inductive R (α : Type) where
  | ok (a : α) (st : Sto) | exc (d : D) (st : Sto) | bad
def R.bind {α β : Type} (r : R α) (f : α → Sto → R β) : R β := match r with
  | .ok a st => f a st
  | .exc d st => .exc d st
  | .bad => .bad
/-- what may or may not be -/
def opt {α : Type} (o : Option α) (st : Sto) : R α := match o with
  | some a => .ok a st
  | none => .bad
/-- how a statement ends -/
inductive Fl where
  | nx (ρ : En) (st : Sto) | ret (d : D) (st : Sto) | brk (ρ : En) (st : Sto) | cnt (ρ : En) (st : Sto) | exc (d : D) (ρ : En) (st : Sto) | bad

/-! ### the language -/
inductive Op where
  | add | sub | mul | fdiv | mod | pow
  deriving DecidableEq
inductive Cm where
  | eq | ne | lt | le | gt | ge | isIn | notIn | isN | notN
  deriving DecidableEq
/-- built-in functions of one list of arguments -/
inductive Bi where
  | len | abs | sum | all | any | max1 | max2 | min2 | sorted | tuple | list | dict | int | str | bool | divmod
  deriving DecidableEq
/-- methods of built-in types -/
inductive Mt where
  | get1 | get2 | join | split1 | append | extend | pop0 | pop1 | dpop2 | startswith | strip | upper | items
  deriving DecidableEq
/-- kinds asked by isinstance -/
inductive Ki where
  | int | bool | str | tuple | list | dict
  deriving DecidableEq
/-- targets of names -/
inductive Tn where
  | nm (i : Nat)
  | tup (ts : List Nat)
  deriving DecidableEq
mutual
inductive E where
  | bad
  | cst (d : D)
  | var (i : Nat)
  | glc (x : String) (d : D)
  | glf (f : Nat)
  | bin (op : Op) (bx : Bool) (a b : E)
  | neg (a : E)
  | land (a b : E)
  | lor (a b : E)
  | lnot (a : E)
  | ife (c a b : E)
  | cmp (op : Cm) (a b : E)
  | chain (op op' : Cm) (a b c : E)
  | tup (es : List E)
  | lst (bx : Bool) (es : List E)
  | dct (bx : Bool) (ks vs : List E)
  | sub (a i : E)
  | slc (bx : Bool) (a : E) (lo hi : Option E)
  | fld (a : E) (f : Nat)
  /-- a field of the exception that stands in slot i: for each class its place -/
  | xf (i : Nat) (tbl : List (Nat × Nat))
  /-- an own exception made, by position, by name -/
  | mkx (c : Nat) (es : List E)
  | mkxk (c : Nat) (es : List E)
  /-- isinstance of the exception that stands in slot i, of the class h -/
  | isx (i h : Nat) (cs ns : List Nat)
  /-- a call with the handled exception first -/
  | callx (sc : Bool) (f i : Nat) (es : List E)
  | call (sc : Bool) (f : Nat) (es : List E)
  | callv (sc : Bool) (i : Nat) (es : List E)
  | callk (sc : Bool) (f : Nat) (perm : List Nat) (es ks : List E)
  | meth (sc : Bool) (o : E) (f : Nat) (es : List E)
  | mk (c f : Nat) (es : List E)
  | bi (b : Bi) (bx : Bool) (es : List E)
  | mt (m : Mt) (bx : Bool) (o : E) (es : List E)
  | maxd (e : E) (i : Int)
  | isi (ks : List Ki) (e : E)
  | comp (bx : Bool) (own : List Nat) (t : Tn) (it : I) (c : Option E) (e : E)
  | comp2 (bx : Bool) (own own2 : List Nat) (t : Tn) (it : I) (c : Option E) (t2 : Tn) (it2 : I) (c2 : Option E) (e : E)
/-- what is walked -/
inductive I where
  | val (e : E)
  | keys (i : Nat)
  | rng1 (a : E)
  | rng2 (a b : E)
  | enu (e : E)
  | enul (e : E)
  | zip (a b : E)
  | items (e : E)
end
/-- targets of assignments -/
inductive Tg where
  | nm (i : Nat)
  | tup (ts : List Tg)
  | sub (o i : E)
  | fld (o : E) (f : Nat)
mutual
inductive S where
  | asg (t : Tg) (e : E)
  | par (is : List Nat) (es : List E)
  | expr (e : E)
  | ret (e : E)
  | retN
  | ife (c : E) (a b : List S)
  | forS (t : Tn) (it : I) (b : List S)
  | forK (t : Tn) (i : Nat) (b : List S)
  | whl (c : E) (b : List S)
  | brk
  | cnt
  | pass
  | raise (c : Nat) (es : List E)
  | tryS (b : List S) (hs : List Hd)
  | del (o i : E)
  | freeze (i : Nat)
  /-- what the dict in slot i has at a key is never written any more -/
  | freezeK (i : Nat) (k : Ky)
  | never
/-- except class h, which the classes cs are of, the classes ns are not, as the name i -/
inductive Hd where
  | mk (h : Nat) (cs ns : List Nat) (i : Option Nat) (b : List S)
end

/-! ### values -/
/-- what a value is to a reader: an object of the store is looked up -/
def vw (st : Sto) : D → D
  | .ref n => match st[n]? with
    | some (.lst ds) => .lst ds
    | some (.dct ks vs) => .dct ks vs
    | _ => .ref n
  | d => d
def mkL (bx : Bool) (ds : List D) (st : Sto) : R D := if ds.length ≤ SL then (if bx then .ok (.ref st.length) (st ++ [.lst ds]) else .ok (.lst ds) st) else .bad
def mkT (ds : List D) (st : Sto) : R D := if ds.length ≤ SL then .ok (.tup ds) st else .bad
def mkD (bx : Bool) (ks : List Ky) (vs : List D) (st : Sto) : R D := if ks.length ≤ SL then (if bx then .ok (.ref st.length) (st ++ [.dct ks vs]) else .ok (.dct ks vs) st) else .bad
/-- the size of a product's factors -/
def mulOk (i j : Int) : Bool := decide (i.natAbs.log2 + j.natAbs.log2 < 1000000)
def divOk (j : Int) : Bool := decide (0 < j) && decide (j.natAbs.log2 < 9000)
def powOk (i j : Int) : Bool := decide (0 ≤ j) && (decide (j ≤ 1000000) && decide (i.natAbs.log2 < 64))
/-- so many times -/
def repOk (n : Nat) (k : Int) : Bool := decide (n * k.toNat ≤ SL) && (decide (-(2 ^ 40) < k) && decide (k < 2 ^ 40))
def repL {α : Type} (k : Int) (a : List α) : List α := (List.replicate k.toNat a).flatten
def binR (op : Op) (bx : Bool) (x y : D) (st : Sto) : R D := match op, x, y with
  | .add, .int i, .int j => .ok (.int (i + j)) st
  | .add, .str a, .str b => if a.length + b.length ≤ SL then .ok (.str (a ++ b)) st else .bad
  | .add, .lst a, .lst b => mkL bx (a ++ b) st
  | .add, .tup a, .tup b => mkT (a ++ b) st
  | .sub, .int i, .int j => .ok (.int (i - j)) st
  | .mul, .int i, .int j => if mulOk i j then .ok (.int (i * j)) st else .bad
  | .mul, .str a, .int k => if repOk a.length k then .ok (.str (repL k a)) st else .bad
  | .mul, .lst a, .int k => if repOk a.length k then mkL bx (repL k a) st else .bad
  | .fdiv, .int i, .int j => if divOk j then .ok (.int (i / j)) st else .bad
  | .mod, .int i, .int j => if decide (0 < j) then .ok (.int (i % j)) st else .bad
  | .pow, .int i, .int j => if powOk i j then .ok (.int (i ^ j.toNat)) st else .bad
  | _, _, _ => .bad
def truth : D → Option Bool
  | .non => some false
  | .bl b => some b
  | .int i => some (i != 0)
  | .str s => if s.length ≤ SL then some (s.length != 0) else none
  | .tup ds => some (!ds.isEmpty)
  | .lst ds => some (!ds.isEmpty)
  | .dct ks _ => some (!ks.isEmpty)
  | _ => none
mutual
/-- == of data as Python has it -/
def eqv : D → D → Bool
  | .non, .non => true
  | .bl a, .bl b => a == b
  | .bl a, .int j => (if a then 1 else 0) == j
  | .int i, .bl b => i == (if b then 1 else 0)
  | .int i, .int j => i == j
  | .str x, .str y => x == y
  | .lst xs, .lst ys => eqvs xs ys
  | .tup xs, .tup ys => eqvs xs ys
  | _, _ => false
def eqvs : List D → List D → Bool
  | [], [] => true
  | x :: xs, y :: ys => eqv x y && eqvs xs ys
  | _, _ => false
end
mutual
/-- data to be compared: none, truths, numbers, texts, lists and tuples of these, not too deep -/
def pd : Nat → D → Bool
  | _, .non | _, .bl _ | _, .int _ => true
  | _, .str s => s.all fun c => decide (c < 1114112)
  | n, .tup ds | n, .lst ds => (match n with
    | 0 => false
    | m + 1 => pds m ds)
  | _, _ => false
def pds : Nat → List D → Bool
  | _, [] => true
  | n, d :: ds => pd n d && pds n ds
end
/-- none, truths, numbers, texts -/
def sc : D → Bool
  | .non | .bl _ | .int _ | .str _ => true
  | _ => false
/-- scalars that == tells apart as data -/
def sc2 : D → D → Bool
  | .bl _, .int _ | .int _, .bl _ => false
  | x, y => sc x && sc y
def eqD (x y : D) : Option Bool := if sc2 x y then some (eqv x y) else if pd 60 x && pd 60 y then some (eqv x y) else none
def keyOf : D → Option Ky
  | .int i => some (.inl i)
  | .str s => some (.inr s)
  | _ => none
def ofKey : Ky → D
  | .inl i => .int i
  | .inr s => .str s
def ixN (n : Nat) (i : Int) : Option Nat := if 0 ≤ i then (if i < n then some i.toNat else none) else if -(n : Int) ≤ i then some (i + n).toNat else none
def atI {α : Type} (xs : List α) (i : Int) : Option α := (ixN xs.length i).bind fun j => xs[j]?
def dGet : List Ky → List D → Ky → Option D
  | k :: ks, v :: vs, x => if k = x then some v else dGet ks vs x
  | _, _, _ => none
def hasK (ks : List Ky) (k : Ky) : Bool := ks.any fun j => decide (j = k)
def putVs : List Ky → List D → Ky → D → List D
  | j :: ks, v :: vs, k, d => (if j = k then d else v) :: putVs ks vs k d
  | _, _, _, _ => []
def dPut (ks : List Ky) (vs : List D) (k : Ky) (d : D) : List Ky × List D := if hasK ks k then (ks, putVs ks vs k d) else (ks ++ [k], vs ++ [d])
def dDel : List Ky → List D → Ky → List Ky × List D
  | j :: ks, v :: vs, k => let r := dDel ks vs k; if j = k then r else (j :: r.1, v :: r.2)
  | _, _, _ => ([], [])
/-- the members of what may be searched -/
def inD (x : D) : D → Option Bool
  | .str z => (match x with
    | .str [c] => some (decide (c ∈ z))
    | _ => none)
  | .tup ys => if sc x && ys.all sc then some (ys.any fun y => eqv y x) else none
  | .lst ys => if sc x && ys.all sc then some (ys.any fun y => eqv y x) else if pd 60 x && pds 60 ys then some (ys.any fun y => eqv y x) else none
  | .dct ks _ => (keyOf x).map fun k => hasK ks k
  | _ => none
def isNon : D → Bool
  | .non => true
  | _ => false
def cmpD (op : Cm) (x y : D) : Option Bool := match op with
  | .eq => eqD x y
  | .ne => (eqD x y).map (!·)
  | .isIn => inD x y
  | .notIn => (inD x y).map (!·)
  | .isN => (match y with
    | .non => some (isNon x)
    | _ => none)
  | .notN => (match y with
    | .non => some (!isNon x)
    | _ => none)
  | .lt => (match x, y with | .int i, .int j => some (decide (i < j)) | _, _ => none)
  | .le => (match x, y with | .int i, .int j => some (decide (i ≤ j)) | _, _ => none)
  | .gt => (match x, y with | .int i, .int j => some (decide (j < i)) | _, _ => none)
  | .ge => (match x, y with | .int i, .int j => some (decide (j ≤ i)) | _, _ => none)
/-- x[i] -/
def subD : D → D → Option D
  | .lst ds, .int i => atI ds i
  | .tup ds, .int i => atI ds i
  | .frz ds, .int i => atI ds i
  | .str s, .int i => if s.length ≤ SL then (atI s i).map fun c => .str [c] else none
  | .dct ks vs, x => (keyOf x).bind fun k => dGet ks vs k
  | _, _ => none
/-- the ends of a slice -/
def sIx (n dflt : Nat) : Option Int → Nat
  | none => dflt
  | some i => if 0 ≤ i then min i.toNat n else (i + n).toNat
def cutL {α : Type} (xs : List α) (lo hi : Option Int) : List α := (xs.drop (sIx xs.length 0 lo)).take (sIx xs.length xs.length hi - sIx xs.length 0 lo)
def slcR (bx : Bool) (x : D) (lo hi : Option Int) (st : Sto) : R D := match x with
  | .lst ds => mkL bx (cutL ds lo hi) st
  | .frz ds => mkL bx (cutL ds lo hi) st
  | .tup ds => .ok (.tup (cutL ds lo hi)) st
  | .str s => if s.length ≤ SL then .ok (.str (cutL s lo hi)) st else .bad
  | _ => .bad
def intsOf : List D → Option (List Int)
  | [] => some []
  | .int i :: ds => (intsOf ds).map (i :: ·)
  | _ :: _ => none
def boolsOf : List D → Option (List Bool)
  | [] => some []
  | .bl b :: ds => (boolsOf ds).map (b :: ·)
  | _ :: _ => none
def strsOf : List D → Option (List (List Nat))
  | [] => some []
  | .str s :: ds => (strsOf ds).map (s :: ·)
  | _ :: _ => none
def maxL : List Int → Option Int
  | [] => none
  | x :: xs => some (xs.foldl max x)
def insI (x : Int) : List Int → List Int
  | [] => [x]
  | y :: ys => if x ≤ y then x :: y :: ys else y :: insI x ys
def sortI : List Int → List Int
  | [] => []
  | x :: xs => insI x (sortI xs)
def keyInts : List Ky → Option (List Int)
  | [] => some []
  | .inl i :: ks => (keyInts ks).map (i :: ·)
  | _ :: _ => none
def isNat10 (s : List Nat) : Bool := !s.isEmpty && s.all fun c => decide (48 ≤ c) && decide (c ≤ 57)
def natOf (s : List Nat) : Nat := s.foldl (fun n c => n * 10 + (c - 48)) 0
def digI (i : Int) : List Nat := (toString i).toList.map fun c => c.toNat
def lenD : D → Option Int
  | .str s => if s.length ≤ SL then some s.length else none
  | .lst ds | .tup ds | .frz ds => some ds.length
  | .dct ks _ => some ks.length
  | _ => none
/-- a built-in function of values that are seen through -/
def biR (b : Bi) (bx : Bool) (xs : List D) (st : Sto) : R D := match b, xs with
  | .len, [x] => (opt (lenD x) st).bind fun n st => .ok (.int n) st
  | .abs, [.int i] => .ok (.int (if i < 0 then -i else i)) st
  | .sum, [.lst ds] => (opt (intsOf ds) st).bind fun ns st => .ok (.int ns.sum) st
  | .all, [.lst ds] => (opt (boolsOf ds) st).bind fun bs st => .ok (.bl (bs.all id)) st
  | .any, [.lst ds] => (opt (boolsOf ds) st).bind fun bs st => .ok (.bl (bs.any id)) st
  | .max1, [.lst ds] => (opt ((intsOf ds).bind maxL) st).bind fun n st => .ok (.int n) st
  | .max2, [.int i, .int j] => .ok (.int (if j > i then j else i)) st
  | .min2, [.int i, .int j] => .ok (.int (if j < i then j else i)) st
  | .sorted, [.lst ds] => (opt (intsOf ds) st).bind fun ns st => mkL bx ((sortI ns).map .int) st
  | .sorted, [.dct ks _] => (opt (keyInts ks) st).bind fun ns st => if ns.length < 64 then mkL bx ((sortI ns).map .int) st else .bad
  | .tuple, [.lst ds] => .ok (.tup ds) st
  | .tuple, [.tup ds] => .ok (.tup ds) st
  | .list, [.lst ds] => mkL bx ds st
  | .list, [.tup ds] => mkL bx ds st
  | .list, [.dct ks _] => mkL bx (ks.map ofKey) st
  | .dict, [.dct ks vs] => mkD bx ks vs st
  | .int, [.int i] => .ok (.int i) st
  | .int, [.bl b] => .ok (.int (if b then 1 else 0)) st
  | .int, [.str s] => if isNat10 s && decide (s.length ≤ 600) then .ok (.int (natOf s)) st else .bad
  | .str, [.int i] => if decide (i.natAbs.log2 < 1920) then .ok (.str (digI i)) st else .bad
  | .divmod, [.int i, .int j] => if divOk j then .ok (.tup [.int (i / j), .int (i % j)]) st else .bad
  | _, _ => .bad
def joinL (sep : List Nat) : List (List Nat) → List Nat
  | [] => []
  | [s] => s
  | s :: r => s ++ sep ++ joinL sep r
/-- the parts between a sign -/
def splL (c : Nat) : List Nat → List (List Nat)
  | [] => [[]]
  | x :: s => if x = c then [] :: splL c s else (match splL c s with
    | [] => [[x]]
    | p :: r => (x :: p) :: r)
/-- may d be written into the object n? -/
def wOk (base n : Nat) (d : D) : Bool := decide (base ≤ n) || plain d
/-- the kind of a method's receiver -/
def mtTy (m : Mt) (d : D) : Option Unit := match m, d with
  | .append, .lst _ | .extend, .lst _ | .pop0, .lst _ | .pop1, .lst _ => some ()
  | .get1, .dct _ _ | .get2, .dct _ _ | .dpop2, .dct _ _ | .items, .dct _ _ => some ()
  | .join, .str _ | .split1, .str _ | .startswith, .str _ | .strip, .str _ | .upper, .str _ => some ()
  | _, _ => none
/-- a method of a built-in type; o as it is -/
def mtR (m : Mt) (bx : Bool) (base : Nat) (o : D) (xs : List D) (st : Sto) : R D := match m, o, xs with
  | .append, .ref n, [x] => (match st[n]? with
    | some (.lst ds) => if wOk base n x && decide (ds.length < SL) then .ok .non (st.set n (.lst (ds ++ [x]))) else .bad
    | _ => .bad)
  | .pop0, .ref n, [] => (match st[n]? with
    | some (.lst ds) => (match ds[ds.length - 1]? with
      | some d => .ok d (st.set n (.lst ds.dropLast))
      | none => .bad)
    | _ => .bad)
  | .pop1, .ref n, [.int i] => if decide (i < 2 ^ 40) && decide (-(2 ^ 40) < i) then (match st[n]? with
    | some (.lst ds) => (match ixN ds.length i with
      | some j => (match ds[j]? with
        | some d => .ok d (st.set n (.lst (ds.eraseIdx j)))
        | none => .bad)
      | none => .bad)
    | _ => .bad) else .bad
  | .extend, .ref n, [x] => (match st[n]? with
    | some (.lst ds) => (match vw st x with
      | .lst es => if (decide (base ≤ n) || plains es) && decide (ds.length + es.length ≤ SL) then .ok .non (st.set n (.lst (ds ++ es))) else .bad
      | _ => .bad)
    | _ => .bad)
  | .split1, .str s, [.str [c]] => if decide (c < 256) && decide (s.length + 2 ≤ SL) then mkL bx ((splL c s).map .str) st else .bad
  | .join, .str sep, [x] => (match vw st x with
    | .lst ds => (opt (strsOf ds) st).bind fun ss st => if (ss.map List.length).sum + ss.length * sep.length ≤ SL then .ok (.str (joinL sep ss)) st else .bad
    | _ => .bad)
  | .startswith, .str s, [.str p] => .ok (.bl (p.isPrefixOf s)) st
  | .get2, o, [k, d] => (match vw st o with
    | .dct ks vs => (opt (keyOf k) st).bind fun k st => .ok ((dGet ks vs k).getD d) st
    | _ => .bad)
  | .get1, o, [k] => (match vw st o with
    | .dct ks vs => (opt (keyOf k) st).bind fun k st => .ok ((dGet ks vs k).getD .non) st
    | _ => .bad)
  | _, _, _ => .bad
def isKi (x : D) : Ki → Option Bool
  | .int => (match x with | .int _ => some true | .bl _ => some true | .non | .str _ | .tup _ | .lst _ | .frz _ | .dct _ _ => some false | _ => none)
  | .bool => (match x with | .bl _ => some true | .int _ | .non | .str _ | .tup _ | .lst _ | .frz _ | .dct _ _ => some false | _ => none)
  | .str => (match x with | .str _ => some true | .int _ | .bl _ | .non | .tup _ | .lst _ | .frz _ | .dct _ _ => some false | _ => none)
  | .tuple => (match x with | .tup _ => some true | .int _ | .bl _ | .non | .str _ | .lst _ | .frz _ | .dct _ _ => some false | _ => none)
  | .list => (match x with | .lst _ | .frz _ => some true | .int _ | .bl _ | .non | .str _ | .tup _ | .dct _ _ => some false | _ => none)
  | .dict => (match x with | .dct _ _ => some true | .int _ | .bl _ | .non | .str _ | .tup _ | .lst _ | .frz _ => some false | _ => none)

/-- of a class or not -/
def isxB (c : Nat) (cs ns : List Nat) : Option D := if c ∈ cs then some (.bl true) else if c ∈ ns then some (.bl false) else none
/-- the numbers of a range -/
def rng1L : D → Option (List D)
  | .int n => if decide (n < 2 ^ 40) && decide (-(2 ^ 40) < n) then some ((List.range n.toNat).map fun (i : Nat) => .int (i : Int)) else none
  | _ => none
def rng2L : D → D → Option (List D)
  | .int a, .int b => if decide (b < 2 ^ 40) && (decide (-(2 ^ 40) < b) && (decide (a < 2 ^ 40) && decide (-(2 ^ 40) < a))) then some ((List.range (b - a).toNat).map fun (i : Nat) => .int (a + (i : Int))) else none
  | _, _ => none
def asB : D → Option Bool
  | .bl b => some b
  | _ => none
/-! ### the walk of loops -/
def isExc : D → Bool
  | .exc _ _ => true
  | _ => false
def getV (ρ : En) (i : Nat) : Option D := match ρ[i]? with
  | some (some d) => if isExc d then none else some d
  | _ => none
/-- no exception stands in a slot -/
def noX (ρ : En) : Bool := ρ.all fun o => match o with
  | some d => !isExc d
  | none => true
/-- the name of a clause is set, is gone -/
def hOn (i : Option Nat) (c : Nat) (ds : List D) (ρ : En) : Option En := match i with
  | none => some ρ
  | some i => if i < ρ.length then some (ρ.set i (some (.exc c ds))) else none
def offS (i : Option Nat) (ρ : En) : En := match i with
  | none => ρ
  | some i => ρ.set i none
def enuL (ds : List D) : List D := ds.mapIdx fun i d => .tup [.int i, d]
def putN (t : Tn) (d : D) (ρ : En) : Option En := match t with
  | .nm i => if i < ρ.length then some (ρ.set i (some d)) else none
  | .tup ts => (match d with
    | .tup ds => if ts.length = ds.length ∧ (∀ i ∈ ts, i < ρ.length) then some ((ts.zip ds).foldl (fun ρ p => ρ.set p.1 (some p.2)) ρ) else none
    | _ => none)
def wipeE (ρ : En) : List Nat → En
  | [] => ρ
  | v :: vs => (wipeE ρ vs).set v none
/-- the turns of a comprehension; f: none where a test says no -/
def compD (f : D → Sto → R (Option D)) (keep : Sto → Bool) : List D → Sto → R (List D)
  | [], st => if keep st then .ok [] st else .bad
  | x :: xs, st => if keep st then (match f x st with
    | .ok y st => (match compD f keep xs st with
      | .ok ys st => .ok (match y with | some y => y :: ys | none => ys) st
      | _ => .bad)
    | _ => .bad) else .bad
/-- the turns of the first of two clauses; f: what the second makes -/
def compDD (f : D → Sto → R (List D)) (keep : Sto → Bool) : List D → Sto → R (List D)
  | [], st => if keep st then .ok [] st else .bad
  | x :: xs, st => if keep st then (match f x st with
    | .ok y st => (match compDD f keep xs st with
      | .ok ys st => .ok (y ++ ys) st
      | _ => .bad)
    | _ => .bad) else .bad
def forD (f : D → En → Sto → Fl) (keep : Sto → Bool) : List D → En → Sto → Fl
  | [], ρ, st => if keep st then .nx ρ st else .bad
  | x :: xs, ρ, st => if keep st then (match f x ρ st with
    | .nx ρ st => forD f keep xs ρ st
    | .cnt ρ st => forD f keep xs ρ st
    | .brk ρ st => .nx ρ st
    | .ret d st => .ret d st
    | .exc d ρ st => .exc d ρ st
    | .bad => .bad) else .bad
/-- a loop's turn -/
def forF (ev : En → Sto → Fl) (t : Tn) (x : D) (ρ : En) (st : Sto) : Fl := match putN t x ρ with
  | some ρ => ev ρ st
  | none => .bad
def hOff (i : Option Nat) : Fl → Fl
  | .nx ρ st => if noX (offS i ρ) then .nx (offS i ρ) st else .bad
  | .brk ρ st => if noX (offS i ρ) then .brk (offS i ρ) st else .bad
  | .cnt ρ st => if noX (offS i ρ) then .cnt (offS i ρ) st else .bad
  | .ret d st => .ret d st
  | _ => .bad
inductive Ws where
  | go (ρ : En) (st : Sto) | done (f : Fl)
def whlN (f : En → Sto → Ws) : Nat → En → Sto → Fl
  | 0, _, _ => .bad
  | n + 1, ρ, st => match f ρ st with
    | .go ρ st => whlN f n ρ st
    | .done r => r
open Classical in
noncomputable def whlD (f : En → Sto → Ws) (ρ : En) (st : Sto) : Fl := if h : ∃ n, whlN f n ρ st ≠ .bad then whlN f h.choose ρ st else .bad
theorem whlN_mono {f : En → Sto → Ws} : ∀ {n m : Nat} {ρ : En} {st : Sto}, whlN f n ρ st ≠ .bad → n ≤ m → whlN f m ρ st = whlN f n ρ st
  | 0, _, _, _, h, _ => absurd rfl h
  | n + 1, 0, _, _, _, hm => absurd hm (by omega)
  | n + 1, m + 1, ρ, st, h, hm => by
    unfold whlN at h ⊢
    cases e : f ρ st with
    | go ρ' st' =>
      rw [e] at h
      exact whlN_mono h (by omega)
    | done r => rfl
theorem whlD_eq {f : En → Sto → Ws} {ρ : En} {st : Sto} {n : Nat} (h : whlN f n ρ st ≠ .bad) : whlD f ρ st = whlN f n ρ st := by
  have hx : ∃ n, whlN f n ρ st ≠ .bad := ⟨n, h⟩
  unfold whlD
  rw [dif_pos hx]
  rcases Nat.le_total hx.choose n with z | z
  · exact (whlN_mono hx.choose_spec z).symm
  · exact whlN_mono h z
/-- one turn -/
theorem whlD_step (f : En → Sto → Ws) (ρ : En) (st : Sto) : whlD f ρ st = (match f ρ st with
    | .go ρ st => whlD f ρ st
    | .done r => r) := by
  by_cases hx : ∃ n, whlN f n ρ st ≠ .bad
  · obtain ⟨n, h⟩ := hx
    rw [whlD_eq h]
    cases n with
    | zero => exact absurd rfl h
    | succ n =>
      unfold whlN at h ⊢
      cases e : f ρ st with
      | go ρ' st' =>
        rw [e] at h
        exact (whlD_eq h).symm
      | done r => rfl
  · have hb : ∀ n, whlN f n ρ st = .bad := fun n => Classical.byContradiction fun z => hx ⟨n, z⟩
    have e1 : whlD f ρ st = .bad := by unfold whlD; rw [dif_neg hx]
    rw [e1]
    cases e : f ρ st with
    | go ρ' st' =>
      have hx' : ¬ ∃ n, whlN f n ρ' st' ≠ .bad := fun ⟨n, z⟩ => z (by have q := hb (n + 1); unfold whlN at q; rw [e] at q; exact q)
      show Fl.bad = whlD f ρ' st'
      unfold whlD; rw [dif_neg hx']
    | done r =>
      have q := hb 1
      unfold whlN at q
      rw [e] at q
      exact q.symm
theorem whlD_run {f : En → Sto → Ws} {ρ : En} {st : Sto} (h : whlD f ρ st ≠ .bad) : ∃ n, whlD f ρ st = whlN f n ρ st := by
  by_cases hx : ∃ n, whlN f n ρ st ≠ .bad
  · obtain ⟨n, q⟩ := hx
    exact ⟨n, whlD_eq q⟩
  · exact absurd (by unfold whlD; rw [dif_neg hx]) h

/-- the first one at a key written anew -/
def dSet1 : List Ky → List D → Ky → D → List D
  | j :: ks, v :: vs, k, d => if j = k then d :: vs else v :: dSet1 ks vs k d
  | _, vs, _, _ => vs
/-- the keys of a display -/
def cstKeys : List E → Option (List Ky)
  | [] => some []
  | .cst d :: es => (keyOf d).bind fun k => (cstKeys es).map (k :: ·)
  | _ :: _ => none
def putAll : List Ky → List D → List Ky → List D → List Ky × List D
  | ks, vs, k :: kk, d :: ds => let r := dPut ks vs k d; putAll r.1 r.2 kk ds
  | ks, vs, _, _ => (ks, vs)
/-! ### the evaluator: C calls a def; base: what stands below it is written with plain things alone -/
abbrev Call := Nat → List D → Sto → Nat → R D
/-- a call; sc: what it made is dropped, its answer is plain -/
def callR (C : Call) (base : Nat) (sc : Bool) (f : Nat) (ds : List D) (st : Sto) : R D :=
  if sc then (match C f ds st st.length with
    | .ok d st' => if plain d then .ok d (st'.take st.length) else .bad
    | .exc d st' => .exc d (st'.take st.length)
    | .bad => .bad) else C f ds st base
section
variable (C : Call) (base : Nat)
mutual
def evE : E → En → Sto → R D
  | .bad, _, _ => .bad
  | .cst d, _, st => .ok d st
  | .var i, ρ, st => opt (getV ρ i) st
  | .glc _ d, _, st => .ok d st
  | .glf f, _, st => .ok (.fn f) st
  | .bin op bx a b, ρ, st => (evE a ρ st).bind fun x st => (evE b ρ st).bind fun y st => binR op bx (vw st x) (vw st y) st
  | .neg a, ρ, st => (evE a ρ st).bind fun x st => (match x with
    | .int i => .ok (.int (-i)) st
    | _ => .bad)
  | .land a b, ρ, st => (evE a ρ st).bind fun x st => (opt (asB x) st).bind fun k st => if k then evE b ρ st else .ok (.bl false) st
  | .lor a b, ρ, st => (evE a ρ st).bind fun x st => (opt (asB x) st).bind fun k st => if k then .ok (.bl true) st else evE b ρ st
  | .lnot a, ρ, st => (evE a ρ st).bind fun x st => (opt (asB x) st).bind fun k st => .ok (.bl (!k)) st
  | .ife c a b, ρ, st => (evE c ρ st).bind fun x st => (opt (truth (vw st x)) st).bind fun k st => if k then evE a ρ st else evE b ρ st
  | .cmp op a b, ρ, st => (evE a ρ st).bind fun x st => (evE b ρ st).bind fun y st => (opt (cmpD op (vw st x) (vw st y)) st).bind fun k st => .ok (.bl k) st
  | .chain op op' a b c, ρ, st => (evE a ρ st).bind fun x st => (evE b ρ st).bind fun y st => (opt (cmpD op (vw st x) (vw st y)) st).bind fun k st =>
      if k then (evE c ρ st).bind fun z st => (opt (cmpD op' (vw st y) (vw st z)) st).bind fun k st => .ok (.bl k) st else .ok (.bl false) st
  | .tup es, ρ, st => (evEs es ρ st).bind fun ds st => mkT ds st
  | .lst bx es, ρ, st => (evEs es ρ st).bind fun ds st => mkL bx ds st
  | .dct bx ks vs, ρ, st => (opt (cstKeys ks) st).bind fun kk st => (evEs vs ρ st).bind fun ds st => if kk.length = ds.length then (let r := putAll [] [] kk ds; mkD bx r.1 r.2 st) else .bad
  | .sub a i, ρ, st => (evE a ρ st).bind fun x st => (evE i ρ st).bind fun y st => opt (subD (vw st x) (vw st y)) st
  | .slc bx a lo hi, ρ, st => (evE a ρ st).bind fun x st => (evO lo ρ st).bind fun l st => (evO hi ρ st).bind fun h st => slcR bx (vw st x) l h st
  | .fld a f, ρ, st => (evE a ρ st).bind fun x st => (match x with
    | .ref n => (match st[n]? with
      | some (.ins _ fs) => opt (fs.lookup f) st
      | _ => .bad)
    | _ => .bad)
  | .xf i tbl, ρ, st => (match ρ[i]? with
    | some (some (.exc c ds)) => opt ((tbl.lookup c).bind fun k => ds[k]?) st
    | some (some (.exv c ds)) => opt ((tbl.lookup c).bind fun k => ds[k]?) st
    | _ => .bad)
  | .mkx c es, ρ, st => (evEs es ρ st).bind fun ds st => if plains ds then .ok (.exv c ds) st else .bad
  | .mkxk c es, ρ, st => (evEs es ρ st).bind fun ds st => if plains ds then .ok (.exv c ds) st else .bad
  | .isx i _ cs ns, ρ, st => (match ρ[i]? with
    | some (some (.exc c _)) => opt (isxB c cs ns) st
    | some (some (.exv c _)) => opt (isxB c cs ns) st
    | _ => .bad)
  | .callx sc f i es, ρ, st => (match ρ[i]? with
    | some (some (.exc c ds)) => (evEs es ρ st).bind fun xs st => callR C base sc f (.exc c ds :: xs) st
    | _ => .bad)
  | .call sc f es, ρ, st => (evEs es ρ st).bind fun ds st => callR C base sc f ds st
  | .callv sc i es, ρ, st => (match getV ρ i with
    | some (.fn f) => (match evEs es ρ st with
      | .ok ds st => callR C base sc f ds st
      | _ => .bad)
    | _ => .bad)
  | .callk sc f perm es ks, ρ, st => (evEs es ρ st).bind fun ds st => (evEs ks ρ st).bind fun ws st => callR C base sc f (ds ++ perm.map fun i => ws.getD i .non) st
  | .meth sc o f es, ρ, st => (evE o ρ st).bind fun x st => (match x with
    | .ref n => (evEs es ρ st).bind fun ds st => callR C base sc f (.ref n :: ds) st
    | _ => .bad)
  | .mk c f es, ρ, st => (evEs es ρ st).bind fun ds st => (match C f (.ref st.length :: ds) (st ++ [.ins c []]) base with
    | .ok _ st' => .ok (.ref st.length) st'
    | r => r)
  | .bi b bx es, ρ, st => (evEs es ρ st).bind fun ds st => biR b bx (ds.map (vw st)) st
  | .mt m bx o es, ρ, st => (evE o ρ st).bind fun x st => (opt (mtTy m (vw st x)) st).bind fun _ st => (evEs es ρ st).bind fun ds st => mtR m bx base x ds st
  | .maxd e i, ρ, st => (evE e ρ st).bind fun x st => (match vw st x with
    | .lst ds => (opt (intsOf ds) st).bind fun ns st => .ok (.int ((maxL ns).getD i)) st
    | _ => .bad)
  | .isi ks e, ρ, st => (evE e ρ st).bind fun x st => (match ks with
    | [k] => (opt (isKi (vw st x) k) st).bind fun b st => .ok (.bl b) st
    | _ => .bad)
  | .comp bx own t it c e, ρ, st => (evI it ρ st).bind fun p st => (match compD (fun x st => (match putN t x (wipeE ρ own) with
      | some ρ' => (evT c ρ' st).bind fun k st => if k then (evE e ρ' st).bind fun y st => .ok (some y) st else .ok none st
      | none => .bad)) p.2 p.1 st with
    | .ok ys st => mkL bx ys st
    | _ => .bad)
  | .comp2 bx own own2 t it c t2 it2 c2 e, ρ, st => (evI it ρ st).bind fun p st => (match compDD (fun x st => (match putN t x (wipeE ρ own) with
      | some ρ' => (evT c ρ' st).bind fun k st => if k then (evI it2 ρ' st).bind fun p2 st => compD (fun x st => (match putN t2 x (wipeE ρ' own2) with
          | some ρ2 => (evT c2 ρ2 st).bind fun k st => if k then (evE e ρ2 st).bind fun y st => .ok (some y) st else .ok none st
          | none => .bad)) p2.2 p2.1 st else .ok [] st
      | none => .bad)) p.2 p.1 st with
    | .ok ys st => mkL bx ys st
    | _ => .bad)
def evEs : List E → En → Sto → R (List D)
  | [], _, st => .ok [] st
  | e :: es, ρ, st => (evE e ρ st).bind fun x st => (evEs es ρ st).bind fun xs st => .ok (x :: xs) st
/-- a part of a slice -/
def evO : Option E → En → Sto → R (Option Int)
  | none, _, st => .ok none st
  | some e, ρ, st => (evE e ρ st).bind fun x st => (match x with
    | .int i => .ok (some i) st
    | _ => .bad)
/-- a comprehension's test -/
def evT : Option E → En → Sto → R Bool
  | none, _, st => .ok true st
  | some e, ρ, st => (evE e ρ st).bind fun x st => opt (truth (vw st x)) st
/-- the items that are walked; what must hold of the store from turn to turn -/
def evI : I → En → Sto → R (List D × (Sto → Bool))
  | .val e, ρ, st => (evE e ρ st).bind fun x st => (match x with
    | .lst ds => .ok (ds, fun _ => true) st
    | .tup ds => .ok (ds, fun _ => true) st
    | .frz ds => .ok (ds, fun _ => true) st
    | .str s => .ok (s.map fun c => .str [c], fun _ => true) st
    | _ => .bad)
  | .keys i, ρ, st => (match getV ρ i with
    | some (.dct ks _) => .ok (ks.map ofKey, fun _ => true) st
    | _ => .bad)
  | .rng1 a, ρ, st => (evE a ρ st).bind fun x st => (opt (rng1L x) st).bind fun xs st => .ok (xs, fun _ => true) st
  | .rng2 a b, ρ, st => (evE a ρ st).bind fun x st => (evE b ρ st).bind fun y st => (opt (rng2L x y) st).bind fun xs st => .ok (xs, fun _ => true) st
  | .enu e, ρ, st => (evE e ρ st).bind fun x st => (match x with
    | .lst ds => .ok (enuL ds, fun _ => true) st
    | .frz ds => .ok (enuL ds, fun _ => true) st
    | .tup ds => .ok (enuL ds, fun _ => true) st
    | _ => .bad)
  | .enul e, ρ, st => (evE e ρ st).bind fun x st => (match x with
    | .lst ds => .ok (enuL ds, fun _ => true) st
    | _ => .bad)
  | .zip a b, ρ, st => (evE a ρ st).bind fun x st => (evE b ρ st).bind fun y st => (match x, y with
    | .lst ds, .lst es => .ok (ds.zipWith (fun d e => .tup [d, e]) es, fun _ => true) st
    | .tup ds, .tup es => .ok (ds.zipWith (fun d e => .tup [d, e]) es, fun _ => true) st
    | _, _ => .bad)
  | .items e, ρ, st => .bad
end
mutual
/-- a value stored -/
def asgR : Tg → D → En → Sto → R En
  | .nm i, d, ρ, st => if i < ρ.length then .ok (ρ.set i (some d)) st else .bad
  | .tup ts, d, ρ, st => (match d with
    | .tup ds => if ds.length = ts.length then asgRs ts ds ρ st else .bad
    | _ => .bad)
  | .sub o i, d, ρ, st => (evE C base o ρ st).bind fun x st => (evE C base i ρ st).bind fun y st => (match x with
    | .ref n => (match st[n]?, y with
      | some (.lst ds), .int k => (opt (ixN ds.length k) st).bind fun j st => if wOk base n d then .ok ρ (st.set n (.lst (ds.set j d))) else .bad
      | some (.dct ks vs), y => (opt (keyOf y) st).bind fun k st => if wOk base n d && decide (ks.length < SL) then .ok ρ (st.set n (let r := dPut ks vs k d; .dct r.1 r.2)) else .bad
      | _, _ => .bad)
    | _ => .bad)
  | .fld o f, d, ρ, st => (evE C base o ρ st).bind fun x st => (match x with
    | .ref n => (match st[n]? with
      | some (.ins c fs) => if wOk base n d then .ok ρ (st.set n (.ins c (if (fs.lookup f).isSome then fs.map (fun p => if p.1 = f then (f, d) else p) else fs ++ [(f, d)]))) else .bad
      | _ => .bad)
    | _ => .bad)
def asgRs : List Tg → List D → En → Sto → R En
  | t :: ts, d :: ds, ρ, st => (asgR t d ρ st).bind fun ρ st => asgRs ts ds ρ st
  | _, _, ρ, st => .ok ρ st
end
mutual
noncomputable def evS : S → En → Sto → Fl
  | .asg t e, ρ, st => (match evE C base e ρ st with
    | .ok d st => (match asgR C base t d ρ st with
      | .ok ρ st => .nx ρ st
      | _ => .bad)
    | .exc d st => .exc d ρ st
    | .bad => .bad)
  | .par is es, ρ, st => (match evEs C base es ρ st with
    | .ok ds st => if is.length = ds.length ∧ (∀ i ∈ is, i < ρ.length) then .nx ((is.zip ds).foldl (fun ρ p => ρ.set p.1 (some p.2)) ρ) st else .bad
    | .exc d st => .exc d ρ st
    | .bad => .bad)
  | .expr e, ρ, st => (match evE C base e ρ st with
    | .ok _ st => .nx ρ st
    | .exc d st => .exc d ρ st
    | .bad => .bad)
  | .ret e, ρ, st => (match evE C base e ρ st with
    | .ok d st => .ret d st
    | .exc d st => .exc d ρ st
    | .bad => .bad)
  | .retN, _, st => .ret .non st
  | .ife c a b, ρ, st => (match evE C base c ρ st with
    | .ok x st => (match truth (vw st x) with
      | some true => evSs a ρ st
      | some false => evSs b ρ st
      | none => .bad)
    | .exc d st => .exc d ρ st
    | .bad => .bad)
  | .forS t it b, ρ, st => (match evI C base it ρ st with
    | .ok p st => forD (forF (evSs b) t) p.2 p.1 ρ st
    | .exc d st => .exc d ρ st
    | .bad => .bad)
  | .forK t i b, ρ, st => (match getV ρ i with
    | some (.dct ks _) => (match forD (forF (evSs b) t) (fun _ => true) (ks.map ofKey) ρ st with
      | .nx ρ st => .nx ρ st
      | .ret d st => .ret d st
      | _ => .bad)
    | _ => .bad)
  | .whl c b, ρ, st => whlD (fun ρ st => (match evE C base c ρ st with
    | .ok x st => (match truth (vw st x) with
      | some true => (match evSs b ρ st with
        | .nx ρ st => .go ρ st
        | .cnt ρ st => .go ρ st
        | .brk ρ st => .done (.nx ρ st)
        | r => .done r)
      | some false => .done (.nx ρ st)
      | none => .done .bad)
    | .exc d st => .done (.exc d ρ st)
    | .bad => .done .bad)) ρ st
  | .brk, ρ, st => .brk ρ st
  | .cnt, ρ, st => .cnt ρ st
  | .pass, ρ, st => .nx ρ st
  | .never, _, _ => .bad
  | .raise c es, ρ, st => (match evEs C base es ρ st with
    | .ok ds st => if plains ds then .exc (.exc c ds) ρ st else .bad
    | .exc d st => .exc d ρ st
    | .bad => .bad)
  | .tryS b hs, ρ, st => (match evSs b ρ st with
    | .exc d ρ st => (match d with
      | .exc c ds => evHs hs c ds ρ st
      | _ => .bad)
    | r => r)
  | .del _ _, _, _ => .bad
  | .freeze i, ρ, st => (match getV ρ i with
    | some (.ref n) => if base ≤ n then (match st[n]? with
      | some (.lst ds) => .nx (ρ.set i (some (.lst ds))) (st.set n .dead)
      | some (.dct ks vs) => .nx (ρ.set i (some (.dct ks vs))) (st.set n .dead)
      | _ => .bad) else .bad
    | _ => .bad)
  | .freezeK i k, ρ, st => (match getV ρ i with
    | some (.ref n) => (match st[n]? with
      | some (.dct ks vs) => (match dGet ks vs k with
        | some (.ref m) => if base ≤ n ∧ base ≤ m ∧ m ≠ n then (match st[m]? with
          | some (.lst ds) => .nx ρ ((st.set m .dead).set n (.dct ks (dSet1 ks vs k (.lst ds))))
          | _ => .bad) else .bad
        | _ => .bad)
      | _ => .bad)
    | _ => .bad)
noncomputable def evHs : List Hd → Nat → List D → En → Sto → Fl
  | [], c, ds, ρ, st => .exc (.exc c ds) ρ st
  | .mk _ cs ns i b :: hs, c, ds, ρ, st => if c ∈ cs then (match hOn i c ds ρ with
    | some ρ => hOff i (evSs b ρ st)
    | none => .bad) else if c ∈ ns then evHs hs c ds ρ st else .bad
noncomputable def evSs : List S → En → Sto → Fl
  | [], ρ, st => .nx ρ st
  | s :: ss, ρ, st => (match evS s ρ st with
    | .nx ρ st => evSs ss ρ st
    | r => r)
end
end
/-- a def: parameters, slots, body -/
structure Fd where
  np : Nat
  ns : Nat
  body : List S
noncomputable def runFd (C : Call) (fd : Fd) (ds : List D) (st : Sto) (base : Nat) : R D :=
  if ds.length = fd.np ∧ fd.np ≤ fd.ns then (match evSs C base fd.body (ds.map some ++ List.replicate (fd.ns - fd.np) none) st with
    | .ret d st => .ok d st
    | .nx _ st => .ok .non st
    | .exc d _ st => .exc d st
    | _ => .bad) else .bad
/-- the defs of a table, so many calls deep -/
noncomputable def callN (T : Nat → Option Fd) : Nat → Call
  | 0 => fun _ _ _ _ => .bad
  | n + 1 => fun f ds st base => match T f with
    | some fd => runFd (callN T n) fd ds st base
    | none => .bad
end Rf

/-! What the evaluator's values and store are to the model's abstract heap. -/
namespace Rf
open PySem PySem.Spec PyProof.Rows L2
/-- what stands where: the handles' addresses, the addresses that are never written any more -/
structure Wd where
  m : Nat → Addr
  F : Addr → Prop
/-- the program's own: defs, classes, fields -/
structure Gx where
  P : Program
  w : World
  K : PySem.W.Frag
  mg : Str → Option Value
  base : Heap
  fa : Nat → Addr
  ca : Nat → Addr
  fn : Nat → Str
  fd : Nat → FuncData
  ps : Nat → List Str
  /-- an own exception's fields, in the order of its __init__ -/
  cf : Nat → List Str := fun _ => []
  /-- the exceptions that are handled: the object, its class, its dict -/
  pn : List ((Addr × Obj) × Nat × Option Addr) := []
def kyR : Ky → Key
  | .inl i => .inl i
  | .inr s => .inr ⟨s.toArray⟩
/-- a list that never changes: kept so, or the module's own -/
def FzL (K : PySem.W.Frag) (W : Wd) (H : Hp) (a : Addr) (xs : List V) : Prop := (Rd H a (.lst xs) ∧ W.F a) ∨
  ∃ (o : Obj) (its : Array Value) (n : Nat), K.lookup a = some o ∧ o.cls = .type "list" ∧ o.dict = none ∧ o.data = .seq its n ∧ its.size ≤ sizeLine ∧ Vals xs its.toList
theorem FzL.sq {K : PySem.W.Frag} {W : Wd} {H : Hp} {a : Addr} {xs : List V} (h : FzL K W H a xs) : SqL K H a xs := h.elim (fun z => .inl z.1) .inr
/-- an own exception that stands as a value: its object, its dict -/
def ExvR (G : Gx) (W : Wd) (H : Hp) (c : Nat) (v : V) (vs : List V) : Prop := ∃ a, v = .ref a ∧ W.F a ∧
  ((G.cf c = [] ∧ vs = [] ∧ H a = some (exo a (G.ca c) none)) ∨ ∃ dx, W.F dx ∧ H a = some (exo a (G.ca c) (some dx)) ∧ H dx = some (exd dx ((G.cf c).zip vs).reverse) ∧ vs.length = (G.cf c).length)
theorem ExvR.map {G : Gx} {W W' : Wd} {H H' : Hp} {c : Nat} {v : V} {vs : List V} (hF : ∀ a, W.F a → W'.F a) (hH : ∀ a o, W.F a → (∃ φ, o = HO.ext φ) → H a = some o → H' a = some o) (h : ExvR G W H c v vs) : ExvR G W' H' c v vs := by
  obtain ⟨a, e, f, h⟩ := h
  refine ⟨a, e, hF _ f, ?_⟩
  rcases h with ⟨h1, h2, h3⟩ | ⟨dx, g, h1, h2, h3⟩
  · exact .inl ⟨h1, h2, hH _ _ f ⟨_, rfl⟩ h3⟩
  · exact .inr ⟨dx, hF _ g, hH _ _ f ⟨_, rfl⟩ h1, hH _ _ g ⟨_, rfl⟩ h2, h3⟩
mutual
/-- a value is data -/
def DV (G : Gx) (W : Wd) (n : Nat) (H : Hp) : D → V → Prop
  | .non, v => v = .non
  | .bl b, v => v = .bl b
  | .int i, v => v = .int i
  | .str s, v => v = .str ⟨s.toArray⟩
  | .tup ds, v => ∃ a xs, v = .ref a ∧ SqT G.K H a xs ∧ DVs G W n H ds xs
  | .lst ds, v => ∃ a xs, v = .ref a ∧ W.F a ∧ H a = some (.lst xs) ∧ DVs G W n H ds xs
  | .frz ds, v => ∃ a xs, v = .ref a ∧ FzL G.K W H a xs ∧ DVs G W n H ds xs
  | .dct ks vs, v => ∃ a kvs, v = .ref a ∧ W.F a ∧ Rd H a (.dK kvs) ∧ kvs.map (·.1) = ks.map kyR ∧ DVs G W n H vs (kvs.map (·.2))
  | .ref k, v => v = .ref (W.m k) ∧ k < n
  | .fn f, v => v = .ref (G.fa f)
  | .met k f, v => ∃ p, v = .ref p ∧ H p = some (.met (G.fa f) (W.m k)) ∧ k < n ∧ W.F p
  | .exc _ _, _ => False
  | .exv c ds, v => ∃ vs, ExvR G W H c v vs ∧ DVs G W n H ds vs
def DVs (G : Gx) (W : Wd) (n : Nat) (H : Hp) : List D → List V → Prop
  | [], xs => xs = []
  | d :: ds, xs => ∃ y ys, xs = y :: ys ∧ DV G W n H d y ∧ DVs G W n H ds ys
end
def live (st : Sto) (k : Nat) : Prop := ∃ ob, st[k]? = some ob ∧ ob ≠ .dead
/-- an object of the store -/
def obR (G : Gx) (W : Wd) (H : Hp) (n k : Nat) : Ob → Prop
  | .lst ds => ∃ xs, H (W.m k) = some (.lst xs) ∧ DVs G W n H ds xs
  | .dct ks vs => ∃ kvs, H (W.m k) = some (.dK kvs) ∧ kvs.map (·.1) = ks.map kyR ∧ DVs G W n H vs (kvs.map (·.2))
  | .ins c fs => ∃ dx gs, H (W.m k) = some (.ins (G.ca c) dx gs) ∧ gs.map (·.1) = fs.map (fun p => G.fn p.1) ∧ DVs G W n H (fs.map (·.2)) (gs.map (·.2))
  | .dead => True
def bdOf (bd : Nat → Nat) (base n k : Nat) : Nat := if k < base then bd k else n
structure RS (G : Gx) (bd : Nat → Nat) (base : Nat) (W : Wd) (H : Hp) (st : Sto) : Prop where
  obj : ∀ k ob, st[k]? = some ob → obR G W H (bdOf bd base st.length k) k ob
  inj : ∀ j k, live st j → live st k → W.m j = W.m k → j = k
  fF : ∀ k, live st k → ¬ W.F (W.m k)
  fH : ∀ a, W.F a → ∃ o, H a = some o
  bdl : ∀ k, k < base → bd k ≤ base
  bl : base ≤ st.length
structure Ext (W : Wd) (H : Hp) (st : Sto) (W' : Wd) (H' : Hp) (st' : Sto) : Prop where
  fr : ∀ a o, H a = some o → (∀ k, live st k → W.m k ≠ a) → H' a = some o
  F : ∀ a, W.F a → W'.F a
  m : ∀ k, k < st.length → W'.m k = W.m k
  dd : ∀ k, k < st.length → live st' k → live st k
  nw : ∀ k, st.length ≤ k → live st' k → H (W'.m k) = none
  tr : ∀ a, H a ≠ none → H' a ≠ none
  len : st.length ≤ st'.length
  nF : ∀ a, W'.F a → W.F a ∨ H a = none ∨ ∃ k, live st k ∧ W.m k = a
theorem live.lt {st : Sto} {k : Nat} (h : live st k) : k < st.length := by
  obtain ⟨ob, e, _⟩ := h
  exact (List.getElem?_eq_some_iff.mp e).1
theorem RS.some {G : Gx} {bd : Nat → Nat} {base : Nat} {W : Wd} {H : Hp} {st : Sto} (r : RS G bd base W H st) {k : Nat} (h : live st k) : ∃ o, H (W.m k) = some o ∧ Mut (some o) := by
  obtain ⟨ob, e, nd⟩ := h
  have q := r.obj k ob e
  cases ob with
  | lst ds => obtain ⟨xs, h, _⟩ := q; exact ⟨_, h, trivial⟩
  | dct ks vs => obtain ⟨xs, h, _⟩ := q; exact ⟨_, h, trivial⟩
  | ins c fs => obtain ⟨dx, gs, h, _⟩ := q; exact ⟨_, h, trivial⟩
  | dead => exact absurd rfl nd
theorem Ext.refl (W : Wd) (H : Hp) (st : Sto) : Ext W H st W H st :=
  ⟨fun _ _ h _ => h, fun _ h => h, fun _ _ => rfl, fun _ _ h => h, fun k hk h => absurd h.lt (by omega), fun _ h => h, Nat.le_refl _, fun _ h => .inl h⟩
theorem Ext.trans {G : Gx} {bd bd1 : Nat → Nat} {base base1 : Nat} {W W1 W2 : Wd} {H H1 H2 : Hp} {st st1 st2 : Sto} (a : Ext W H st W1 H1 st1) (b : Ext W1 H1 st1 W2 H2 st2) : Ext W H st W2 H2 st2 where
  fr := fun x o h hk => by
    refine b.fr x o (a.fr x o h hk) fun k hl e => ?_
    by_cases q : k < st.length
    · exact hk k (a.dd k q hl) (by rw [← a.m k q]; exact e)
    · have z := a.nw k (by omega) hl
      rw [e, h] at z; cases z
  F := fun x h => b.F x (a.F x h)
  m := fun k hk => (b.m k (Nat.lt_of_lt_of_le hk a.len)).trans (a.m k hk)
  dd := fun k hk hl => a.dd k hk (b.dd k (Nat.lt_of_lt_of_le hk a.len) hl)
  nw := fun k hk hl => by
    by_cases q : k < st1.length
    · have z := a.nw k hk (b.dd k q hl)
      rw [b.m k q]; exact z
    · have z := b.nw k (by omega) hl
      cases e : H (W2.m k) with
      | none => rfl
      | some o => exact absurd z (a.tr _ (by rw [e]; simp))
  tr := fun x h => b.tr x (a.tr x h)
  len := Nat.le_trans a.len b.len
  nF := fun x h => by
    rcases b.nF x h with z | z | ⟨k, hk, z⟩
    · exact a.nF x z
    · cases e : H x with
      | none => exact .inr (.inl rfl)
      | some o => exact absurd z (a.tr x (by rw [e]; simp))
    · by_cases q : k < st.length
      · exact .inr (.inr ⟨k, a.dd k q hk, by rw [← a.m k q]; exact z⟩)
      · have w := a.nw k (by omega) hk
        rw [z] at w
        exact .inr (.inl w)
section
variable {G : Gx} {bd : Nat → Nat} {base : Nat} {W W' : Wd} {H H' : Hp} {st st' : Sto} {n n' : Nat}
theorem SqT.keep (e : Ext W H st W' H' st') (r : RS G bd base W H st) {a : Addr} {xs : List V} (h : SqT G.K H a xs) : SqT G.K H' a xs := by
  have nl : ∀ u, H a = some u → ¬ Mut (some u) → ∀ k, live st k → W.m k ≠ a := fun u q nm k hl z => by
    obtain ⟨o, h1, h2⟩ := r.some hl
    rw [z, q] at h1; cases h1; exact nm h2
  rcases h with (h | ⟨o, h⟩) | h
  · exact .inl (.inl (e.fr _ _ h (nl _ h fun z => z)))
  · exact .inl (.inr ⟨o, e.fr _ _ h (nl _ h fun z => z)⟩)
  · exact .inr h
theorem F.keep (e : Ext W H st W' H' st') (r : RS G bd base W H st) {a : Addr} (h : W.F a) {o : HO} (q : H a = some o) : H' a = some o :=
  e.fr _ _ q fun k hl z => r.fF k hl (z ▸ h)
mutual
theorem DV.keep (e : Ext W H st W' H' st') (r : RS G bd base W H st) (hn : n ≤ st.length) (hn' : n ≤ n') : ∀ {d : D} {v : V}, DV G W n H d v → DV G W' n' H' d v
  | .non, _, h => h
  | .bl _, _, h => h
  | .int _, _, h => h
  | .str _, _, h => h
  | .tup ds, v, h => by
    obtain ⟨a, xs, e1, hs, hd⟩ := h
    exact ⟨a, xs, e1, SqT.keep e r hs, DVs.keep e r hn hn' hd⟩
  | .lst ds, v, h => by
    obtain ⟨a, xs, e1, hF, hH, hd⟩ := h
    exact ⟨a, xs, e1, e.F a hF, F.keep e r hF hH, DVs.keep e r hn hn' hd⟩
  | .frz ds, v, h => by
    obtain ⟨a, xs, e1, hs, hd⟩ := h
    refine ⟨a, xs, e1, ?_, DVs.keep e r hn hn' hd⟩
    rcases hs with ⟨hs | ⟨o, hs⟩, q⟩ | hs
    · exact .inl ⟨.inl (F.keep e r q hs), e.F _ q⟩
    · exact .inl ⟨.inr ⟨o, F.keep e r q hs⟩, e.F _ q⟩
    · exact .inr hs
  | .dct ks vs, v, h => by
    obtain ⟨a, kvs, e1, hF, hR, hk, hd⟩ := h
    refine ⟨a, kvs, e1, e.F a hF, ?_, hk, DVs.keep e r hn hn' hd⟩
    rcases hR with hR | ⟨o, hR⟩
    · exact .inl (F.keep e r hF hR)
    · exact .inr ⟨o, F.keep e r hF hR⟩
  | .ref k, v, h => by
    obtain ⟨e1, hk⟩ := h
    exact ⟨by rw [e1, e.m k (by omega)], by omega⟩
  | .fn f, v, h => h
  | .met k f, v, h => by
    obtain ⟨p, e1, hH, hk, hF⟩ := h
    exact ⟨p, e1, by rw [e.m k (by omega)]; exact F.keep e r hF hH, by omega, e.F p hF⟩
  | .exc _ _, _, h => h.elim
  | .exv c ds, v, h => by
    obtain ⟨vs, h1, h2⟩ := h
    exact ⟨vs, h1.map e.F fun _ _ f _ q => F.keep e r f q, DVs.keep e r hn hn' h2⟩
theorem DVs.keep (e : Ext W H st W' H' st') (r : RS G bd base W H st) (hn : n ≤ st.length) (hn' : n ≤ n') : ∀ {ds : List D} {xs : List V}, DVs G W n H ds xs → DVs G W' n' H' ds xs
  | [], _, h => h
  | d :: ds, xs, h => by
    obtain ⟨y, ys, e1, h1, h2⟩ := h
    exact ⟨y, ys, e1, DV.keep e r hn hn' h1, DVs.keep e r hn hn' h2⟩
end

theorem DVs.len : ∀ {ds : List D} {xs : List V}, DVs G W n H ds xs → xs.length = ds.length
  | [], _, h => by rw [show _ = [] from h]; rfl
  | d :: ds, _, h => by
    obtain ⟨y, ys, rfl, _, h2⟩ := h
    rw [List.length_cons, List.length_cons, DVs.len h2]
theorem DVs.app : ∀ {ds es : List D} {xs ys : List V}, DVs G W n H ds xs → DVs G W n H es ys → DVs G W n H (ds ++ es) (xs ++ ys)
  | [], _, _, _, h, g => by rw [show _ = [] from h]; exact g
  | d :: ds, _, _, _, h, g => by
    obtain ⟨y, ys, rfl, h1, h2⟩ := h
    exact ⟨y, ys ++ _, rfl, h1, DVs.app h2 g⟩
theorem DVs.get : ∀ {ds : List D} {xs : List V} {i : Nat} {d : D}, DVs G W n H ds xs → ds[i]? = some d → ∃ v, xs[i]? = some v ∧ DV G W n H d v
  | [], _, _, _, _, e => by simp at e
  | d :: ds, _, 0, _, h, e => by
    obtain ⟨y, ys, rfl, h1, h2⟩ := h
    simp at e; subst e
    exact ⟨y, rfl, h1⟩
  | d :: ds, _, i + 1, _, h, e => by
    obtain ⟨y, ys, rfl, h1, h2⟩ := h
    obtain ⟨v, e1, e2⟩ := DVs.get (i := i) h2 (by simpa using e)
    exact ⟨v, by simpa using e1, e2⟩
theorem DVs.drop : ∀ {ds : List D} {xs : List V} (i : Nat), DVs G W n H ds xs → DVs G W n H (ds.drop i) (xs.drop i)
  | _, _, 0, h => h
  | [], _, i + 1, h => by rw [show _ = [] from h]; rfl
  | d :: ds, _, i + 1, h => by
    obtain ⟨y, ys, rfl, h1, h2⟩ := h
    exact DVs.drop i h2
theorem DVs.take : ∀ {ds : List D} {xs : List V} (i : Nat), DVs G W n H ds xs → DVs G W n H (ds.take i) (xs.take i)
  | _, _, 0, h => rfl
  | [], _, i + 1, h => by rw [show _ = [] from h]; rfl
  | d :: ds, _, i + 1, h => by
    obtain ⟨y, ys, rfl, h1, h2⟩ := h
    exact ⟨y, _, rfl, h1, DVs.take i h2⟩
theorem DVs.set : ∀ {ds : List D} {xs : List V} {d : D} {v : V} (i : Nat), DVs G W n H ds xs → DV G W n H d v → DVs G W n H (ds.set i d) (xs.set i v)
  | [], _, _, _, _, h, _ => by rw [show _ = [] from h]; rfl
  | d :: ds, _, _, _, 0, h, g => by
    obtain ⟨y, ys, rfl, h1, h2⟩ := h
    exact ⟨_, _, rfl, g, h2⟩
  | d :: ds, _, _, _, i + 1, h, g => by
    obtain ⟨y, ys, rfl, h1, h2⟩ := h
    exact ⟨_, _, rfl, h1, DVs.set i h2 g⟩
/-- a greater bound -/
theorem DV.more (r : RS G bd base W H st) (hn : n ≤ st.length) (hn' : n ≤ n') {d : D} {v : V} (h : DV G W n H d v) : DV G W n' H d v := DV.keep (Ext.refl W H st) r hn hn' h
theorem DVs.more (r : RS G bd base W H st) (hn : n ≤ st.length) (hn' : n ≤ n') {d : List D} {v : List V} (h : DVs G W n H d v) : DVs G W n' H d v := DVs.keep (Ext.refl W H st) r hn hn' h
/-! plain things need no store -/
mutual
theorem DV.plain : ∀ {d : D} {v : V}, plain d = true → DV G W n H d v → DV G W n' H d v
  | .non, _, _, h => h
  | .bl _, _, _, h => h
  | .int _, _, _, h => h
  | .str _, _, _, h => h
  | .tup ds, v, p, h => by
    obtain ⟨a, xs, e1, hs, hd⟩ := h
    exact ⟨a, xs, e1, hs, DVs.plain p hd⟩
  | .lst ds, v, p, h => by
    obtain ⟨a, xs, e1, hF, hH, hd⟩ := h
    exact ⟨a, xs, e1, hF, hH, DVs.plain p hd⟩
  | .dct ks vs, v, p, h => by
    obtain ⟨a, kvs, e1, hF, hR, hk, hd⟩ := h
    exact ⟨a, kvs, e1, hF, hR, hk, DVs.plain p hd⟩
  | .fn f, v, _, h => h
  | .frz _, _, p, _ => by cases p
  | .ref _, _, p, _ => by cases p
  | .met _ _, _, p, _ => by cases p
  | .exc _ _, _, p, _ => by cases p
  | .exv _ _, v, p, h => by
    obtain ⟨vs, h1, h2⟩ := h
    exact ⟨vs, h1, DVs.plain p h2⟩
theorem DVs.plain : ∀ {ds : List D} {xs : List V}, plains ds = true → DVs G W n H ds xs → DVs G W n' H ds xs
  | [], _, _, h => h
  | d :: ds, _, p, h => by
    obtain ⟨y, ys, rfl, h1, h2⟩ := h
    obtain ⟨p1, p2⟩ := Bool.and_eq_true_iff.mp (show (Rf.plain d && plains ds) = true from p)
    exact ⟨y, ys, rfl, DV.plain p1 h1, DVs.plain p2 h2⟩
end
theorem bdOf_le {k : Nat} (r : RS G bd base W H st) : bdOf bd base st.length k ≤ st.length := by
  unfold bdOf
  split
  · rename_i h
    exact Nat.le_trans (r.bdl k h) r.bl
  · exact Nat.le_refl _
theorem obR.keep (e : Ext W H st W' H' st') (r : RS G bd base W H st) {k : Nat} {ob : Ob} (hk : ob ≠ .dead → H' (W'.m k) = H (W.m k)) (hn : n ≤ st.length) (hn' : n ≤ n') (h : obR G W H n k ob) : obR G W' H' n' k ob := by
  cases ob with
  | lst ds =>
    obtain ⟨xs, h1, h2⟩ := h
    exact ⟨xs, (hk (by simp)).trans h1, DVs.keep e r hn hn' h2⟩
  | dct ks vs =>
    obtain ⟨xs, h1, h2, h3⟩ := h
    exact ⟨xs, (hk (by simp)).trans h1, h2, DVs.keep e r hn hn' h3⟩
  | ins c fs =>
    obtain ⟨dx, gs, h1, h2, h3⟩ := h
    exact ⟨dx, gs, (hk (by simp)).trans h1, h2, DVs.keep e r hn hn' h3⟩
  | dead => trivial
theorem live_of {k : Nat} {ob : Ob} (e : st[k]? = some ob) (h : ob ≠ .dead) : live st k := ⟨ob, e, h⟩
/-! ### a new thing that is never written -/
theorem alloc_frz (r : RS G bd base W H st) {p : Addr} (hp : H p = none) (o : HO) :
    Ext W H st ⟨W.m, fun a => W.F a ∨ a = p⟩ (upd H p o) st ∧ RS G bd base ⟨W.m, fun a => W.F a ∨ a = p⟩ (upd H p o) st := by
  have nep : ∀ k, live st k → W.m k ≠ p := fun k hl z => by
    obtain ⟨u, h1, _⟩ := r.some hl
    rw [z, hp] at h1; cases h1
  have e : Ext W H st ⟨W.m, fun a => W.F a ∨ a = p⟩ (upd H p o) st := by
    refine ⟨fun a u h _ => ?_, fun a h => .inl h, fun _ _ => rfl, fun _ _ h => h, fun k hk h => absurd h.lt (by omega), fun a h => ?_, Nat.le_refl _, fun a h => ?_⟩
    · rw [upd_ne (ne_of_none h hp)]; exact h
    · by_cases q : a = p
      · rw [q, upd_same]; simp
      · rw [upd_ne q]; exact h
    · rcases h with h | h
      · exact .inl h
      · exact .inr (.inl (by rw [h]; exact hp))
  refine ⟨e, fun k ob he => ?_, r.inj, fun k hl z => ?_, fun a h => ?_, r.bdl, r.bl⟩
  · exact obR.keep e r (fun nd => upd_ne (nep k (live_of he nd))) (bdOf_le r) (Nat.le_refl _) (r.obj k ob he)
  · rcases z with z | z
    · exact r.fF k hl z
    · exact nep k hl z
  · rcases h with h | h
    · obtain ⟨u, q⟩ := r.fH a h
      exact ⟨u, by rw [upd_ne (ne_of_none q hp)]; exact q⟩
    · exact ⟨o, by rw [h]; exact upd_same⟩
/-- a new tuple, or any other thing that nobody writes -/
theorem alloc_any (r : RS G bd base W H st) {p : Addr} (hp : H p = none) (o : HO) : Ext W H st W (upd H p o) st ∧ RS G bd base W (upd H p o) st := by
  have nep : ∀ k, live st k → W.m k ≠ p := fun k hl z => by
    obtain ⟨u, h1, _⟩ := r.some hl
    rw [z, hp] at h1; cases h1
  have e : Ext W H st W (upd H p o) st := by
    refine ⟨fun a u h _ => ?_, fun a h => h, fun _ _ => rfl, fun _ _ h => h, fun k hk h => absurd h.lt (by omega), fun a h => ?_, Nat.le_refl _, fun _ h => .inl h⟩
    · rw [upd_ne (ne_of_none h hp)]; exact h
    · by_cases q : a = p
      · rw [q, upd_same]; simp
      · rw [upd_ne q]; exact h
  refine ⟨e, fun k ob he => ?_, r.inj, r.fF, fun a h => ?_, r.bdl, r.bl⟩
  · exact obR.keep e r (fun nd => upd_ne (nep k (live_of he nd))) (bdOf_le r) (Nat.le_refl _) (r.obj k ob he)
  · obtain ⟨u, q⟩ := r.fH a h
    exact ⟨u, by rw [upd_ne (ne_of_none q hp)]; exact q⟩
/-! ### a new object of the store -/
def Wd.add (W : Wd) (n : Nat) (p : Addr) : Wd := ⟨fun k => if k = n then p else W.m k, W.F⟩
theorem get_app {st : Sto} {ob : Ob} {k : Nat} {o : Ob} (h : (st ++ [ob])[k]? = some o) : (k < st.length ∧ st[k]? = some o) ∨ (k = st.length ∧ o = ob) := by
  by_cases q : k < st.length
  · rw [List.getElem?_append_left q] at h
    exact .inl ⟨q, h⟩
  · rw [List.getElem?_append_right (by omega)] at h
    have z := (List.getElem?_eq_some_iff.mp h).1
    simp only [List.length_singleton] at z
    have : k - st.length = 0 := by omega
    rw [this] at h
    simp at h
    exact .inr ⟨by omega, h.symm⟩
theorem live_app {st : Sto} {ob : Ob} {k : Nat} (h : live (st ++ [ob]) k) : (k < st.length ∧ live st k) ∨ k = st.length := by
  obtain ⟨o, e, nd⟩ := h
  rcases get_app e with ⟨q, z⟩ | ⟨q, _⟩
  · exact .inl ⟨q, o, z, nd⟩
  · exact .inr q
theorem alloc_ob (r : RS G bd base W H st) {p : Addr} (hp : H p = none) (o : HO) (ob : Ob)
    (hob : ∀ W', Ext W H st W' (upd H p o) (st ++ [ob]) → W'.m st.length = p → obR G W' (upd H p o) st.length.succ st.length ob) :
    Ext W H st (W.add st.length p) (upd H p o) (st ++ [ob]) ∧ RS G bd base (W.add st.length p) (upd H p o) (st ++ [ob]) := by
  have nep : ∀ k, live st k → W.m k ≠ p := fun k hl z => by
    obtain ⟨u, h1, _⟩ := r.some hl
    rw [z, hp] at h1; cases h1
  have am : ∀ k, k < st.length → (W.add st.length p).m k = W.m k := fun k hk => if_neg (by omega)
  have an : (W.add st.length p).m st.length = p := if_pos rfl
  have e : Ext W H st (W.add st.length p) (upd H p o) (st ++ [ob]) := by
    refine ⟨fun a u h _ => ?_, fun a h => h, am, fun k hk h => ?_, fun k hk h => ?_, fun a h => ?_, by simp, fun _ h => .inl h⟩
    · rw [upd_ne (ne_of_none h hp)]; exact h
    · rcases live_app h with z | z
      · exact z.2
      · omega
    · rcases live_app h with z | z
      · omega
      · rw [z, an]; exact hp
    · by_cases q : a = p
      · rw [q, upd_same]; simp
      · rw [upd_ne q]; exact h
  have bn := r.bl
  refine ⟨e, fun k ob' he => ?_, fun j k hj hk z => ?_, fun k hl z => ?_, fun a h => ?_, r.bdl, by simp; omega⟩
  · rcases get_app he with ⟨q, z⟩ | ⟨q, z⟩
    · refine obR.keep e r (fun nd => ?_) (bdOf_le r) ?_ (r.obj k ob' z)
      · rw [am k q]; exact upd_ne (nep k (live_of z nd))
      · unfold bdOf
        split
        · exact Nat.le_refl _
        · simp
    · subst q z
      have q : bdOf bd base (st ++ [ob']).length st.length = st.length.succ := by
        unfold bdOf
        rw [if_neg (by omega)]
        simp
      rw [q]
      exact hob _ e an
  · rcases live_app hj with ⟨qj, lj⟩ | qj <;> rcases live_app hk with ⟨qk, lk⟩ | qk
    · rw [am j qj, am k qk] at z; exact r.inj j k lj lk z
    · rw [am j qj, qk, an] at z; exact absurd z (nep j lj)
    · rw [am k qk, qj, an] at z; exact absurd z.symm (nep k lk)
    · omega
  · rcases live_app hl with ⟨q, l⟩ | q
    · rw [am k q] at z; exact r.fF k l z
    · rw [q, an] at z
      obtain ⟨u, h⟩ := r.fH p z
      rw [hp] at h; cases h
  · obtain ⟨u, q⟩ := r.fH a h
    exact ⟨u, by rw [upd_ne (ne_of_none q hp)]; exact q⟩
/-! ### an object of the store written -/
theorem live_set {st : Sto} {k j : Nat} {ob : Ob} (hk : live st k) (nd : ob ≠ .dead) : live (st.set k ob) j ↔ live st j := by
  constructor
  · rintro ⟨o, e, n⟩
    by_cases q : k = j
    · subst q; exact hk
    · rw [List.getElem?_set_ne q] at e; exact ⟨o, e, n⟩
  · rintro ⟨o, e, n⟩
    by_cases q : k = j
    · subst q; exact ⟨ob, List.getElem?_set_self hk.lt, nd⟩
    · exact ⟨o, by rw [List.getElem?_set_ne q]; exact e, n⟩
theorem write_ob (r : RS G bd base W H st) {k : Nat} (hl : live st k) (o : HO) {ob : Ob} (nd : ob ≠ .dead)
    (hob : ∀ H', Ext W H st W H' (st.set k ob) → H' (W.m k) = some o → obR G W H' (bdOf bd base st.length k) k ob) :
    Ext W H st W (upd H (W.m k) o) (st.set k ob) ∧ RS G bd base W (upd H (W.m k) o) (st.set k ob) := by
  have e : Ext W H st W (upd H (W.m k) o) (st.set k ob) := by
    refine ⟨fun a u h hn => ?_, fun a h => h, fun _ _ => rfl, fun j _ h => (live_set hl nd).mp h, fun j hj h => absurd ((live_set hl nd).mp h).lt (by omega), fun a h => ?_, by simp, fun _ h => .inl h⟩
    · rw [upd_ne (Ne.symm (hn k hl))]; exact h
    · by_cases q : a = W.m k
      · rw [q, upd_same]; simp
      · rw [upd_ne q]; exact h
  refine ⟨e, fun j ob' he => ?_, fun j i hj hi z => r.inj j i ((live_set hl nd).mp hj) ((live_set hl nd).mp hi) z, fun j hj => r.fF j ((live_set hl nd).mp hj), fun a h => ?_, r.bdl, by simpa using r.bl⟩
  · rw [List.length_set]
    by_cases q : k = j
    · subst q
      rw [List.getElem?_set_self hl.lt] at he
      cases he
      exact hob _ e upd_same
    · rw [List.getElem?_set_ne q] at he
      refine obR.keep e r (fun n => upd_ne fun z => q ?_) (bdOf_le r) (Nat.le_refl _) (r.obj j ob' he)
      exact (r.inj j k (live_of he n) hl z).symm
  · obtain ⟨u, q⟩ := r.fH a h
    by_cases z : a = W.m k
    · exact absurd (z ▸ h) (r.fF k hl)
    · exact ⟨u, by rw [upd_ne z]; exact q⟩
end
end Rf

/-! Answers, and what operations on values do. -/
namespace Rf
open PySem PySem.Spec PyProof.Rows L2
structure Post (G : Gx) (bd : Nat → Nat) (base : Nat) (W : Wd) (H : Hp) (st : Sto) (W' : Wd) (H' : Hp) (st' : Sto) : Prop where
  ext : Ext W H st W' H' st'
  rs : RS G bd base W' H' st'
abbrev Rl (α β : Type) := Wd → Nat → Hp → α → β → Prop
/-- the dict of an exception that is let go, or none -/
def XdR (G : Gx) (W : Wd) (H : Hp) (c : Nat) (od : Option Addr) (vs : List V) : Prop := (G.cf c = [] ∧ vs = [] ∧ od = none) ∨ ∃ dx, od = some dx ∧ H dx = some (.xd ((G.cf c).zip vs).reverse) ∧ W.F dx ∧ vs.length = (G.cf c).length
theorem XdR.map {G : Gx} {W W' : Wd} {H H' : Hp} {c : Nat} {od : Option Addr} {vs : List V} (hF : ∀ a, W.F a → W'.F a) (hx : ∀ a fs, W.F a → H a = some (.xd fs) → H' a = some (.xd fs)) (h : XdR G W H c od vs) : XdR G W' H' c od vs := by
  rcases h with h | ⟨dx, e1, e2, e3, e4⟩
  · exact .inl h
  · exact .inr ⟨dx, e1, hx _ _ e3 e2, hF _ e3, e4⟩
/-- how an exception lies -/
def ExcR (G : Gx) (W : Wd) (H : Hp) (d : D) (cls : Value) (dd : Option Addr) : Prop := match d with
  | .exc c ds => cls = .ref (G.ca c) ∧ ∃ vs, XdR G W H c dd vs ∧ DVs G W 0 H ds vs
  | _ => False
/-- what is wanted behind an answer of the evaluator -/
def Ans {α β : Type} (rel : Rl α β) (G : Gx) (bd : Nat → Nat) (base : Nat) (Wx : WX) (σ : L2.St) (W : Wd) (H : Hp) (st : Sto) (r : R α) (Q : β → Hp → Prop) : Prop := match r with
  | .ok d st' => ∀ (v : β) (W' : Wd) (H' : Hp), Post G bd base W H st W' H' st' → rel W' st'.length H' d v → Q v H'
  | .exc d st' => ∀ (cls : Value) (dd : Option Addr) (W' : Wd) (H' : Hp), Post G bd base W H st W' H' st' → ExcR G W' H' d cls dd → Wx cls dd σ H'
  | .bad => False
section
variable {G : Gx} {bd : Nat → Nat} {base : Nat} {Wx : WX} {σ : L2.St} {W W' W1 W2 : Wd} {H H' H1 H2 : Hp} {st st' st1 st2 : Sto} {n n' : Nat}
theorem Post.refl (r : RS G bd base W H st) : Post G bd base W H st W H st := ⟨Ext.refl _ _ _, r⟩
theorem Post.trans (a : Post G bd base W H st W1 H1 st1) (b : Post G bd base W1 H1 st1 W2 H2 st2) : Post G bd base W H st W2 H2 st2 := ⟨Ext.trans (G := G) (bd := bd) (bd1 := bd) (base := base) (base1 := base) a.ext b.ext, b.rs⟩
theorem Post.dv (a : Post G bd base W H st W1 H1 st1) (r : RS G bd base W H st) {d : D} {v : V} (h : DV G W st.length H d v) : DV G W1 st1.length H1 d v := DV.keep a.ext r (Nat.le_refl _) a.ext.len h
theorem Post.dvs (a : Post G bd base W H st W1 H1 st1) (r : RS G bd base W H st) {d : List D} {v : List V} (h : DVs G W st.length H d v) : DVs G W1 st1.length H1 d v := DVs.keep a.ext r (Nat.le_refl _) a.ext.len h
theorem Ans.shift {α β : Type} {rel : Rl α β} {r : R α} {Q : β → Hp → Prop} (p : Post G bd base W H st W1 H1 st1) (h : Ans rel G bd base Wx σ W H st r Q) : Ans rel G bd base Wx σ W1 H1 st1 r Q := by
  cases r with
  | ok d st' => exact fun v W' H' q dv => h v W' H' (p.trans q) dv
  | exc d st' => exact fun cls dd W' H' q x => h cls dd W' H' (p.trans q) x
  | bad => exact h
theorem Ans.mono {α β : Type} {rel : Rl α β} {r : R α} {Q Q' : β → Hp → Prop} (h : Ans rel G bd base Wx σ W H st r Q) (hq : ∀ v H', Q v H' → Q' v H') : Ans rel G bd base Wx σ W H st r Q' := by
  cases r with
  | ok d st' => exact fun v W' H' q dv => hq _ _ (h v W' H' q dv)
  | exc d st' => exact h
  | bad => exact h
/-- first r, then f -/
theorem Ans.bind {α β γ δ : Type} {rel : Rl α β} {rel' : Rl γ δ} {r : R α} {f : α → Sto → R γ} {Q : δ → Hp → Prop} (h : Ans rel' G bd base Wx σ W H st (r.bind f) Q) :
    Ans rel G bd base Wx σ W H st r fun v H1 => ∃ (d : α) (st1 : Sto) (W1 : Wd), r = .ok d st1 ∧ Post G bd base W H st W1 H1 st1 ∧ rel W1 st1.length H1 d v ∧ Ans rel' G bd base Wx σ W1 H1 st1 (f d st1) Q := by
  cases r with
  | ok d st' => exact fun v W' H' p dv => ⟨d, st', W', rfl, p, dv, Ans.shift p h⟩
  | exc d st' => exact h
  | bad => exact h
theorem Ans.opt {γ δ : Type} {α : Type} {rel' : Rl γ δ} {o : Option α} {f : α → Sto → R γ} {Q : δ → Hp → Prop} (h : Ans rel' G bd base Wx σ W H st ((opt o st).bind f) Q) : ∃ a, o = some a ∧ Ans rel' G bd base Wx σ W H st (f a st) Q := by
  cases o with
  | some a => exact ⟨a, rfl, h⟩
  | none => exact h.elim
/-- an answer that changes nothing -/
theorem Ans.here {d : D} {v : V} {Q : VK} (r : RS G bd base W H st) (h : Ans (DV G) G bd base Wx σ W H st (.ok d st) Q) (hv : DV G W st.length H d v) : Q v H := h v W H (Post.refl r) hv
/-- a slot's thing: data, or an exception that is handled -/
def DVx (G : Gx) (W : Wd) (n : Nat) (H : Hp) (d : D) (v : V) : Prop := match d with
  | .exc c ds => ∃ q ∈ G.pn, v = .ref q.1.1 ∧ q.2.1 = c ∧ ∃ vs, XdR G W H c q.2.2 vs ∧ DVs G W 0 H ds vs
  | d => DV G W n H d v
theorem DVx.of {d : D} {v : V} (h : DV G W n H d v) : DVx G W n H d v := by
  cases d <;> first | exact h | exact h.elim
theorem DVx.dv {d : D} {v : V} (h : DVx G W n H d v) (e : isExc d = false) : DV G W n H d v := by
  cases d <;> first | exact h | cases e
/-- slots -/
def EnR (G : Gx) (W : Wd) (n : Nat) (H : Hp) (ρ : En) (σ : L2.St) : Prop := ρ.length = σ.length ∧ ∀ (i : Nat) (d : D), ρ[i]? = some (some d) → ∃ v, σ[i]? = some (some v) ∧ DVx G W n H d v
theorem DVx.map {d : D} {v : V} {n' : Nat} (hd : ∀ {d v}, DV G W n H d v → DV G W' n' H' d v) (h0 : ∀ {ds vs}, DVs G W 0 H ds vs → DVs G W' 0 H' ds vs) (hF : ∀ a, W.F a → W'.F a) (hx : ∀ a fs, W.F a → H a = some (.xd fs) → H' a = some (.xd fs)) (h : DVx G W n H d v) : DVx G W' n' H' d v := by
  cases d with
  | exc c ds =>
    obtain ⟨q, hq, e1, e2, vs, e3, e6⟩ := h
    exact ⟨q, hq, e1, e2, vs, e3.map hF hx, h0 e6⟩
  | _ => exact hd h
theorem EnR.map {ρ : En} {n' : Nat} (hd : ∀ {d v}, DV G W n H d v → DV G W' n' H' d v) (h0 : ∀ {ds vs}, DVs G W 0 H ds vs → DVs G W' 0 H' ds vs) (hF : ∀ a, W.F a → W'.F a) (hx : ∀ a fs, W.F a → H a = some (.xd fs) → H' a = some (.xd fs)) (h : EnR G W n H ρ σ) : EnR G W' n' H' ρ σ :=
  ⟨h.1, fun i d e => let ⟨v, e1, e2⟩ := h.2 i d e; ⟨v, e1, DVx.map hd h0 hF hx e2⟩⟩
theorem EnR.post {ρ : En} (a : Post G bd base W H st W1 H1 st1) (r : RS G bd base W H st) (h : EnR G W st.length H ρ σ) : EnR G W1 st1.length H1 ρ σ :=
  EnR.map (fun h => a.dv r h) (fun h => DVs.keep a.ext r (Nat.zero_le _) (Nat.le_refl _) h) a.ext.F (fun x fs f e => F.keep a.ext r f e) h
/-! ### what a value is, seen through -/
theorem vw_ref (st : Sto) (k : Nat) : vw st (.ref k) = (match st[k]? with
    | some (.lst ds) => .lst ds
    | some (.dct ks vs) => .dct ks vs
    | _ => .ref k) := rfl
theorem vw_lst {d : D} {v : V} {ds : List D} (r : RS G bd base W H st) (h : DV G W st.length H d v) (e : vw st d = .lst ds) : ∃ a xs, v = .ref a ∧ H a = some (.lst xs) ∧ DVs G W st.length H ds xs := by
  cases d with
  | lst es =>
    cases e
    obtain ⟨a, xs, e1, _, h1, h2⟩ := h
    exact ⟨a, xs, e1, h1, h2⟩
  | ref k =>
    obtain ⟨e1, hk⟩ := h
    rw [vw_ref] at e
    cases q : st[k]? with
    | none => rw [q] at e; cases e
    | some ob =>
      rw [q] at e
      cases ob with
      | lst es =>
        cases e
        obtain ⟨xs, h1, h2⟩ := r.obj k _ q
        exact ⟨_, xs, e1, h1, DVs.more r (bdOf_le r) (bdOf_le r) h2⟩
      | dct _ _ => cases e
      | ins _ _ => cases e
      | dead => cases e
  | _ => cases e
theorem vw_dct {d : D} {v : V} {ks : List Ky} {vs : List D} (r : RS G bd base W H st) (h : DV G W st.length H d v) (e : vw st d = .dct ks vs) :
    ∃ a kvs, v = .ref a ∧ Rd H a (.dK kvs) ∧ kvs.map (·.1) = ks.map kyR ∧ DVs G W st.length H vs (kvs.map (·.2)) := by
  cases d with
  | dct ks vs =>
    cases e
    obtain ⟨a, kvs, e1, _, h1, h2, h3⟩ := h
    exact ⟨a, kvs, e1, h1, h2, h3⟩
  | ref k =>
    obtain ⟨e1, hk⟩ := h
    rw [vw_ref] at e
    cases q : st[k]? with
    | none => rw [q] at e; cases e
    | some ob =>
      rw [q] at e
      cases ob with
      | lst es => cases e
      | dct _ _ =>
        cases e
        obtain ⟨kvs, h1, h2, h3⟩ := r.obj k _ q
        exact ⟨_, kvs, e1, .inl h1, h2, DVs.more r (bdOf_le r) (bdOf_le r) h3⟩
      | ins _ _ => cases e
      | dead => cases e
  | _ => cases e
/-- what is no list and no dict is seen as it is -/
theorem vw_id {d e : D} (h : vw st d = e) (h1 : ∀ ds, e ≠ .lst ds) (h2 : ∀ ks vs, e ≠ .dct ks vs) : d = e := by
  cases d with
  | ref k =>
    rw [vw_ref] at h
    cases q : st[k]? with
    | none => rw [q] at h; exact h
    | some ob =>
      rw [q] at h
      cases ob with
      | lst es => exact absurd h.symm (h1 _)
      | dct _ _ => exact absurd h.symm (h2 _ _)
      | ins _ _ => exact h
      | dead => exact h
  | _ => exact h
theorem vw_int {d : D} {v : V} {i : Int} (h : DV G W n H d v) (e : vw st d = .int i) : v = .int i := by
  have q := vw_id e (by intro _ z; cases z) (by intro _ _ z; cases z)
  subst q; exact h
theorem vw_str {d : D} {v : V} {i : List Nat} (h : DV G W n H d v) (e : vw st d = .str i) : v = .str ⟨i.toArray⟩ := by
  have q := vw_id e (by intro _ z; cases z) (by intro _ _ z; cases z)
  subst q; exact h
theorem vw_tup {d : D} {v : V} {ds : List D} (h : DV G W n H d v) (e : vw st d = .tup ds) : ∃ a xs, v = .ref a ∧ SqT G.K H a xs ∧ DVs G W n H ds xs := by
  have q := vw_id e (by intro _ z; cases z) (by intro _ _ z; cases z)
  subst q; exact h
theorem vw_frz {d : D} {v : V} {ds : List D} (h : DV G W n H d v) (e : vw st d = .frz ds) : ∃ a xs, v = .ref a ∧ SqL G.K H a xs ∧ DVs G W n H ds xs := by
  have q := vw_id e (by intro _ z; cases z) (by intro _ _ z; cases z)
  subst q
  obtain ⟨a, xs, e1, h1, h2⟩ := h
  exact ⟨a, xs, e1, h1.sq, h2⟩
theorem SL_eq : SL = sizeLine := by rw [sizeLine_eq]; rfl
/-! ### new things -/
theorem ans_tup {ds : List D} {xs : List V} {Q : VK} (r : RS G bd base W H st) (hd : DVs G W st.length H ds xs) (h : Ans (DV G) G bd base Wx σ W H st (mkT ds st) Q) :
    xs.length ≤ sizeLine ∧ ∀ p, H p = none → Q (.ref p) (upd H p (.tup xs)) := by
  unfold mkT at h
  split at h
  · rename_i hz
    refine ⟨by rw [hd.len, ← SL_eq]; exact hz, fun p hp => ?_⟩
    obtain ⟨e, r'⟩ := alloc_any r hp (.tup xs)
    exact h (.ref p) W _ ⟨e, r'⟩ ⟨p, xs, rfl, SqT.of upd_same, DVs.keep e r (Nat.le_refl _) (Nat.le_refl _) hd⟩
  · exact h.elim
theorem ans_lst {bx : Bool} {ds : List D} {xs : List V} {Q : VK} (r : RS G bd base W H st) (hd : DVs G W st.length H ds xs) (h : Ans (DV G) G bd base Wx σ W H st (mkL bx ds st) Q) :
    xs.length ≤ sizeLine ∧ ∀ p, H p = none → Q (.ref p) (upd H p (.lst xs)) := by
  unfold mkL at h
  split at h
  · rename_i hz
    refine ⟨by rw [hd.len, ← SL_eq]; exact hz, fun p hp => ?_⟩
    cases bx with
    | true =>
      obtain ⟨e, r'⟩ := alloc_ob r hp (.lst xs) (.lst ds) fun W' e' z => ⟨xs, by rw [z]; exact upd_same, DVs.keep e' r (Nat.le_refl _) (Nat.le_succ _) hd⟩
      exact h (.ref p) _ _ ⟨e, r'⟩ ⟨by show V.ref p = V.ref (if st.length = st.length then p else _); rw [if_pos rfl], by simp⟩
    | false =>
      obtain ⟨e, r'⟩ := alloc_frz r hp (.lst xs)
      exact h (.ref p) _ _ ⟨e, r'⟩ ⟨p, xs, rfl, .inr rfl, upd_same, DVs.keep e r (Nat.le_refl _) (Nat.le_refl _) hd⟩
  · exact h.elim
theorem ans_dct {bx : Bool} {ks : List Ky} {vs : List D} {kvs : List (Key × V)} {Q : VK} (r : RS G bd base W H st) (hk : kvs.map (·.1) = ks.map kyR) (hd : DVs G W st.length H vs (kvs.map (·.2))) (h : Ans (DV G) G bd base Wx σ W H st (mkD bx ks vs st) Q) :
    kvs.length ≤ sizeLine ∧ ∀ p, H p = none → Q (.ref p) (upd H p (.dK kvs)) := by
  unfold mkD at h
  split at h
  · rename_i hz
    have hl : kvs.length = ks.length := by
      have := congrArg List.length hk
      simpa using this
    refine ⟨by rw [hl, ← SL_eq]; exact hz, fun p hp => ?_⟩
    cases bx with
    | true =>
      obtain ⟨e, r'⟩ := alloc_ob r hp (.dK kvs) (.dct ks vs) fun W' e' z => ⟨kvs, by rw [z]; exact upd_same, hk, DVs.keep e' r (Nat.le_refl _) (Nat.le_succ _) hd⟩
      exact h (.ref p) _ _ ⟨e, r'⟩ ⟨by show V.ref p = V.ref (if st.length = st.length then p else _); rw [if_pos rfl], by simp⟩
    | false =>
      obtain ⟨e, r'⟩ := alloc_frz r hp (.dK kvs)
      exact h (.ref p) _ _ ⟨e, r'⟩ ⟨p, kvs, rfl, .inr rfl, .inl upd_same, hk, DVs.keep e r (Nat.le_refl _) (Nat.le_refl _) hd⟩
  · exact h.elim
/-! ### operators -/
/-- two values, one behind the other -/
def rBin (G : Gx) (Wx : WX) (f : D → D → Sto → R D) : R2 := fun x y H Q => ∃ bd base σ W st d e, RS G bd base W H st ∧ DV G W st.length H d x ∧ DV G W st.length H e y ∧ Ans (DV G) G bd base Wx σ W H st (f (vw st d) (vw st e) st) Q
theorem log64 {i : Int} (h : i.natAbs.log2 < 64) : i.natAbs < 2 ^ 64 := by
  by_cases z : i.natAbs = 0
  · rw [z]; exact Nat.two_pow_pos 64
  · exact (Nat.log2_lt z).mp h
theorem Vof {v : V} {d : D} {i : List Nat} (h : v = .str ⟨i.toArray⟩) : v = V.str ⟨i.toArray⟩ := h
def opR : Op → Operator
  | .add => .Add | .sub => .Sub | .mul => .Mult | .fdiv => .FloorDiv | .mod => .Mod | .pow => .Pow
theorem str_app (a b : List Nat) : (⟨a.toArray⟩ : Str) ++ (⟨b.toArray⟩ : Str) = ⟨(a ++ b).toArray⟩ := by
  show (⟨a.toArray ++ b.toArray⟩ : Str) = _
  simp
theorem str_len (a : List Nat) : (⟨a.toArray⟩ : Str).length = a.length := by
  show a.toArray.size = _
  simp
theorem mul_ok' {a : List Nat} {k : Int} (h1 : a.length * k.toNat ≤ sizeLine) (h2 : -(2 ^ 40) < k) (h3 : k < 2 ^ 40) : MulOk ⟨a.toArray⟩ k := by
  have hl : (⟨a.toArray⟩ : Str).length = a.length := str_len a
  rw [sizeLine_eq] at h1
  refine ⟨?_, fun n1 n2 => ?_, fun n1 n2 => ?_⟩
  · rw [Bool.or_eq_false_iff]
    exact ⟨decide_eq_false (by omega), decide_eq_false (by omega)⟩
  · rw [hl]
    have hk : 0 < k := by omega
    have : ((a.length : Int)) ≤ (2 ^ 63 - 1) / k := by
      rw [Int.le_ediv_iff_mul_le hk]
      have e : (a.length : Int) * k = ((a.length * k.toNat : Nat) : Int) := by
        rw [Int.natCast_mul, Int.toNat_of_nonneg (by omega)]
      rw [e]; omega
    omega
  · rw [hl]
    exact PyProof.Rows.short24 h1
theorem mul_txt (a : List Nat) (k : Int) : Txt.mul ⟨a.toArray⟩ k = ⟨(repL k a).toArray⟩ := by
  unfold Txt.mul repL
  by_cases h1 : k < 1
  · rw [if_pos h1]
    have : k.toNat = 0 := by omega
    rw [this]; rfl
  · rw [if_neg h1]
    split
    · rename_i h
      rcases Bool.or_eq_true_iff.mp h with h | h
      · have : k = 1 := by simpa using h
        subst this
        simp
      · rw [str_len] at h
        have : a = [] := by simpa using h
        subst this
        simp
    · have z : ∀ (m : Nat) (acc : List Nat), List.foldl (fun x1 x2 => x1 ++ x2) acc.toArray (List.replicate m a.toArray) = (acc ++ (List.replicate m a).flatten).toArray := by
        intro m
        induction m with
        | zero => intro acc; simp
        | succ m ih =>
          intro acc
          rw [List.replicate_succ, List.foldl_cons, List.replicate_succ, List.flatten_cons, ← List.append_assoc, ← ih]
          congr 1
          simp
      have := z k.toNat []
      rw [List.nil_append] at this
      show (⟨_⟩ : Str) = _
      congr 1
theorem op_mulT {X : Cx} : OpR X (binaryOp .Mult) (fun x y H Q => ∃ (a : List Nat) (k : Int), x = .str ⟨a.toArray⟩ ∧ y = .int k ∧ a.length * k.toNat ≤ sizeLine ∧ -(2 ^ 40) < k ∧ k < 2 ^ 40 ∧ Q (.str ⟨(repL k a).toArray⟩) H) := by
  intro pins s σ H x y v u Q I rx ry h
  obtain ⟨a, k, rfl, rfl, h1, h2, h3, q⟩ := h
  obtain ⟨t, rfl⟩ := rx
  obtain ⟨t', rfl⟩ := ry
  exact SB.mul (mul_ok' h1 h2 h3) fun t2 tk => ⟨.str ⟨(repL k a).toArray⟩, H, I.tok _, ⟨_, by rw [mul_txt]⟩, q⟩
theorem repOk_ok {n : Nat} {k : Int} (h : repOk n k = true) : n * k.toNat ≤ sizeLine ∧ -(2 ^ 40) < k ∧ k < 2 ^ 40 := by
  obtain ⟨h1, h2⟩ := Bool.and_eq_true_iff.mp h
  obtain ⟨h2, h3⟩ := Bool.and_eq_true_iff.mp h2
  exact ⟨by rw [← SL_eq]; exact of_decide_eq_true h1, of_decide_eq_true h2, of_decide_eq_true h3⟩
theorem DVs.rep {ds : List D} {xs : List V} (h : DVs G W n H ds xs) : ∀ m : Nat, DVs G W n H (List.replicate m ds).flatten (List.replicate m xs).flatten
  | 0 => rfl
  | m + 1 => by
    rw [List.replicate_succ, List.replicate_succ, List.flatten_cons, List.flatten_cons]
    exact DVs.app h (DVs.rep h m)
theorem bin_ok {X : Cx} (hK : X.K = G.K) (op : Op) (bx : Bool) : OpR X (binaryOp (opR op)) (rBin G Wx (binR op bx)) := by
  intro pins s σ' H x y v u Q I rx ry h
  obtain ⟨bd, base, σ, W, st, d, e, r, hd, he, h⟩ := h
  have hx : ∀ i, vw st d = .int i → x = .int i := fun i z => vw_int hd z
  have hy : ∀ i, vw st e = .int i → y = .int i := fun i z => vw_int he z
  have sx : ∀ i, vw st d = .str i → x = .str ⟨i.toArray⟩ := fun i z => vw_str hd z
  have sy : ∀ i, vw st e = .str i → y = .str ⟨i.toArray⟩ := fun i z => vw_str he z
  have lx : ∀ ds, vw st d = .lst ds → _ := fun ds z => vw_lst r hd z
  have ly : ∀ ds, vw st e = .lst ds → _ := fun ds z => vw_lst r he z
  have tx : ∀ ds, vw st d = .tup ds → _ := fun ds z => vw_tup hd z
  have ty : ∀ ds, vw st e = .tup ds → _ := fun ds z => vw_tup he z
  revert h hx hy sx sy lx ly tx ty
  generalize vw st d = d'
  generalize vw st e = e'
  intro h hx hy sx sy lx ly tx ty
  unfold binR at h
  split at h
  · rename_i i j
    exact op_add pins s σ' H x y v u Q I rx ry ⟨i, j, hx _ rfl, hy _ rfl, h.here r rfl⟩
  · rename_i a b
    split at h
    · rename_i hz
      exact op_add_str pins s σ' H x y v u Q I rx ry ⟨_, _, sx _ rfl, sy _ rfl, by rw [str_len, str_len, ← SL_eq]; exact hz, by rw [str_app]; exact h.here r rfl⟩
    · exact h.elim
  · rename_i a b
    obtain ⟨p, xs, e1, h1, h2⟩ := lx _ rfl
    obtain ⟨q, ys, e2, h3, h4⟩ := ly _ rfl
    obtain ⟨hz, hq⟩ := ans_lst r (DVs.app h2 h4) h
    exact op_cat pins s σ' H x y v u Q I rx ry ⟨p, q, xs, ys, e1, e2, h1, h3, by rw [← List.length_append]; exact hz, hq⟩
  · rename_i a b
    obtain ⟨p, xs, e1, h1, h2⟩ := tx _ rfl
    obtain ⟨q, ys, e2, h3, h4⟩ := ty _ rfl
    obtain ⟨hz, hq⟩ := ans_tup r (DVs.app h2 h4) h
    have fin : ∀ z : V, DV G W st.length H (.tup (a ++ b)) z → Q z H := fun z hz' => by
      unfold mkT at h
      split at h
      · exact h.here r hz'
      · exact h.elim
    refine op_catA pins s σ' H x y v u Q I rx ry ⟨p, q, xs, ys, e1, e2, by rw [hK]; exact h1, by rw [hK]; exact h3, by rw [← List.length_append]; exact hz, fun z => ?_, fun _ z => ?_, fun _ _ => hq⟩
    · refine fin _ ⟨q, ys, rfl, h3, ?_⟩
      have := DVs.app h2 h4
      rw [z] at this; exact this
    · refine fin _ ⟨p, xs, rfl, h1, ?_⟩
      have := DVs.app h2 h4
      rw [z, List.append_nil] at this; exact this
  · rename_i i j
    exact op_sub pins s σ' H x y v u Q I rx ry ⟨i, j, hx _ rfl, hy _ rfl, h.here r rfl⟩
  · rename_i i j
    split at h
    · rename_i hz
      exact op_mulW pins s σ' H x y v u Q I rx ry ⟨i, j, hx _ rfl, hy _ rfl, (show i.natAbs.log2 + j.natAbs.log2 < 1000000 from of_decide_eq_true hz), h.here r rfl⟩
    · exact h.elim
  · rename_i a k
    split at h
    · rename_i hz
      obtain ⟨z1, z2, z3⟩ := repOk_ok hz
      exact op_mulT pins s σ' H x y v u Q I rx ry ⟨a, k, sx _ rfl, hy _ rfl, z1, z2, z3, h.here r rfl⟩
    · exact h.elim
  · rename_i a k
    split at h
    · rename_i hz
      obtain ⟨z1, z2, z3⟩ := repOk_ok hz
      obtain ⟨p, xs, e1, h1, h2⟩ := lx _ rfl
      obtain ⟨_, hq⟩ := ans_lst r (h2.rep k.toNat) h
      exact op_rep pins s σ' H x y v u Q I rx ry ⟨p, k, xs, e1, hy _ rfl, h1, by omega, by omega, by rw [h2.len]; exact z1, hq⟩
    · exact h.elim
  · rename_i i j
    split at h
    · rename_i hz
      obtain ⟨z1, z2⟩ := Bool.and_eq_true_iff.mp hz
      exact op_fdivW pins s σ' H x y v u Q I rx ry ⟨i, j, hx _ rfl, hy _ rfl, ⟨of_decide_eq_true z1, of_decide_eq_true z2⟩, h.here r rfl⟩
    · exact h.elim
  · rename_i i j
    split at h
    · rename_i hz
      exact op_mod pins s σ' H x y v u Q I rx ry ⟨i, j, hx _ rfl, hy _ rfl, of_decide_eq_true hz, h.here r rfl⟩
    · exact h.elim
  · rename_i i j
    split at h
    · rename_i hz
      obtain ⟨z1, z2⟩ := Bool.and_eq_true_iff.mp hz
      obtain ⟨z2, z3⟩ := Bool.and_eq_true_iff.mp z2
      exact op_pow pins s σ' H x y v u Q I rx ry ⟨i, j, hx _ rfl, hy _ rfl, ⟨of_decide_eq_true z1, of_decide_eq_true z2, log64 (of_decide_eq_true z3)⟩, h.here r rfl⟩
    · exact h.elim
  · exact h.elim
end
end Rf

/-! Comparisons, places, built-in functions. -/
namespace Rf
open PySem PySem.Spec PyProof.Rows L2
section
variable {G : Gx} {bd : Nat → Nat} {base : Nat} {Wx : WX} {σ : L2.St} {W W' W1 W2 : Wd} {H H' H1 H2 : Hp} {st st' st1 st2 : Sto} {n n' : Nat}
/-! ### data compared -/
mutual
def toP : D → PyData
  | .bl b => .bool b
  | .int i => .int i
  | .str s => .str ⟨s.toArray⟩
  | .tup ds => .tuple (toPs ds)
  | .lst ds => .list (toPs ds)
  | _ => .none
def toPs : List D → List PyData
  | [] => []
  | d :: ds => toP d :: toPs ds
end
theorem str_beq (x y : List Nat) : ((⟨x.toArray⟩ : Str) == ⟨y.toArray⟩) = (x == y) := by
  by_cases h : x = y
  · subst h; simp
  · have h2 : (⟨x.toArray⟩ : Str) ≠ ⟨y.toArray⟩ := fun z => h (by injection z with z; simpa using z)
    rw [beq_eq_false_iff_ne.mpr h2, beq_eq_false_iff_ne.mpr h]
mutual
theorem eqv_P : ∀ {m k : Nat} {d e : D}, pd m d = true → pd k e = true → PyData.eqv (toP d) (toP e) = eqv d e
  | m, k, .non, e, _, h => by cases e <;> first | rfl | (cases k <;> cases h)
  | m, k, .bl a, e, _, h => by cases e <;> first | rfl | (cases k <;> cases h)
  | m, k, .int a, e, _, h => by cases e <;> first | rfl | (cases k <;> cases h)
  | m, k, .str a, e, _, h => by cases e <;> first | rfl | exact str_beq _ _ | (cases k <;> cases h)
  | 0, _, .tup _, _, h, _ => by cases h
  | 0, _, .lst _, _, h, _ => by cases h
  | m + 1, k, .tup ds, e, h, h' => by
    cases e with
    | tup es => cases k with
      | zero => cases h'
      | succ k => exact eqv_Ps (m := m) (k := k) h h'
    | frz _ => cases k <;> cases h'
    | dct _ _ => cases k <;> cases h'
    | ref _ => cases k <;> cases h'
    | fn _ => cases k <;> cases h'
    | met _ _ => cases k <;> cases h'
    | exc _ _ => cases k <;> cases h'
    | exv _ _ => cases k <;> cases h'
    | _ => rfl
  | m + 1, k, .lst ds, e, h, h' => by
    cases e with
    | lst es => cases k with
      | zero => cases h'
      | succ k => exact eqv_Ps (m := m) (k := k) h h'
    | frz _ => cases k <;> cases h'
    | dct _ _ => cases k <;> cases h'
    | ref _ => cases k <;> cases h'
    | fn _ => cases k <;> cases h'
    | met _ _ => cases k <;> cases h'
    | exc _ _ => cases k <;> cases h'
    | exv _ _ => cases k <;> cases h'
    | _ => rfl
  | m, _, .frz _, _, h, _ => by cases m <;> cases h
  | m, _, .dct _ _, _, h, _ => by cases m <;> cases h
  | m, _, .ref _, _, h, _ => by cases m <;> cases h
  | m, _, .fn _, _, h, _ => by cases m <;> cases h
  | m, _, .met _ _, _, h, _ => by cases m <;> cases h
  | m, _, .exc _ _, _, h, _ => by cases m <;> cases h
  | m, _, .exv _ _, _, h, _ => by cases m <;> cases h
theorem eqv_Ps : ∀ {m k : Nat} {ds es : List D}, pds m ds = true → pds k es = true → PyData.eqvAll (toPs ds) (toPs es) = eqvs ds es
  | _, _, [], [], _, _ => rfl
  | _, _, [], _ :: _, _, _ => rfl
  | _, _, _ :: _, [], _, _ => rfl
  | m, k, d :: ds, e :: es, h, h' => by
    have h1 : (pd m d && pds m ds) = true := by cases m <;> exact h
    have h2 : (pd k e && pds k es) = true := by cases k <;> exact h'
    obtain ⟨a1, a2⟩ := Bool.and_eq_true_iff.mp h1
    obtain ⟨b1, b2⟩ := Bool.and_eq_true_iff.mp h2
    show (PyData.eqv (toP d) (toP e) && PyData.eqvAll (toPs ds) (toPs es)) = (eqv d e && eqvs ds es)
    rw [eqv_P a1 b1, eqv_Ps a2 b2]
end
mutual
theorem pd_lay : ∀ {m : Nat} {d : D}, pd m d = true → PyData.canLay0 (toP d) = true ∧ (toP d).depth ≤ m
  | m, .non, _ => ⟨rfl, Nat.zero_le _⟩
  | m, .bl _, _ => ⟨rfl, Nat.zero_le _⟩
  | m, .int _, _ => ⟨rfl, Nat.zero_le _⟩
  | m, .str s, h => by
    have h1 : (s.all fun c => decide (c < 1114112)) = true := by cases m <;> exact h
    refine ⟨?_, Nat.zero_le _⟩
    show (PyData.strOk _) = true
    unfold PyData.strOk
    show (s.toArray.all _) = true
    rw [List.all_toArray]
    exact h1
  | 0, .tup _, h => by cases h
  | 0, .lst _, h => by cases h
  | m + 1, .tup ds, h => by
    obtain ⟨h1, h2⟩ := pds_lay (m := m) (ds := ds) h
    exact ⟨h1, Nat.succ_le_succ h2⟩
  | m + 1, .lst ds, h => by
    obtain ⟨h1, h2⟩ := pds_lay (m := m) (ds := ds) h
    exact ⟨h1, Nat.succ_le_succ h2⟩
  | m, .frz _, h => by cases m <;> cases h
  | m, .dct _ _, h => by cases m <;> cases h
  | m, .ref _, h => by cases m <;> cases h
  | m, .fn _, h => by cases m <;> cases h
  | m, .met _ _, h => by cases m <;> cases h
  | m, .exc _ _, h => by cases m <;> cases h
  | m, .exv _ _, h => by cases m <;> cases h
theorem pds_lay : ∀ {m : Nat} {ds : List D}, pds m ds = true → PyData.canLayAll0 (toPs ds) = true ∧ PyData.depthAll (toPs ds) ≤ m
  | _, [], _ => ⟨rfl, Nat.zero_le _⟩
  | m, d :: ds, h => by
    have h1 : (pd m d && pds m ds) = true := by cases m <;> exact h
    obtain ⟨a1, a2⟩ := Bool.and_eq_true_iff.mp h1
    obtain ⟨b1, b2⟩ := pd_lay a1
    obtain ⟨c1, c2⟩ := pds_lay a2
    refine ⟨?_, Nat.max_le.mpr ⟨b2, c2⟩⟩
    show (PyData.canLay0 (toP d) && PyData.canLayAll0 (toPs ds)) = true
    rw [b1, c1] <;> rfl
end
theorem pd_shaped {d : D} (h : pd 60 d = true) : SeqAt.shaped (toP d) = true := by
  obtain ⟨h1, h2⟩ := pd_lay h
  unfold SeqAt.shaped
  rw [h1, decide_eq_true (by omega)] <;> rfl
mutual
theorem pd_dp : ∀ {m : Nat} {d : D} {v : V}, pd m d = true → DV G W n H d v → Dp G.K H v (toP d)
  | m, .non, _, _, h => by rw [show _ = V.non from h]; exact .non
  | m, .bl b, _, _, h => by rw [show _ = V.bl b from h]; exact .bl b
  | m, .int b, _, _, h => by rw [show _ = V.int b from h]; exact .int b
  | m, .str b, _, _, h => by rw [show _ = V.str _ from h]; exact .str _
  | 0, .tup _, _, h, _ => by cases h
  | 0, .lst _, _, h, _ => by cases h
  | m + 1, .tup ds, _, h, hd => by
    obtain ⟨a, xs, rfl, h1, h2⟩ := hd
    exact .tup h1 (pds_dp (m := m) h h2)
  | m + 1, .lst ds, _, h, hd => by
    obtain ⟨a, xs, rfl, _, h1, h2⟩ := hd
    exact .lst (SqL.of h1) (pds_dp (m := m) h h2)
  | m, .frz _, _, h, _ => by cases m <;> cases h
  | m, .dct _ _, _, h, _ => by cases m <;> cases h
  | m, .ref _, _, h, _ => by cases m <;> cases h
  | m, .fn _, _, h, _ => by cases m <;> cases h
  | m, .met _ _, _, h, _ => by cases m <;> cases h
  | m, .exc _ _, _, h, _ => by cases m <;> cases h
  | m, .exv _ _, _, h, _ => by cases m <;> cases h
theorem pds_dp : ∀ {m : Nat} {ds : List D} {xs : List V}, pds m ds = true → DVs G W n H ds xs → DpAll G.K H xs (toPs ds)
  | _, [], _, _, h => by rw [show _ = [] from h]; exact .nil
  | m, d :: ds, _, h, hd => by
    obtain ⟨y, ys, rfl, h1, h2⟩ := hd
    have q : (pd m d && pds m ds) = true := by cases m <;> exact h
    obtain ⟨a1, a2⟩ := Bool.and_eq_true_iff.mp q
    exact .cons (pd_dp a1 h1) (pds_dp a2 h2)
end
/-- seen through -/
theorem vw_dp {m : Nat} {d : D} {v : V} (r : RS G bd base W H st) (h : DV G W st.length H d v) (hp : pd m (vw st d) = true) : Dp G.K H v (toP (vw st d)) := by
  cases e : vw st d with
  | lst ds =>
    rw [e] at hp
    obtain ⟨a, xs, rfl, h1, h2⟩ := vw_lst r h e
    cases m with
    | zero => cases hp
    | succ m => exact .lst (SqL.of h1) (pds_dp (m := m) hp h2)
  | dct ks vs => rw [e] at hp; cases m <;> cases hp
  | _ =>
    have q := vw_id e (by intro _ z; cases z) (by intro _ _ z; cases z)
    rw [e] at hp
    subst q
    exact pd_dp hp h
/-- scalars are themselves -/
theorem sc_val {d : D} {v : V} (h : DV G W n H d v) (hs : sc d = true) : (d = .non ∧ v = .non) ∨ (∃ b, d = .bl b ∧ v = .bl b) ∨ (∃ i, d = .int i ∧ v = .int i) ∨ ∃ s, d = .str s ∧ v = .str ⟨s.toArray⟩ := by
  cases d with
  | non => exact .inl ⟨rfl, h⟩
  | bl b => exact .inr (.inl ⟨b, rfl, h⟩)
  | int i => exact .inr (.inr (.inl ⟨i, rfl, h⟩))
  | str s => exact .inr (.inr (.inr ⟨s, rfl, h⟩))
  | _ => cases hs
theorem vw_sc {d : D} (h : sc (vw st d) = true) : vw st d = d := by
  cases e : vw st d with
  | lst ds => rw [e] at h; cases h
  | dct ks vs => rw [e] at h; cases h
  | _ => exact (vw_id e (by intro _ z; cases z) (by intro _ _ z; cases z)).symm
theorem dec_str2 (a b : List Nat) : decide (V.str ⟨a.toArray⟩ = V.str ⟨b.toArray⟩) = (a == b) := by
  rw [dec_str, str_beq]
theorem sc2_ok {d e : D} {x y : V} (hd : DV G W n H d x) (he : DV G W n H e y) (h : sc2 d e = true) : scal x y = true ∧ decide (x = y) = eqv d e := by
  have h1 : sc d = true ∧ sc e = true := by
    unfold sc2 at h
    split at h
    · cases h
    · cases h
    · exact Bool.and_eq_true_iff.mp h
  rcases sc_val hd h1.1 with ⟨rfl, rfl⟩ | ⟨a, rfl, rfl⟩ | ⟨a, rfl, rfl⟩ | ⟨a, rfl, rfl⟩ <;> rcases sc_val he h1.2 with ⟨rfl, rfl⟩ | ⟨b, rfl, rfl⟩ | ⟨b, rfl, rfl⟩ | ⟨b, rfl, rfl⟩
  all_goals first | (cases h; done) | exact ⟨rfl, dec_bl⟩ | exact ⟨rfl, dec_int⟩ | exact ⟨rfl, dec_str2 _ _⟩ | exact ⟨rfl, by simp [eqv]⟩
theorem eqV_ok {d e : D} {x y : V} (hd : DV G W n H d x) (he : DV G W n H e y) (h1 : sc d = true) (h2 : sc e = true) : flatV x = true ∧ eqV x y = eqv d e := by
  rcases sc_val hd h1 with ⟨rfl, rfl⟩ | ⟨a, rfl, rfl⟩ | ⟨a, rfl, rfl⟩ | ⟨a, rfl, rfl⟩ <;> rcases sc_val he h2 with ⟨rfl, rfl⟩ | ⟨b, rfl, rfl⟩ | ⟨b, rfl, rfl⟩ | ⟨b, rfl, rfl⟩
  all_goals first | exact ⟨rfl, rfl⟩ | exact ⟨rfl, str_beq _ _⟩
theorem inV_ok {d : D} {x : V} (hd : DV G W n H d x) (h1 : sc d = true) : ∀ {ds : List D} {xs : List V}, DVs G W n H ds xs → ds.all sc = true → xs.all flatV = true ∧ inV x xs = ds.any fun y => eqv y d
  | [], _, h, _ => by rw [show _ = [] from h]; exact ⟨rfl, rfl⟩
  | e :: es, _, h, hs => by
    obtain ⟨y, ys, rfl, h2, h3⟩ := h
    rw [List.all_cons] at hs
    obtain ⟨a1, a2⟩ := Bool.and_eq_true_iff.mp hs
    obtain ⟨b1, b2⟩ := inV_ok hd h1 h3 a2
    obtain ⟨c1, c2⟩ := eqV_ok h2 hd a1 h1
    refine ⟨by rw [List.all_cons, c1, b1] <;> rfl, ?_⟩
    show (eqV y x || inV x ys) = (eqv e d || _)
    rw [c2, b2]
theorem anyP {d : D} {m k : Nat} (hd : pd m d = true) : ∀ {ds : List D}, pds k ds = true → ((toPs ds).any fun z => PyData.eqv z (toP d)) = ds.any fun y => eqv y d
  | [], _ => rfl
  | e :: es, h => by
    have h1 : (pd k e && pds k es) = true := by cases k <;> exact h
    obtain ⟨a1, a2⟩ := Bool.and_eq_true_iff.mp h1
    show (PyData.eqv (toP e) (toP d) || _) = (eqv e d || _)
    rw [eqv_P a1 hd, anyP hd a2]
/-! ### keys -/
theorem key_val {d : D} {v : V} {k : Ky} (h : DV G W n H d v) (e : keyOf d = some k) : v = kV (kyR k) := by
  cases d with
  | int i => cases e; exact h
  | str s => cases e; exact h
  | _ => cases e
theorem kyR_inj {j k : Ky} (h : kyR j = kyR k) : j = k := by
  cases j <;> cases k
  · cases h; rfl
  · cases h
  · cases h
  · have q := Sum.inr.inj (show (Sum.inr _ : Key) = Sum.inr _ from h)
    injection q with q
    congr 1
    simpa using q
theorem dGet_ok {k : Ky} : ∀ {ks : List Ky} {vs : List D} {kvs : List (Key × V)}, kvs.map (·.1) = ks.map kyR → DVs G W n H vs (kvs.map (·.2)) →
    (match dGet ks vs k with
      | some d => ∃ v, valV kvs (kyR k) = some v ∧ DV G W n H d v
      | none => valV kvs (kyR k) = none)
  | [], vs, kvs, h, _ => by
    have e : kvs = [] := by simpa using h
    subst e
    cases vs <;> exact valV_nil
  | j :: ks, [], kvs, h, h2 => by
    have e : kvs = [] := by simpa using (show kvs.map (·.2) = [] from h2)
    subst e
    cases h
  | j :: ks, d :: vs, [], h, _ => by cases h
  | j :: ks, d :: vs, p :: kvs, h, h2 => by
    obtain ⟨y, ys, e1, h3, h4⟩ := h2
    rw [List.map_cons, List.map_cons] at h
    injection h with h5 h6
    rw [List.map_cons] at e1
    injection e1 with e2 e3
    unfold dGet
    by_cases q : j = k
    · rw [if_pos q]
      exact ⟨p.2, valV_pos (by rw [h5, q]), by rw [e2]; exact h3⟩
    · rw [if_neg q]
      have z := dGet_ok (k := k) h6 (by rw [e3]; exact h4)
      have ne : ¬ p.1 = kyR k := fun z => q (kyR_inj (h5.symm.trans z))
      rw [valV_neg ne]
      exact z
theorem hasK_ok {k : Ky} : ∀ {ks : List Ky} {kvs : List (Key × V)}, kvs.map (·.1) = ks.map kyR → (valV kvs (kyR k)).isSome = hasK ks k
  | [], kvs, h => by
    have e : kvs = [] := by simpa using h
    subst e; rfl
  | j :: ks, [], h => by cases h
  | j :: ks, p :: kvs, h => by
    rw [List.map_cons, List.map_cons] at h
    injection h with h5 h6
    show _ = (decide (j = k) || hasK ks k)
    by_cases q : j = k
    · rw [valV_pos (by rw [h5, q]), decide_eq_true q]; rfl
    · have ne : ¬ p.1 = kyR k := fun z => q (kyR_inj (h5.symm.trans z))
      rw [valV_neg ne, decide_eq_false q, hasK_ok h6]; rfl
theorem putVs_ok {k : Ky} {d : D} {v : V} (hd : DV G W n H d v) : ∀ {ks : List Ky} {vs : List D} {kvs : List (Key × V)}, kvs.map (·.1) = ks.map kyR → DVs G W n H vs (kvs.map (·.2)) →
    (kvs.map (fun kv => if kv.1 = kyR k then (kv.1, v) else kv)).map (·.1) = ks.map kyR ∧ DVs G W n H (putVs ks vs k d) ((kvs.map (fun kv => if kv.1 = kyR k then (kv.1, v) else kv)).map (·.2))
  | [], vs, kvs, h, _ => by
    have e : kvs = [] := by simpa using h
    subst e
    cases vs <;> exact ⟨rfl, rfl⟩
  | j :: ks, [], kvs, h, h2 => by
    have e : kvs = [] := by simpa using (show kvs.map (·.2) = [] from h2)
    subst e
    cases h
  | j :: ks, e :: vs, [], h, _ => by cases h
  | j :: ks, e :: vs, p :: kvs, h, h2 => by
    obtain ⟨y, ys, e1, h3, h4⟩ := h2
    rw [List.map_cons, List.map_cons] at h
    injection h with h5 h6
    rw [List.map_cons] at e1
    injection e1 with e2 e3
    obtain ⟨z1, z2⟩ := putVs_ok hd h6 (by rw [e3]; exact h4)
    by_cases q : j = k
    · have q' : p.1 = kyR k := by rw [h5, q]
      refine ⟨?_, _, _, rfl, ?_, z2⟩
      · rw [List.map_cons, List.map_cons, List.map_cons, z1, if_pos q', h5]
      · show DV G W n H (if j = k then d else e) _
        dsimp only
        rw [if_pos q, if_pos q']; exact hd
    · have ne : ¬ p.1 = kyR k := fun z => q (kyR_inj (h5.symm.trans z))
      refine ⟨?_, _, _, rfl, ?_, z2⟩
      · rw [List.map_cons, List.map_cons, List.map_cons, z1, if_neg ne, h5]
      · show DV G W n H (if j = k then d else e) _
        dsimp only
        rw [if_neg q, if_neg ne, e2]; exact h3
theorem anyK_ok {k : Ky} {ks : List Ky} {kvs : List (Key × V)} (h : kvs.map (·.1) = ks.map kyR) : (kvs.any fun kv => decide (kv.1 = kyR k)) = hasK ks k := by
  rw [valV_any, hasK_ok h]
theorem dPut_ok {k : Ky} {d : D} {v : V} {ks : List Ky} {vs : List D} {kvs : List (Key × V)} (hd : DV G W n H d v) (h : kvs.map (·.1) = ks.map kyR) (h2 : DVs G W n H vs (kvs.map (·.2))) :
    (putK kvs (kyR k) v).map (·.1) = (dPut ks vs k d).1.map kyR ∧ DVs G W n H (dPut ks vs k d).2 ((putK kvs (kyR k) v).map (·.2)) := by
  unfold putK dPut
  rw [anyK_ok h]
  cases e : hasK ks k with
  | true => exact putVs_ok hd h h2
  | false =>
    refine ⟨?_, ?_⟩
    · show (kvs ++ [(kyR k, v)]).map (·.1) = (ks ++ [k]).map kyR
      rw [List.map_append, List.map_append, h]; rfl
    · show DVs G W n H (vs ++ [d]) ((kvs ++ [(kyR k, v)]).map (·.2))
      rw [List.map_append]
      exact DVs.app h2 ⟨v, [], rfl, hd, rfl⟩
/-! ### comparisons -/
def cmR : Cm → CmpOp
  | .eq => .Eq | .ne => .NotEq | .lt => .Lt | .le => .LtE | .gt => .Gt | .ge => .GtE | .isIn => .In | .notIn => .NotIn | .isN => .Is | .notN => .IsNot
theorem bl_end {k : Bool} {Q : VK} (r : RS G bd base W H st) (h : Ans (DV G) G bd base Wx σ W H st (.ok (.bl k) st) Q) : Q (.bl k) H := h.here r rfl
def rCmp (G : Gx) (Wx : WX) (op : Cm) : R2 := rBin G Wx fun x y st => (opt (cmpD op x y) st).bind fun k st => .ok (.bl k) st
theorem eq_ok {X : Cx} (hK : X.K = G.K) (hu : X.A.units + 64 < cLine) (neg : Bool) {pins : List (Addr × Obj)} {s : Shared} {σ' : L2.St} {x y : V} {v u : Value} {Q : VK} {d e : D} {k : Bool} (I : Inv X pins σ' H s) (rx : RelV x v) (ry : RelV y u)
    (r : RS G bd base W H st) (hd : DV G W st.length H d x) (he : DV G W st.length H e y) (hk : eqD (vw st d) (vw st e) = some k) (hq : Q (.bl (if neg then !k else k)) H) :
    wpAny (model X.prog X.w) X.A (compareOp (if neg then .NotEq else .Eq) v u) (EP X pins σ' Q) X.xe s := by
  unfold eqD at hk
  split at hk
  · rename_i h2
    cases hk
    have hs : sc (vw st d) = true ∧ sc (vw st e) = true := by
      unfold sc2 at h2
      split at h2
      · cases h2
      · cases h2
      · exact Bool.and_eq_true_iff.mp h2
    have e1 := vw_sc hs.1
    have e2 := vw_sc hs.2
    rw [e1, e2] at h2 hq
    obtain ⟨z1, z2⟩ := sc2_ok hd he h2
    cases neg with
    | true => exact op_ne pins s σ' H x y v u Q I rx ry ⟨z1, by rw [z2]; exact hq⟩
    | false => exact op_eq pins s σ' H x y v u Q I rx ry ⟨z1, by rw [z2]; exact hq⟩
  · split at hk
    · rename_i h2
      cases hk
      obtain ⟨p1, p2⟩ := Bool.and_eq_true_iff.mp h2
      have q1 := vw_dp r hd p1
      have q2 := vw_dp r he p2
      rw [← hK] at q1 q2
      cases neg with
      | true => exact op_neD hu pins s σ' H x y v u Q I rx ry ⟨_, _, q1, q2, pd_shaped p1, pd_shaped p2, by rw [eqv_P p1 p2]; exact hq⟩
      | false => exact op_eqD hu pins s σ' H x y v u Q I rx ry ⟨_, _, q1, q2, pd_shaped p1, pd_shaped p2, by rw [eqv_P p1 p2]; exact hq⟩
    · cases hk

/-- x in y -/
theorem in_ok {X : Cx} (hK : X.K = G.K) (hu : X.A.units + 65 < cLine) (neg : Bool) {pins : List (Addr × Obj)} {s : Shared} {σ' : L2.St} {x y : V} {v u : Value} {Q : VK} {d e : D} {k : Bool} (I : Inv X pins σ' H s) (rx : RelV x v) (ry : RelV y u)
    (r : RS G bd base W H st) (hd : DV G W st.length H d x) (he : DV G W st.length H e y) (hk : inD (vw st d) (vw st e) = some k) (hq : Q (.bl (if neg then !k else k)) H) :
    wpAny (model X.prog X.w) X.A (compareOp (if neg then .NotIn else .In) v u) (EP X pins σ' Q) X.xe s := by
  have inseq : ∀ {ds : List D} {p : Addr} {xs : List V}, y = .ref p → (SqL X.K H p xs ∨ SqT X.K H p xs) → DVs G W st.length H ds xs → (sc (vw st d) && ds.all sc) = true → k = (ds.any fun y => eqv y (vw st d)) →
      wpAny (model X.prog X.w) X.A (compareOp (if neg then .NotIn else .In) v u) (EP X pins σ' Q) X.xe s := fun {ds p xs} ey hs hds h2 ek => by
    obtain ⟨a1, a2⟩ := Bool.and_eq_true_iff.mp h2
    have e1 := vw_sc a1
    rw [e1] at a1 ek
    obtain ⟨b1, b2⟩ := inV_ok hd a1 hds a2
    have fx : flatV x = true := (eqV_ok hd hd a1 a1).1
    cases neg with
    | true => exact op_notIn_seq pins s σ' H x y v u Q I rx ry ⟨p, xs, ey, hs, fx, b1, by rw [b2, ← ek]; exact hq⟩
    | false => exact op_in_seq pins s σ' H x y v u Q I rx ry ⟨p, xs, ey, hs, fx, b1, by rw [b2, ← ek]; exact hq⟩
  cases ee : vw st e with
  | str z =>
    rw [ee] at hk
    unfold inD at hk
    have ey := vw_str he ee
    cases ed : vw st d with
    | str w =>
      rw [ed] at hk
      have ex := vw_str hd ed
      cases w with
      | nil => cases hk
      | cons c w =>
        cases w with
        | nil =>
          cases hk
          have q : (c ∈ (⟨z.toArray⟩ : Str).cps.toList) ↔ c ∈ z := by simp
          cases neg with
          | true =>
            refine op_notIn_sign pins s σ' H x y v u Q I rx ry ⟨c, ⟨z.toArray⟩, ex, ey, ?_⟩
            rw [decide_eq_decide.mpr q]; exact hq
          | false =>
            refine op_in_sign pins s σ' H x y v u Q I rx ry ⟨c, ⟨z.toArray⟩, ex, ey, ?_⟩
            rw [decide_eq_decide.mpr q]; exact hq
        | cons _ _ => cases hk
    | _ => rw [ed] at hk; cases hk
  | tup ds =>
    rw [ee] at hk
    have hk' : (if (sc (vw st d) && ds.all sc) = true then some (ds.any fun y => eqv y (vw st d)) else none) = some k := hk
    obtain ⟨p, xs, ey, h1, h2⟩ := vw_tup he ee
    split at hk'
    · rename_i h3
      exact inseq ey (.inr (by rw [hK]; exact h1)) h2 h3 (Option.some.inj hk').symm
    · cases hk'
  | lst ds =>
    rw [ee] at hk
    have hk' : (if (sc (vw st d) && ds.all sc) = true then some (ds.any fun y => eqv y (vw st d)) else if (pd 60 (vw st d) && pds 60 ds) = true then some (ds.any fun y => eqv y (vw st d)) else none) = some k := hk
    obtain ⟨p, xs, ey, h1, h2⟩ := vw_lst r he ee
    split at hk'
    · rename_i h3
      exact inseq ey (.inl (SqL.of h1)) h2 h3 (Option.some.inj hk').symm
    · split at hk'
      · rename_i h3
        obtain ⟨p1, p2⟩ := Bool.and_eq_true_iff.mp h3
        have q1 := vw_dp r hd p1
        rw [← hK] at q1
        have q2 : Dp X.K H y (.list (toPs ds)) := by
          rw [ey]
          refine .lst (SqL.of h1) ?_
          rw [hK]
          exact pds_dp p2 h2
        have sh : SeqAt.shaped (.list (toPs ds)) = true := by
          obtain ⟨a1, a2⟩ := pds_lay p2
          have : PyData.canLay0 (.list (toPs ds)) = true := a1
          unfold SeqAt.shaped
          rw [this, decide_eq_true (show (PyData.list (toPs ds)).depth ≤ 64 from by show PyData.depthAll (toPs ds) + 1 ≤ 64; omega)] <;> rfl
        have ek := (Option.some.inj hk').symm
        cases neg with
        | true => exact op_notInD hu pins s σ' H x y v u Q I rx ry ⟨_, _, q1, q2, pd_shaped p1, sh, by rw [anyP p1 p2, ← ek]; exact hq⟩
        | false => exact op_inD hu pins s σ' H x y v u Q I rx ry ⟨_, _, q1, q2, pd_shaped p1, sh, by rw [anyP p1 p2, ← ek]; exact hq⟩
      · cases hk'
  | dct ks vs =>
    rw [ee] at hk
    obtain ⟨p, kvs, ey, h1, h2, h3⟩ := vw_dct r he ee
    have hk' : (keyOf (vw st d)).map (fun k => hasK ks k) = some k := hk
    cases ek : keyOf (vw st d) with
    | none => rw [ek] at hk'; cases hk'
    | some j =>
      rw [ek] at hk'
      have ej : hasK ks j = k := Option.some.inj hk'
      have sd : sc (vw st d) = true := by
        cases ev : vw st d <;> rw [ev] at ek <;> first | rfl | cases ek
      rw [vw_sc sd] at ek
      have ex := key_val hd ek
      subst ey
      obtain rfl : u = Value.ref p := ry
      have g : DGet H p x (valV kvs (kyR j)) := .inl ⟨kvs, kyR j, h1, ex, rfl⟩
      cases neg with
      | true => exact d_notIn (by omega) I g rx fun s3 I3 => ⟨.bl (!(valV kvs (kyR j)).isSome), H, I3, rfl, by rw [hasK_ok h2, ej]; exact hq⟩
      | false => exact d_in (by omega) I g rx fun s3 I3 => ⟨.bl (valV kvs (kyR j)).isSome, H, I3, rfl, by rw [hasK_ok h2, ej]; exact hq⟩
  | _ => rw [ee] at hk; cases hk
theorem cmp_ok {X : Cx} (hK : X.K = G.K) (hu : X.A.units + 65 < cLine) (op : Cm) : OpR X (compareOp (cmR op)) (rCmp G Wx op) := by
  intro pins s σ' H x y v u Q I rx ry h
  obtain ⟨bd, base, σ, W, st, d, e, r, hd, he, h⟩ := h
  obtain ⟨k, hk, h⟩ := Ans.opt h
  have hq := bl_end r h
  have hx : ∀ i, vw st d = .int i → x = .int i := fun i z => vw_int hd z
  have hy : ∀ i, vw st e = .int i → y = .int i := fun i z => vw_int he z
  have isN : vw st e = .non → y = .non ∧ decide (x = .non) = isNon (vw st d) := fun z => by
    have e1 := vw_id z (by intro _ z; cases z) (by intro _ _ z; cases z)
    rw [e1] at he
    refine And.intro he ?_
    cases ed : vw st d with
    | non =>
      have e2 := vw_id ed (by intro _ z; cases z) (by intro _ _ z; cases z)
      rw [e2] at hd
      exact decide_eq_true hd
    | lst ds =>
      obtain ⟨a, xs, ex, _⟩ := vw_lst r hd ed
      rw [ex]; rfl
    | dct ks vs =>
      obtain ⟨a, xs, ex, _⟩ := vw_dct r hd ed
      rw [ex]; rfl
    | bl b =>
      have e2 := vw_id ed (by intro _ z; cases z) (by intro _ _ z; cases z)
      rw [e2] at hd
      rw [show x = V.bl b from hd]; rfl
    | int b => rw [vw_int hd ed]; rfl
    | str b => rw [vw_str hd ed]; rfl
    | tup b => obtain ⟨a, xs, ex, _⟩ := vw_tup hd ed; rw [ex]; rfl
    | frz b => obtain ⟨a, xs, ex, _⟩ := vw_frz hd ed; rw [ex]; rfl
    | ref b =>
      have e2 := vw_id ed (by intro _ z; cases z) (by intro _ _ z; cases z)
      rw [e2] at hd
      rw [hd.1]; rfl
    | fn b =>
      have e2 := vw_id ed (by intro _ z; cases z) (by intro _ _ z; cases z)
      rw [e2] at hd
      rw [show x = V.ref _ from hd]; rfl
    | met b c =>
      have e2 := vw_id ed (by intro _ z; cases z) (by intro _ _ z; cases z)
      rw [e2] at hd
      obtain ⟨p, ex, _⟩ := hd
      rw [ex]; rfl
    | exc b c =>
      have e2 := vw_id ed (by intro _ z; cases z) (by intro _ _ z; cases z)
      rw [e2] at hd
      exact hd.elim
    | exv b c =>
      have e2 := vw_id ed (by intro _ z; cases z) (by intro _ _ z; cases z)
      rw [e2] at hd
      obtain ⟨_, ⟨p, ex, _⟩, _⟩ := hd
      rw [ex]; rfl
  cases op with
  | eq => exact eq_ok hK (by omega) false I rx ry r hd he hk hq
  | ne =>
    have hk' : (eqD (vw st d) (vw st e)).map (!·) = some k := hk
    cases q : eqD (vw st d) (vw st e) with
    | none => rw [q] at hk'; cases hk'
    | some b =>
      rw [q] at hk'
      have eb : (!b) = k := Option.some.inj hk'
      exact eq_ok hK (by omega) true I rx ry r hd he q (by rw [← eb] at hq; exact hq)
  | isIn => exact in_ok hK hu false I rx ry r hd he hk hq
  | notIn =>
    have hk' : (inD (vw st d) (vw st e)).map (!·) = some k := hk
    cases q : inD (vw st d) (vw st e) with
    | none => rw [q] at hk'; cases hk'
    | some b =>
      rw [q] at hk'
      have eb : (!b) = k := Option.some.inj hk'
      exact in_ok hK hu true I rx ry r hd he q (by rw [← eb] at hq; exact hq)
  | isN =>
    cases ee : vw st e with
    | non =>
      obtain ⟨e1, e2⟩ := isN ee
      have hk' : some (isNon (vw st d)) = some k := by rw [ee] at hk; exact hk
      refine op_isN pins s σ' H x y v u Q I rx ry ⟨e1, ?_⟩
      rw [e2, Option.some.inj hk']; exact hq
    | _ => rw [ee] at hk; cases hk
  | notN =>
    cases ee : vw st e with
    | non =>
      obtain ⟨e1, e2⟩ := isN ee
      have hk' : some (!isNon (vw st d)) = some k := by rw [ee] at hk; exact hk
      refine op_notN pins s σ' H x y v u Q I rx ry ⟨e1, ?_⟩
      rw [e2, Option.some.inj hk']; exact hq
    | _ => rw [ee] at hk; cases hk
  | lt =>
    cases ed : vw st d with
    | int i => cases ee : vw st e with
      | int j =>
        rw [ed, ee] at hk
        cases hk
        exact op_lt pins s σ' H x y v u Q I rx ry ⟨i, j, hx _ ed, hy _ ee, hq⟩
      | _ => rw [ed, ee] at hk; cases hk
    | _ => rw [ed] at hk; cases hk
  | le =>
    cases ed : vw st d with
    | int i => cases ee : vw st e with
      | int j =>
        rw [ed, ee] at hk
        cases hk
        exact op_le pins s σ' H x y v u Q I rx ry ⟨i, j, hx _ ed, hy _ ee, hq⟩
      | _ => rw [ed, ee] at hk; cases hk
    | _ => rw [ed] at hk; cases hk
  | gt =>
    cases ed : vw st d with
    | int i => cases ee : vw st e with
      | int j =>
        rw [ed, ee] at hk
        cases hk
        exact op_gt pins s σ' H x y v u Q I rx ry ⟨i, j, hx _ ed, hy _ ee, hq⟩
      | _ => rw [ed, ee] at hk; cases hk
    | _ => rw [ed] at hk; cases hk
  | ge =>
    cases ed : vw st d with
    | int i => cases ee : vw st e with
      | int j =>
        rw [ed, ee] at hk
        cases hk
        exact op_ge pins s σ' H x y v u Q I rx ry ⟨i, j, hx _ ed, hy _ ee, hq⟩
      | _ => rw [ed, ee] at hk; cases hk
    | _ => rw [ed] at hk; cases hk
end
end Rf

/-! Places, slices, built-in functions. -/
namespace Rf
open PySem PySem.Spec PyProof.Rows L2
section
variable {G : Gx} {bd : Nat → Nat} {base : Nat} {Wx : WX} {σ : L2.St} {W W' W1 W2 : Wd} {H H' H1 H2 : Hp} {st st' st1 st2 : Sto} {n n' : Nat}
theorem ixN_eq (n : Nat) (i : Int) : L2.ixN n i = Rf.ixN n i := rfl
theorem atI_ok {ds : List D} {xs : List V} {i : Int} {d : D} (h : DVs G W n H ds xs) (e : Rf.atI ds i = some d) : ∃ v, L2.atI xs i = some v ∧ DV G W n H d v := by
  unfold Rf.atI at e
  unfold L2.atI
  rw [h.len, ixN_eq]
  cases q : Rf.ixN ds.length i with
  | none => rw [q] at e; cases e
  | some j =>
    rw [q] at e
    exact h.get (show ds[j]? = some d from e)
theorem atI_nat' {s : List Nat} {i : Int} {c : Nat} (e : Rf.atI s i = some c) : L2.atI s i = some c := e
def rSub (G : Gx) (Wx : WX) : R2 := rBin G Wx fun x y st => opt (subD x y) st
theorem opt_end {o : Option D} {Q : VK} (h : Ans (DV G) G bd base Wx σ W H st (opt o st) Q) : ∃ d, o = some d ∧ Ans (DV G) G bd base Wx σ W H st (.ok d st) Q := by
  cases o with
  | some d => exact ⟨d, rfl, h⟩
  | none => exact h.elim
theorem sub_ok {X : Cx} (hK : X.K = G.K) (hu : X.A.units + 1 < cLine) : IxR X (rSub G Wx) := by
  intro value slice pins s σ' H x y v u Q I rx ry h hs
  obtain ⟨bd, base, σ, W, st, d, e, r, hd, he, h⟩ := h
  obtain ⟨z, hz, h⟩ := opt_end h
  cases ed : vw st d with
  | lst ds =>
    obtain ⟨p, xs, ex, h1, h2⟩ := vw_lst r hd ed
    cases ee : vw st e with
    | int i =>
      rw [ed, ee] at hz
      obtain ⟨w, hw, dw⟩ := atI_ok h2 hz
      exact ix_list value slice pins s σ' H x y v u Q I rx ry ⟨p, xs, i, w, ex, vw_int he ee, SqL.of h1, hw, h.here r dw⟩ hs
    | _ => rw [ed, ee] at hz; cases hz
  | tup ds =>
    obtain ⟨p, xs, ex, h1, h2⟩ := vw_tup hd ed
    cases ee : vw st e with
    | int i =>
      rw [ed, ee] at hz
      obtain ⟨w, hw, dw⟩ := atI_ok h2 hz
      exact ix_tup value slice pins s σ' H x y v u Q I rx ry ⟨p, xs, i, w, ex, vw_int he ee, by rw [hK]; exact h1, hw, h.here r dw⟩ hs
    | _ => rw [ed, ee] at hz; cases hz
  | frz ds =>
    obtain ⟨p, xs, ex, h1, h2⟩ := vw_frz hd ed
    cases ee : vw st e with
    | int i =>
      rw [ed, ee] at hz
      obtain ⟨w, hw, dw⟩ := atI_ok h2 hz
      exact ix_list value slice pins s σ' H x y v u Q I rx ry ⟨p, xs, i, w, ex, vw_int he ee, by rw [hK]; exact h1, hw, h.here r dw⟩ hs
    | _ => rw [ed, ee] at hz; cases hz
  | str t =>
    cases ee : vw st e with
    | int i =>
      rw [ed, ee] at hz
      have hz' : (if t.length ≤ SL then (Rf.atI t i).map fun c => D.str [c] else none) = some z := hz
      split at hz'
      · rename_i hl
        cases q : Rf.atI t i with
        | none => rw [q] at hz'; cases hz'
        | some c =>
          rw [q] at hz'
          have ez : D.str [c] = z := Option.some.inj hz'
          subst ez
          exact ix_str value slice pins s σ' H x y v u Q I rx ry ⟨⟨t.toArray⟩, i, c, vw_str hd ed, vw_int he ee, by rw [str_len, ← SL_eq]; exact hl, by show L2.atI t.toArray.toList i = some c; rw [List.toList_toArray]; exact q, h.here r rfl⟩ hs
      · cases hz'
    | _ => rw [ed, ee] at hz; cases hz
  | dct ks vs =>
    obtain ⟨p, kvs, ex, h1, h2, h3⟩ := vw_dct r hd ed
    rw [ed] at hz
    have hz' : (keyOf (vw st e)).bind (fun k => dGet ks vs k) = some z := hz
    cases ek : keyOf (vw st e) with
    | none => rw [ek] at hz'; cases hz'
    | some k =>
      rw [ek] at hz'
      have hg : dGet ks vs k = some z := hz'
      have sd : sc (vw st e) = true := by
        cases ev : vw st e <;> rw [ev] at ek <;> first | rfl | cases ek
      rw [vw_sc sd] at ek
      have ey := key_val he ek
      have q := dGet_ok (k := k) h2 h3
      rw [hg] at q
      obtain ⟨w, hw, dw⟩ := q
      subst ex
      obtain rfl : v = Value.ref p := rx
      have g : DGet H p y (some w) := .inl ⟨kvs, kyR k, h1, ey, hw.symm⟩
      exact PyProof.Rows.tail_any (dict_typeIs I g) PySem.F.slot_dict_getitem.lookup (d_getItem hu I g ry fun w' s3 I3 rw' => ⟨w, H, I3, rw', h.here r dw⟩) hs
  | _ => rw [ed] at hz; cases hz
/-! ### slices -/
theorem sIx_eq (n d : Nat) (o : Option Int) : HT.sIx n d o = Rf.sIx n d o := by
  cases o with
  | none => rfl
  | some v =>
    show (if v < 0 then (v + (n : Int)).toNat else min v.toNat n) = if 0 ≤ v then min v.toNat n else (v + n).toNat
    by_cases h : v < 0
    · rw [if_pos h, if_neg (by omega)]
    · rw [if_neg h, if_pos (by omega)]
theorem cut_ok {ds : List D} {xs : List V} {lo hi : Option Int} (h : DVs G W n H ds xs) : DVs G W n H (cutL ds lo hi) (cutV xs lo hi) := by
  unfold cutL cutV
  rw [sIx_eq, sIx_eq, h.len]
  exact (h.drop _).take _
def rSlc (G : Gx) (Wx : WX) (bx : Bool) : V → Option Int → Option Int → Hp → VK → Prop := fun x lo hi H Q => ∃ bd base σ W st d, RS G bd base W H st ∧ DV G W st.length H d x ∧ Ans (DV G) G bd base Wx σ W H st (slcR bx (vw st d) lo hi st) Q
theorem slc_ok {X : Cx} (hK : X.K = G.K) (bx : Bool) : SlR X (rSlc G Wx bx) := by
  intro pins s σ' H x v vl vu lo hi sl Q I rx hs pl pu h
  obtain ⟨bd, base, σ, W, st, d, r, hd, h⟩ := h
  cases ed : vw st d with
  | lst ds =>
    rw [ed] at h
    obtain ⟨p, xs, ex, h1, h2⟩ := vw_lst r hd ed
    exact sl_list pins s σ' H x v vl vu lo hi sl Q I rx hs pl pu ⟨p, xs, ex, SqL.of h1, (ans_lst r (cut_ok h2) h).2⟩
  | frz ds =>
    rw [ed] at h
    obtain ⟨p, xs, ex, h1, h2⟩ := vw_frz hd ed
    exact sl_list pins s σ' H x v vl vu lo hi sl Q I rx hs pl pu ⟨p, xs, ex, by rw [hK]; exact h1, (ans_lst r (cut_ok h2) h).2⟩
  | tup ds =>
    rw [ed] at h
    obtain ⟨p, xs, ex, h1, h2⟩ := vw_tup hd ed
    have h' : Ans (DV G) G bd base Wx σ W H st (.ok (.tup (cutL ds lo hi)) st) Q := h
    refine sl_tupA pins s σ' H x v vl vu lo hi sl Q I rx hs pl pu ⟨p, xs, ex, by rw [hK]; exact h1, fun z => ?_, fun _ q hq => ?_⟩
    · refine h'.here r ⟨p, xs, rfl, h1, ?_⟩
      have z2 := cut_ok (lo := lo) (hi := hi) h2
      unfold cutV at z2
      rw [z.1, z.2] at z2
      simpa using z2
    · obtain ⟨e, r'⟩ := alloc_any r hq (.tup (cutV xs lo hi))
      exact h' _ _ _ ⟨e, r'⟩ ⟨q, _, rfl, SqT.of upd_same, DVs.keep e r (Nat.le_refl _) (Nat.le_refl _) (cut_ok h2)⟩
  | str t =>
    rw [ed] at h
    have h' : Ans (DV G) G bd base Wx σ W H st (if t.length ≤ SL then .ok (.str (cutL t lo hi)) st else .bad) Q := h
    split at h'
    · rename_i hl
      refine sl_str pins s σ' H x v vl vu lo hi sl Q I rx hs pl pu ⟨⟨t.toArray⟩, vw_str hd ed, by rw [str_len, ← SL_eq]; exact hl, ?_⟩
      have e : cutS ⟨t.toArray⟩ lo hi = ⟨(cutL t lo hi).toArray⟩ := by
        unfold cutS cutL
        rw [str_len, sIx_eq, sIx_eq]
      rw [e]
      exact h'.here r rfl
    · exact h'.elim
  | _ => rw [ed] at h; exact h.elim
/-! ### built-in functions -/
def rBi (G : Gx) (Wx : WX) (b : Bi) (bx : Bool) : List V → Hp → VK → Prop := fun xs H Q => ∃ bd base σ W st ds, RS G bd base W H st ∧ DVs G W st.length H ds xs ∧ Ans (DV G) G bd base Wx σ W H st (biR b bx (ds.map (vw st)) st) Q
theorem DVs.one {ds : List D} {xs : List V} {f : D → D} {d' : D} (h : DVs G W n H ds xs) (e : ds.map f = [d']) : ∃ d v, ds = [d] ∧ xs = [v] ∧ f d = d' ∧ DV G W n H d v := by
  cases ds with
  | nil => cases e
  | cons d ds => cases ds with
    | nil =>
      obtain ⟨y, ys, rfl, h1, h2⟩ := h
      rw [show ys = [] from h2]
      rw [List.map_cons] at e
      injection e with e1 _
      exact ⟨d, y, rfl, rfl, e1, h1⟩
    | cons _ _ => cases e
theorem DVs.two {ds : List D} {xs : List V} {f : D → D} {d' e' : D} (h : DVs G W n H ds xs) (e : ds.map f = [d', e']) : ∃ d v d2 v2, ds = [d, d2] ∧ xs = [v, v2] ∧ f d = d' ∧ f d2 = e' ∧ DV G W n H d v ∧ DV G W n H d2 v2 := by
  cases ds with
  | nil => cases e
  | cons d ds =>
    rw [List.map_cons] at e
    injection e with e1 e2
    obtain ⟨y, ys, rfl, h1, h2⟩ := h
    obtain ⟨d2, v2, rfl, rfl, e3, h3⟩ := h2.one e2
    exact ⟨d, y, d2, v2, rfl, rfl, e1, e3, h1, h3⟩
theorem intsOf_ok : ∀ {ds : List D} {xs : List V} {ns : List Int}, DVs G W n H ds xs → intsOf ds = some ns → xs = ns.map V.int
  | [], _, _, h, e => by cases e; exact h
  | d :: ds, _, ns, h, e => by
    obtain ⟨y, ys, rfl, h1, h2⟩ := h
    cases d with
    | int i =>
      have e' : (intsOf ds).map (i :: ·) = some ns := e
      cases q : intsOf ds with
      | none => rw [q] at e'; cases e'
      | some ms =>
        rw [q] at e'
        cases e'
        rw [intsOf_ok h2 q, show y = V.int i from h1]; rfl
    | _ => cases e
theorem boolsOf_ok : ∀ {ds : List D} {xs : List V} {ns : List Bool}, DVs G W n H ds xs → boolsOf ds = some ns → xs = ns.map V.bl
  | [], _, _, h, e => by cases e; exact h
  | d :: ds, _, ns, h, e => by
    obtain ⟨y, ys, rfl, h1, h2⟩ := h
    cases d with
    | bl i =>
      have e' : (boolsOf ds).map (i :: ·) = some ns := e
      cases q : boolsOf ds with
      | none => rw [q] at e'; cases e'
      | some ms =>
        rw [q] at e'
        cases e'
        rw [boolsOf_ok h2 q, show y = V.bl i from h1]; rfl
    | _ => cases e
theorem keyInts_ok : ∀ {ks : List Ky} {ns : List Int}, keyInts ks = some ns → ks.map kyR = ns.map fun i => (Sum.inl i : Key)
  | [], _, e => by cases e; rfl
  | .inl i :: ks, ns, e => by
    have e' : (keyInts ks).map (i :: ·) = some ns := e
    cases q : keyInts ks with
    | none => rw [q] at e'; cases e'
    | some ms =>
      rw [q] at e'
      cases e'
      rw [List.map_cons, List.map_cons, keyInts_ok q]; rfl
  | .inr i :: ks, ns, e => by cases e
theorem fold_max : ∀ (xs : List Int) (x : Int), (xs.foldl max x = x ∨ xs.foldl max x ∈ xs) ∧ x ≤ xs.foldl max x ∧ ∀ y, y ∈ xs → y ≤ xs.foldl max x
  | [], x => ⟨.inl rfl, Int.le_refl _, fun y hy => by cases hy⟩
  | a :: r, x => by
    obtain ⟨h1, h2, h3⟩ := fold_max r (max x a)
    rw [List.foldl_cons]
    refine ⟨?_, by omega, fun y hy => ?_⟩
    · rcases h1 with h1 | h1
      · rw [h1]
        by_cases q : x ≤ a
        · exact .inr (by rw [Int.max_eq_right q]; exact List.mem_cons_self)
        · exact .inl (Int.max_eq_left (by omega))
      · exact .inr (List.mem_cons_of_mem _ h1)
    · rcases List.mem_cons.mp hy with rfl | hy
      · omega
      · exact h3 y hy
theorem maxL_ok {ns : List Int} {m : Int} (e : maxL ns = some m) : m ∈ ns ∧ ∀ y, y ∈ ns → y ≤ m := by
  cases ns with
  | nil => cases e
  | cons x xs =>
    have e' : xs.foldl max x = m := Option.some.inj e
    obtain ⟨h1, h2, h3⟩ := fold_max xs x
    rw [e'] at h1 h2 h3
    refine ⟨?_, fun y hy => ?_⟩
    · rcases h1 with h1 | h1
      · rw [h1]; exact List.mem_cons_self
      · exact List.mem_cons_of_mem _ h1
    · rcases List.mem_cons.mp hy with rfl | hy
      · exact h2
      · exact h3 y hy
theorem max_uniq {ns : List Int} {m m' : Int} (h1 : m ∈ ns) (h2 : ∀ y, y ∈ ns → y ≤ m) (h3 : m' ∈ ns) (h4 : ∀ y, y ∈ ns → y ≤ m') : m = m' := by
  have := h2 _ h3
  have := h4 _ h1
  omega

theorem insI_perm (x : Int) : ∀ ys : List Int, (insI x ys).Perm (x :: ys)
  | [] => .refl _
  | y :: ys => by
    unfold insI
    split
    · exact .refl _
    · exact ((insI_perm x ys).cons y).trans (.swap x y ys)
theorem sortI_perm : ∀ xs : List Int, (sortI xs).Perm xs
  | [] => .refl _
  | x :: xs => (insI_perm x _).trans ((sortI_perm xs).cons x)
theorem insI_sorted (x : Int) : ∀ {ys : List Int}, ys.Pairwise (· ≤ ·) → (insI x ys).Pairwise (· ≤ ·)
  | [], _ => .cons (fun _ h => by cases h) .nil
  | y :: ys, h => by
    unfold insI
    obtain ⟨h1, h2⟩ := List.pairwise_cons.mp h
    split
    · rename_i q
      exact .cons (fun z hz => by
        rcases List.mem_cons.mp hz with rfl | hz
        · exact q
        · have := h1 z hz; omega) h
    · rename_i q
      refine .cons (fun z hz => ?_) (insI_sorted x h2)
      rcases List.mem_cons.mp ((insI_perm x ys).mem_iff.mp hz) with rfl | hz
      · omega
      · exact h1 z hz
theorem sortI_sorted : ∀ xs : List Int, (sortI xs).Pairwise (· ≤ ·)
  | [] => .nil
  | x :: xs => insI_sorted x (sortI_sorted xs)
theorem sort_uniq : ∀ {xs ys : List Int}, xs.Perm ys → xs.Pairwise (· ≤ ·) → ys.Pairwise (· ≤ ·) → xs = ys
  | [], ys, p, _, _ => (List.nil_perm.mp p).symm
  | x :: xs, [], p, _, _ => absurd (List.perm_nil.mp p) (by simp)
  | x :: xs, y :: ys, p, h, g => by
    obtain ⟨h1, h2⟩ := List.pairwise_cons.mp h
    obtain ⟨g1, g2⟩ := List.pairwise_cons.mp g
    have e : x = y := by
      have m1 : x ∈ y :: ys := p.mem_iff.mp List.mem_cons_self
      have m2 : y ∈ x :: xs := p.mem_iff.mpr List.mem_cons_self
      rcases List.mem_cons.mp m1 with e | m1
      · exact e
      · rcases List.mem_cons.mp m2 with e | m2
        · exact e.symm
        · have := g1 x m1; have := h1 y m2; omega
    subst e
    rw [sort_uniq (List.Perm.cons_inv p) h2 g2]
theorem dvs_ints : ∀ ns : List Int, DVs G W n H (ns.map D.int) (ns.map V.int)
  | [] => rfl
  | i :: ns => ⟨_, _, rfl, rfl, dvs_ints ns⟩
theorem dvs_keys : ∀ {ks : List Ky} {kvs : List (Key × V)}, kvs.map (·.1) = ks.map kyR → DVs G W n H (ks.map ofKey) (kvs.map fun kv => kV kv.1)
  | [], kvs, h => by
    have e : kvs = [] := by simpa using h
    subst e; rfl
  | k :: ks, [], h => by cases h
  | k :: ks, p :: kvs, h => by
    rw [List.map_cons, List.map_cons] at h
    injection h with h1 h2
    refine ⟨_, _, rfl, ?_, dvs_keys h2⟩
    dsimp only
    rw [h1]
    cases k <;> rfl
theorem str_digI (i : Int) : (toString i : Str) = ⟨(digI i).toArray⟩ := Str.ofString_eq_toList _
theorem intText_ok {s : List Nat} (hl : s.length ≤ 4300) (h : isNat10 s = true) : PySem.intText? ⟨s.toArray⟩ = some (natOf s : Int) := by
  obtain ⟨h1, h2⟩ := Bool.and_eq_true_iff.mp h
  have q := SX.int_S (a := s) h2 (by intro z; subst z; cases h1) hl
  exact q
theorem lenD_ok {d : D} {v : V} {k : Int} (hK : K' = G.K) (r : RS G bd base W H st) (hd : DV G W st.length H d v) (hk : lenD (vw st d) = some k) :
    (∃ m, LenV K' v H m ∧ (m : Int) = k) ∨ ∃ a kvs, v = .ref a ∧ Rd H a (.dK kvs) ∧ (kvs.length : Int) = k := by
  cases ed : vw st d with
  | str s =>
    rw [ed] at hk
    have hk' : (if s.length ≤ SL then some (s.length : Int) else none) = some k := hk
    split at hk'
    · rename_i hl
      refine .inl ⟨s.length, ?_, Option.some.inj hk'⟩
      rw [vw_str hd ed]
      exact ⟨by rw [str_len, ← SL_eq]; exact hl, (str_len s).symm⟩
    · cases hk'
  | lst ds =>
    rw [ed] at hk
    obtain ⟨p, xs, ex, h1, h2⟩ := vw_lst r hd ed
    refine .inl ⟨xs.length, ?_, by rw [h2.len]; exact Option.some.inj hk⟩
    rw [ex]; exact .inl ⟨xs, SqL.of h1, rfl⟩
  | tup ds =>
    rw [ed] at hk
    obtain ⟨p, xs, ex, h1, h2⟩ := vw_tup hd ed
    refine .inl ⟨xs.length, ?_, by rw [h2.len]; exact Option.some.inj hk⟩
    rw [ex]; exact .inr ⟨xs, by rw [hK]; exact h1, rfl⟩
  | frz ds =>
    rw [ed] at hk
    obtain ⟨p, xs, ex, h1, h2⟩ := vw_frz hd ed
    refine .inl ⟨xs.length, ?_, by rw [h2.len]; exact Option.some.inj hk⟩
    rw [ex]; exact .inl ⟨xs, by rw [hK]; exact h1, rfl⟩
  | dct ks vs =>
    rw [ed] at hk
    obtain ⟨p, kvs, ex, h1, h2, _⟩ := vw_dct r hd ed
    refine .inr ⟨p, kvs, ex, h1, ?_⟩
    have := congrArg List.length h2
    rw [List.length_map, List.length_map] at this
    rw [this]; exact Option.some.inj hk
  | _ => rw [ed] at hk; cases hk
def biV : Bi → Value
  | .len => .builtin "len" | .abs => .builtin "abs" | .sum => .builtin "sum" | .all => .builtin "all" | .any => .builtin "any" | .max1 => .builtin "max" | .max2 => .builtin "max" | .min2 => .builtin "min"
  | .sorted => .builtin "sorted" | .tuple => .type "tuple" | .list => .type "list" | .dict => .type "dict" | .int => .type "int" | .str => .type "str" | .bool => .type "bool" | .divmod => .builtin "divmod"
theorem call_lenDR {X : Cx} : CallR X (.builtin "len") (fun xs H Q => ∃ a kvs, xs = [V.ref a] ∧ Rd H a (.dK kvs) ∧ Q (.int kvs.length) H) := by
  intro pins s σ H xs us Q I r h
  obtain ⟨a, kvs, rfl, ha, q⟩ := h
  obtain ⟨u, rfl, ru⟩ := vals1 r
  cases ru
  exact d_len I ha fun t s' I' => ⟨.int kvs.length, H, I', ⟨t, rfl⟩, q⟩
theorem bi_ok {X : Cx} (hK : X.K = G.K) (hc : X.calm = true) (b : Bi) (bx : Bool) : CallR X (biV b) (rBi G Wx b bx) := by
  intro pins s σ' H xs us Q I rx h
  obtain ⟨bd, base, σ, W, st, ds, r, hd, h⟩ := h
  revert h
  generalize hm : ds.map (vw st) = ms
  intro h
  unfold biR at h
  split at h
  · obtain ⟨d, v, rfl, rfl, rfl, h1⟩ := hd.one hm
    obtain ⟨k, hk, h⟩ := Ans.opt h
    rcases lenD_ok hK r h1 hk with ⟨m, h2, rfl⟩ | ⟨a, kvs, rfl, h2, rfl⟩
    · exact call_len pins s σ' H _ us Q I rx ⟨v, m, rfl, h2, h.here r rfl⟩
    · exact call_lenDR pins s σ' H _ us Q I rx ⟨a, kvs, rfl, h2, h.here r rfl⟩
  · obtain ⟨d, v, rfl, rfl, e, h1⟩ := hd.one hm
    exact call_abs pins s σ' H _ us Q I rx ⟨_, by rw [vw_int h1 e], h.here r rfl⟩
  · obtain ⟨d, v, rfl, rfl, e, h1⟩ := hd.one hm
    obtain ⟨ns, hn, h⟩ := Ans.opt h
    obtain ⟨p, ys, rfl, h2, h3⟩ := vw_lst r h1 e
    exact cr_sum hc pins s σ' H _ us Q I rx ⟨p, ns, rfl, SqL.of (by rw [h2, intsOf_ok h3 hn]), h.here r rfl⟩
  · obtain ⟨d, v, rfl, rfl, e, h1⟩ := hd.one hm
    obtain ⟨ns, hn, h⟩ := Ans.opt h
    obtain ⟨p, ys, rfl, h2, h3⟩ := vw_lst r h1 e
    exact cr_all hc pins s σ' H _ us Q I rx ⟨p, ns, rfl, SqL.of (by rw [h2, boolsOf_ok h3 hn]), h.here r rfl⟩
  · obtain ⟨d, v, rfl, rfl, e, h1⟩ := hd.one hm
    obtain ⟨ns, hn, h⟩ := Ans.opt h
    obtain ⟨p, ys, rfl, h2, h3⟩ := vw_lst r h1 e
    exact cr_any hc pins s σ' H _ us Q I rx ⟨p, ns, rfl, SqL.of (by rw [h2, boolsOf_ok h3 hn]), h.here r rfl⟩
  · rename_i es
    obtain ⟨d, v, rfl, rfl, e, h1⟩ := hd.one hm
    obtain ⟨m, hn, h⟩ := Ans.opt h
    obtain ⟨p, ys, rfl, h2, h3⟩ := vw_lst r h1 e
    cases hi : intsOf es with
    | none => rw [hi] at hn; cases hn
    | some ns =>
      rw [hi] at hn
      have hn' : maxL ns = some m := hn
      obtain ⟨g1, g2⟩ := maxL_ok hn'
      refine cr_max hc pins s σ' H _ us Q I rx ⟨p, ns, rfl, SqL.of (by rw [h2, intsOf_ok h3 hi]), List.length_pos_of_mem g1, fun m' g3 g4 => ?_⟩
      rw [max_uniq g3 g4 g1 g2]
      exact h.here r rfl
  · obtain ⟨d, v, d2, v2, rfl, rfl, e, e2, h1, h2⟩ := hd.two hm
    exact call_max2 hc pins s σ' H _ us Q I rx ⟨_, _, by rw [vw_int h1 e, vw_int h2 e2], h.here r rfl⟩
  · obtain ⟨d, v, d2, v2, rfl, rfl, e, e2, h1, h2⟩ := hd.two hm
    exact call_min2 hc pins s σ' H _ us Q I rx ⟨_, _, by rw [vw_int h1 e, vw_int h2 e2], h.here r rfl⟩
  · obtain ⟨d, v, rfl, rfl, e, h1⟩ := hd.one hm
    obtain ⟨ns, hn, h⟩ := Ans.opt h
    obtain ⟨p, ys, rfl, h2, h3⟩ := vw_lst r h1 e
    refine cr_sortedI pins s σ' H _ us Q I rx ⟨p, ns, rfl, SqL.of (by rw [h2, intsOf_ok h3 hn]), fun ns' q pm so hq => ?_⟩
    rw [sort_uniq (pm.trans (sortI_perm ns).symm) so (sortI_sorted ns)]
    exact (ans_lst r (dvs_ints _) h).2 q hq
  · obtain ⟨d, v, rfl, rfl, e, h1⟩ := hd.one hm
    obtain ⟨ns, hn, h⟩ := Ans.opt h
    split at h
    · rename_i hlt
      obtain ⟨p, kvs, rfl, h2, h3, _⟩ := vw_dct r h1 e
      refine call_sortedDI hc pins s σ' H _ us Q I rx ⟨p, kvs, ns, rfl, h2, h3.trans (keyInts_ok hn), hlt, fun ns' q pm so hq => ?_⟩
      rw [sort_uniq (pm.trans (sortI_perm ns).symm) so (sortI_sorted ns)]
      exact (ans_lst r (dvs_ints _) h).2 q hq
    · exact h.elim
  · obtain ⟨d, v, rfl, rfl, e, h1⟩ := hd.one hm
    obtain ⟨p, ys, rfl, h2, h3⟩ := vw_lst r h1 e
    refine call_tuple_of pins s σ' H _ us Q I rx ⟨p, ys, rfl, .inl ⟨SqL.of h2, fun q hq => ?_⟩⟩
    obtain ⟨e', r'⟩ := alloc_any r hq (.tup ys)
    exact h _ _ _ ⟨e', r'⟩ ⟨q, ys, rfl, SqT.of upd_same, DVs.keep e' r (Nat.le_refl _) (Nat.le_refl _) h3⟩
  · obtain ⟨d, v, rfl, rfl, e, h1⟩ := hd.one hm
    obtain ⟨p, ys, rfl, h2, h3⟩ := vw_tup h1 e
    exact call_tuple_of pins s σ' H _ us Q I rx ⟨p, ys, rfl, .inr ⟨by rw [hK]; exact h2, h.here r ⟨p, ys, rfl, h2, h3⟩⟩⟩
  · obtain ⟨d, v, rfl, rfl, e, h1⟩ := hd.one hm
    obtain ⟨p, ys, rfl, h2, h3⟩ := vw_lst r h1 e
    exact call_list_of pins s σ' H _ us Q I rx ⟨p, ys, rfl, .inl (SqL.of h2), (ans_lst r h3 h).2⟩
  · obtain ⟨d, v, rfl, rfl, e, h1⟩ := hd.one hm
    obtain ⟨p, ys, rfl, h2, h3⟩ := vw_tup h1 e
    exact call_list_of pins s σ' H _ us Q I rx ⟨p, ys, rfl, .inr (by rw [hK]; exact h2), (ans_lst r h3 h).2⟩
  · obtain ⟨d, v, rfl, rfl, e, h1⟩ := hd.one hm
    obtain ⟨p, kvs, rfl, h2, h3, _⟩ := vw_dct r h1 e
    exact call_listD hc pins s σ' H _ us Q I rx ⟨p, kvs, rfl, h2, (ans_lst r (dvs_keys h3) h).2⟩
  · obtain ⟨d, v, rfl, rfl, e, h1⟩ := hd.one hm
    obtain ⟨p, kvs, rfl, h2, h3, h4⟩ := vw_dct r h1 e
    exact call_dictD pins s σ' H _ us Q I rx ⟨p, kvs, rfl, h2, (ans_dct r h3 h4 h).2⟩
  · obtain ⟨d, v, rfl, rfl, e, h1⟩ := hd.one hm
    exact call_int1 pins s σ' H _ us Q I rx (.inl ⟨_, by rw [vw_int h1 e], h.here r rfl⟩)
  · obtain ⟨d, v, rfl, rfl, e, h1⟩ := hd.one hm
    have q := vw_id e (by intro _ z; cases z) (by intro _ _ z; cases z)
    subst q
    exact call_int1 pins s σ' H _ us Q I rx (.inr ⟨_, by rw [show v = V.bl _ from h1], h.here r rfl⟩)
  · obtain ⟨d, v, rfl, rfl, e, h1⟩ := hd.one hm
    split at h
    · rename_i hz
      obtain ⟨z1, z2⟩ := Bool.and_eq_true_iff.mp hz
      exact call_int_str pins s σ' H _ us Q I rx ⟨_, _, by rw [vw_str h1 e], intText_ok (by have := of_decide_eq_true z2; omega) z1, by rw [str_len]; have := of_decide_eq_true z2; omega, h.here r rfl⟩
    · exact h.elim
  · obtain ⟨d, v, rfl, rfl, e, h1⟩ := hd.one hm
    split at h
    · rename_i hz
      exact call_str_int pins s σ' H _ us Q I rx ⟨_, by rw [vw_int h1 e], of_decide_eq_true hz, by rw [str_digI]; exact h.here r rfl⟩
    · exact h.elim
  · rename_i i j
    obtain ⟨d, v, d2, v2, rfl, rfl, e, e2, h1, h2⟩ := hd.two hm
    split at h
    · rename_i hz
      obtain ⟨z1, z2⟩ := Bool.and_eq_true_iff.mp hz
      refine call_divmodW pins s σ' H _ us Q I rx ⟨_, _, by rw [vw_int h1 e, vw_int h2 e2], ⟨of_decide_eq_true z1, PyProof.noPylong_of_log2 (of_decide_eq_true z2)⟩, fun q hq => ?_⟩
      obtain ⟨e', r'⟩ := alloc_any r hq (.tup [.int (i / j), .int (i % j)])
      exact h _ _ _ ⟨e', r'⟩ ⟨q, _, rfl, SqT.of upd_same, _, _, rfl, rfl, _, _, rfl, rfl, rfl⟩
    · exact h.elim
  · exact h.elim
/-! ### isinstance -/
def kiN : Ki → String
  | .int => "int" | .bool => "bool" | .str => "str" | .tuple => "tuple" | .list => "list" | .dict => "dict"
theorem isKi_ok {X : Cx} (hK : X.K = G.K) (k : Ki) {b : Bool} {d : D} {v : V} (r : RS G bd base W H st) (hd : DV G W st.length H d v) (hb : isKi (vw st d) k = some b) : ∃ t, TyX X.K H v (.type t) ∧ kitB t (kiN k) = some b := by
  cases ed : vw st d with
  | non =>
    have e := vw_id ed (by intro _ z; cases z) (by intro _ _ z; cases z)
    subst e
    rw [show v = V.non from hd]
    refine ⟨"NoneType", .base .non, ?_⟩
    rw [ed] at hb
    cases k <;> (cases hb; decide +kernel)
  | bl c =>
    have e := vw_id ed (by intro _ z; cases z) (by intro _ _ z; cases z)
    subst e
    rw [show v = V.bl c from hd]
    refine ⟨"bool", .base (.bl c), ?_⟩
    rw [ed] at hb
    cases k <;> (cases hb; decide +kernel)
  | int c =>
    rw [vw_int hd ed]
    refine ⟨"int", .base (.int c), ?_⟩
    rw [ed] at hb
    cases k <;> (cases hb; decide +kernel)
  | str c =>
    rw [vw_str hd ed]
    refine ⟨"str", .base (.str _), ?_⟩
    rw [ed] at hb
    cases k <;> (cases hb; decide +kernel)
  | lst ds =>
    obtain ⟨p, xs, rfl, h1, _⟩ := vw_lst r hd ed
    refine ⟨"list", .base (.lst h1), ?_⟩
    rw [ed] at hb
    cases k <;> (cases hb; decide +kernel)
  | dct ks vs =>
    obtain ⟨p, kvs, rfl, h1, _⟩ := vw_dct r hd ed
    refine ⟨"dict", ?_, ?_⟩
    · rcases h1 with h1 | ⟨o, h1⟩
      · exact .base (.dK h1)
      · exact .fDict h1
    · rw [ed] at hb
      cases k <;> (cases hb; decide +kernel)
  | tup ds =>
    obtain ⟨p, xs, rfl, h1, _⟩ := vw_tup hd ed
    refine ⟨"tuple", ?_, ?_⟩
    · rw [hK]
      rcases h1 with (h1 | ⟨o, h1⟩) | ⟨o, its, n, h1, h2, _⟩
      · exact .base (.tup h1)
      · exact .fTuple h1
      · exact .kTuple h1 h2
    · rw [ed] at hb
      cases k <;> (cases hb; decide +kernel)
  | frz ds =>
    obtain ⟨p, xs, rfl, h1, _⟩ := vw_frz hd ed
    refine ⟨"list", ?_, ?_⟩
    · rw [hK]
      rcases h1 with (h1 | ⟨o, h1⟩) | ⟨o, its, n, h1, h2, _⟩
      · exact .base (.lst h1)
      · exact .base (.frz h1)
      · exact .kList h1 h2
    · rw [ed] at hb
      cases k <;> (cases hb; decide +kernel)
  | _ => rw [ed] at hb; cases k <;> cases hb
end
end Rf

/-! Own exception classes: what is known of one. -/
namespace Rf
open PySem PySem.Spec PyProof.Rows L2
def initH (H : Hp) (a C dx : Addr) (fs : List (Str × V)) : Hp := upd (upd H dx (exd dx fs)) a (exo a C (some dx))
def spInit (K : PySem.W.Frag) (C : Addr) (fl : List Str) : Sp := fun vs H Q E => ∃ a ys, vs = .ref a :: ys ∧ ys.length = fl.length ∧ fl ≠ [] ∧ fl.length ≤ 100 ∧ OexC K C ∧ (∀ f ∈ fl, PySem.W.findIn K (.ref C) f = some none) ∧ H a = some (exo a C none) ∧
  ∀ dx, H dx = none → dx ≠ a → Q .non (initH H a C dx (fl.zip ys).reverse)
/-- a class whose instances are raised: its __init__ keeps its fields -/
structure ClsOk (G : Gx) (c : Nat) (x : Str) : Prop where
  mg : G.mg x = some (.ref (G.ca c))
  T : OexC G.K (G.ca c)
  no : ∀ f ∈ G.cf c, PySem.W.findIn G.K (.ref (G.ca c)) f = some none
  ne : G.cf c ≠ []
  le : (G.cf c).length ≤ 100
  xf : XfC G.K (G.ca c)
  ini : ∃ fI fd ps, PySem.W.findIn G.K (.ref (G.ca c)) "__init__" = some (some (.ref fI)) ∧ PySem.W.typeIn G.K (.ref fI) = some (.type "function") ∧ Binds G.K fd ps [] ∧
    (∀ (s : Shared) (v : Value) (ws : List Value), G.K.In s.heap → ws.length = (G.cf c).length → BindsTo s fd ⟨[v], (G.cf c).zip ws⟩ (ps.zip (v :: ws))) ∧ ps.length = (G.cf c).length + 1 ∧
    FnOk G.P G.w G.K G.mg G.base (L2N.CX G.P G.w) 1 fI fd ps (spInit G.K (G.ca c) (G.cf c))
/-- a class without an __init__ of its own -/
structure ClsZ (G : Gx) (c : Nat) (x : Str) : Prop where
  mg : G.mg x = some (.ref (G.ca c))
  Z : OexZ G.K (G.ca c)
end Rf

/-! The walk of expressions, once for all: what the evaluator says of an expression, the model does. -/
namespace Rf
open PySem PySem.Spec PyProof.Rows L2
/-- the program's names -/
structure Tx where
  fname : Nat → Option Str
  mname : Nat → Option Str
  consts : List (String × D)
  /-- keywords: def, number of plain values, where each parameter behind these comes from, the names -/
  kbs : List (Nat × Nat × List Nat × List Str)
  /-- own exception classes: name, fields in the order of __init__'s parameters -/
  cls : Nat → Option (Str × List Str) := fun _ => none
  /-- classes' names -/
  cnm : Nat → Option Str := fun _ => none
  /-- is class c one of class h? -/
  exms : List (Nat × Nat × Bool) := []
  /-- isinstance: is class c one of class h? -/
  kits : List (Nat × Nat × Bool) := []
  /-- the defs that are called within an except suite -/
  hots : List Nat := []
  /-- within an except suite -/
  hot : Bool := false
/-! ### the same expression -/
def cstOk : Const → D → Bool
  | .none, .non => true
  | .bool a, .bl b => a == b
  | .int a, .int b => decide (a = b)
  | .str a, .str b => decide (a.cps.toList = b)
  | _, _ => false
def visB (sc : Scope) (x : Str) : Bool := match sc.names.lookup x with
  | some .local => true
  | some .cell => true
  | some .free => true
  | _ => false
def locB (sc : Scope) (x : Str) : Bool := match sc.names.lookup x with
  | some .local => true
  | some .cell => true
  | _ => false
def glB (sc : Scope) (x : Str) : Bool := match sc.names.lookup x with
  | some .globalImplicit => !(x == ("__debug__" : Str))
  | _ => false
def varB (N : List Str) (sc : Scope) (i : Nat) (x : Str) : Bool := (match N[i]? with
  | some y => decide (y = x)
  | none => false) && (visB sc x && (!(x == ("__debug__" : Str)) && !(x == ("__classdict__" : Str))))
def opB (op : Op) (o : Operator) : Bool := decide (opR op = o)
def biName : Bi → Str
  | .len => "len" | .abs => "abs" | .sum => "sum" | .all => "all" | .any => "any" | .max1 => "max" | .max2 => "max" | .min2 => "min"
  | .sorted => "sorted" | .tuple => "tuple" | .list => "list" | .dict => "dict" | .int => "int" | .str => "str" | .bool => "bool" | .divmod => "divmod"
def biNames : List Str := ["len", "abs", "sum", "all", "any", "max", "min", "sorted", "tuple", "list", "dict", "int", "str", "bool", "divmod", "isinstance", "range", "zip", "enumerate"]
def boolOpOf (op : BoolOp) (p : Expr) (rest : List Expr) (pos : Pos) : Expr := match rest with
  | [] => p
  | q :: r => .BoolOp op (p :: q :: r) pos
def mtName : Mt → Str
  | .get1 => "get" | .get2 => "get" | .join => "join" | .split1 => "split" | .append => "append" | .extend => "extend" | .pop0 => "pop" | .pop1 => "pop" | .dpop2 => "pop" | .startswith => "startswith"
  | .strip => "strip" | .upper => "upper" | .items => "items"
/-- a callee's base is no call super() -/
def plainBase : Expr → Bool
  | .Call (.Name _ _) [] [] _ => false
  | _ => true
section
variable (T : Tx) (N : List Str)
/-- a target of names in a comprehension: its own -/
def locC (scope rel : Scope) (x : Str) : Bool := match rel.names.lookup x with
  | some .local => true
  | some .cell => (match scope.names.lookup x with
    | some .cell => true
    | _ => false)
  | _ => false
def ownB (N : List Str) (scope rel : Scope) (own : List Nat) (i : Nat) (x : Str) : Bool := (match N[i]? with
    | some y => decide (y = x)
    | none => false) && (locC scope rel x && decide (i ∈ own))
def chkTns (scope rel : Scope) (own : List Nat) : List Nat → List Expr → Bool
  | [], [] => true
  | i :: is, .Name x _ :: ps => ownB N scope rel own i x && chkTns scope rel own is ps
  | _, _ => false
def chkTn (scope rel : Scope) (own : List Nat) : Tn → Expr → Bool
  | .nm i, .Name x _ => ownB N scope rel own i x
  | .tup is, .Tuple ps _ _ => chkTns N scope rel own is ps
  | _, _ => false
def chkKeys : List E → List (Option Expr) → Bool
  | [], [] => true
  | .cst d :: es, some (.Constant c _ _) :: ps => cstOk c d && ((keyOf d).isSome && chkKeys es ps)
  | _, _ => false
def noKeys : I → Bool
  | .keys _ => false
  | _ => true
def kitB (T : Tx) (h : Nat) (cs ns : List Nat) : Bool := (cs.all fun c => T.kits.any fun p => decide (p = (c, h, true))) && ns.all fun c => T.kits.any fun p => decide (p = (c, h, false))
/-- what may stand within an except suite -/
def hotBi : Bi → Bool
  | .len | .all | .tuple => true
  | _ => false
def hotI : I → Bool
  | .enul _ | .zip _ _ | .keys _ => true
  | _ => false
def plainE : Expr → Bool
  | .Starred _ _ => false
  | .Set _ _ _ => false
  | .Slice _ _ _ _ => false
  | .BoolOp _ _ _ => false
  | .UnaryOp _ _ _ => false
  | .Compare _ _ _ _ => false
  | .IfExp _ _ _ _ => false
  | .ListComp _ _ _ _ => false
  | _ => true
mutual
def chkE : Scope → E → Expr → Bool
  | _, .bad, p => plainE p
  | _, .cst d, .Constant c _ _ => cstOk c d
  | sc, .var i, .Name x _ => varB N sc i x
  | sc, .glc y d, .Name x _ => decide (x = Str.ofString y) && (glB sc x && T.consts.any fun p => decide (p.1 = y) && sameD p.2 d)
  | sc, .glf f, .Name x _ => glB sc x && decide (T.fname f = some x)
  | sc, .bin op _ a b, .BinOp pa o pb _ => opB op o && (chkE sc a pa && chkE sc b pb)
  | sc, .neg a, .UnaryOp .USub pa _ => chkE sc a pa
  | sc, .lnot a, .UnaryOp .Not pa _ => chkE sc a pa
  | sc, .land a b, .BoolOp .And (pa :: pb :: rest) pos => chkE sc a pa && chkE sc b (boolOpOf .And pb rest pos)
  | sc, .lor a b, .BoolOp .Or (pa :: pb :: rest) pos => chkE sc a pa && chkE sc b (boolOpOf .Or pb rest pos)
  | sc, .ife c a b, .IfExp pc pa pb _ => chkE sc c pc && (chkE sc a pa && chkE sc b pb)
  | sc, .cmp op a b, .Compare pa [o] [pb] _ => decide (cmR op = o) && (chkE sc a pa && chkE sc b pb)
  | sc, .chain op op' a b c, .Compare pa [o, o'] [pb, pc] _ => decide (cmR op = o) && (decide (cmR op' = o') && (chkE sc a pa && (chkE sc b pb && chkE sc c pc)))
  | sc, .tup es, .Tuple pes _ _ => chkEs sc es pes
  | sc, .lst _ es, .List pes _ => chkEs sc es pes
  | _, .dct _ [] [], .Dict [] [] _ => true
  | sc, .dct _ (k :: ks) vs, .Dict (pk :: pks) pvs _ => chkKeys (k :: ks) (pk :: pks) && (decide ((pk :: pks).length ≤ 15) && (decide ((pk :: pks).length = pvs.length) && chkEs sc vs pvs))
  | sc, .mkx c es, .Call (.Name x _) pes [] _ => !T.hot && (glB sc x && ((match T.cls c with | some q => decide (x = q.1) && decide (es.length = q.2.length) | none => false) && chkEs sc es pes))
  | sc, .mkxk c es, .Call (.Name x _) [] kws _ => !T.hot && (glB sc x && ((match T.cls c with | some q => decide (x = q.1) && (decide (kws.map (·.arg) = q.2.map some) && !q.2.isEmpty) | none => false) && chkKw sc es kws))
  | sc, .isx i h cs ns, .Call (.Name x _) [.Name y _, .Name z _] [] _ => glB sc x && (decide (x = ("isinstance" : Str)) && (varB N sc i y && (glB sc z && (decide (T.cnm h = some z) && kitB T h cs ns))))
  | sc, .callx _ f i es, .Call (.Name x _) (.Name y _ :: pes) [] _ => T.hot && (decide (f ∈ T.hots) && (glB sc x && (decide (T.fname f = some x) && (varB N sc i y && chkEs sc es pes))))
  | sc, .xf i tbl, .Attribute (.Name x _) f _ => varB N sc i x && ( tbl.all fun p => match T.cls p.1 with | some q => decide (q.2[p.2]? = some f) && decide (q.2.Nodup) | none => false)
  | sc, .sub a i, .Subscript pa pi _ => chkE sc a pa && chkE sc i pi
  | sc, .slc _ a lo hi, .Subscript pa (.Slice plo phi none _) _ => chkE sc a pa && (chkO sc lo plo && chkO sc hi phi)
  | sc, .maxd e i, .Call (.Name x _) [pe] [⟨some d, .Constant (.int j) _ _, _⟩] _ => !T.hot && (glB sc x && (decide (x = ("max" : Str)) && (decide (d = ("default" : Str)) && (decide (i = j) && chkE sc e pe))))
  | sc, .callk _ f perm es ks, .Call (.Name x _) pes kws _ => !T.hot && (glB sc x && (decide (T.fname f = some x) && ((T.kbs.any fun q => decide (q = (f, es.length, perm, q.2.2.2)) && decide (kws.map (·.arg) = q.2.2.2.map some)) && (chkEs sc es pes && chkKw sc ks kws))))
  | sc, .call _ f es, .Call (.Name x _) pes [] _ => (!T.hot || (decide (f ∈ T.hots) && !pes.isEmpty)) && (glB sc x && (decide (T.fname f = some x) && chkEs sc es pes))
  | sc, .callv _ i es, .Call (.Name x _) pes [] _ => !T.hot && (varB N sc i x && (!pes.isEmpty && chkEs sc es pes))
  | sc, .bi b _ es, .Call (.Name x _) pes [] _ => (!T.hot || hotBi b) && (glB sc x && (decide (biName b = x) && (!pes.isEmpty && chkEs sc es pes)))
  | sc, .isi [k] e, .Call (.Name x _) [pe, .Name y _] [] _ => glB sc x && (decide (x = ("isinstance" : Str)) && (glB sc y && (decide (y = Str.ofString (kiN k)) && chkE sc e pe)))
  | sc, .mt .get2 _ o [a, b], .Call (.Attribute po m apos) [pa, pb] [] pos => decide (m = ("get" : Str)) && (plainBase po && (decide (apos.endLine = pos.line) && (chkE sc o po && (chkE sc a pa && chkE sc b pb))))
  | sc, .mt .append _ o [a], .Call (.Attribute po m apos) [pa] [] pos => decide (m = ("append" : Str)) && (plainBase po && (decide (apos.endLine = pos.line) && (chkE sc o po && chkE sc a pa)))
  | sc, .mt .split1 _ o [a], .Call (.Attribute po m apos) [pa] [] pos => decide (m = ("split" : Str)) && (plainBase po && (decide (apos.endLine = pos.line) && (chkE sc o po && chkE sc a pa)))
  | sc, .mt .join _ o [a], .Call (.Attribute po m apos) [pa] [] pos => decide (m = ("join" : Str)) && (plainBase po && (decide (apos.endLine = pos.line) && (chkE sc o po && chkE sc a pa)))
  | sc, .mt .extend _ o [a], .Call (.Attribute po m apos) [pa] [] pos => decide (m = ("extend" : Str)) && (plainBase po && (decide (apos.endLine = pos.line) && (chkE sc o po && chkE sc a pa)))
  | sc, .mt .pop1 _ o [a], .Call (.Attribute po m apos) [pa] [] pos => decide (m = ("pop" : Str)) && (plainBase po && (decide (apos.endLine = pos.line) && (chkE sc o po && chkE sc a pa)))
  | sc, .mt .pop0 _ o [], .Call (.Attribute po m apos) [] [] pos => decide (m = ("pop" : Str)) && (plainBase po && (decide (apos.endLine = pos.line) && chkE sc o po))
  | sc, .comp _ own t it c e, .ListComp pe [⟨tg, pit, ifs, 0⟩] scope _ =>
    (!T.hot || hotI it) && (blkC N sc scope (own.map fun i => (N.getD i (Str.ofString ""), i)) && (chkI sc it tg pit && (chkTn N scope (relS scope sc) own t tg && (chkIf (relS scope sc) c ifs && chkE (relS scope sc) e pe))))
  | sc, .comp2 _ own own2 t it c t2 it2 c2 e, .ListComp pe [⟨tg, pit, ifs, 0⟩, ⟨tg2, pit2, ifs2, 0⟩] scope _ =>
    !T.hot && (blkC N sc scope (own.map fun i => (N.getD i (Str.ofString ""), i)) && ((own2.all fun i => decide (i ∈ own)) && (chkI sc it tg pit && (noKeys it && (chkTn N scope (relS scope sc) own t tg && (chkIf (relS scope sc) c ifs &&
      (chkI (relS scope sc) it2 tg2 pit2 && (noKeys it2 && (chkTn N scope (relS scope sc) own2 t2 tg2 && (chkIf (relS scope sc) c2 ifs2 && chkE (relS scope sc) e pe))))))))))
  | _, _, _ => false
def chkEs : Scope → List E → List Expr → Bool
  | _, [], [] => true
  | sc, e :: es, p :: ps => chkE sc e p && chkEs sc es ps
  | _, _, _ => false
def chkKw : Scope → List E → List Keyword → Bool
  | _, [], [] => true
  | sc, e :: es, ⟨_, p, _⟩ :: ps => chkE sc e p && chkKw sc es ps
  | _, _, _ => false
def chkO : Scope → Option E → Option Expr → Bool
  | _, none, none => true
  | sc, some e, some p => chkE sc e p
  | _, _, _ => false
def chkIf : Scope → Option E → List Expr → Bool
  | _, none, [] => true
  | sc, some e, [p] => chkE sc e p
  | _, _, _ => false
def chkI : Scope → I → Expr → Expr → Bool
  | sc, .val e, _, p => chkE sc e p
  | sc, .keys i, _, .Name x _ => varB N sc i x
  | sc, .rng1 a, _, .Call (.Name x _) [pa] [] _ => glB sc x && (decide (x = ("range" : Str)) && chkE sc a pa)
  | sc, .rng2 a b, _, .Call (.Name x _) [pa, pb] [] _ => glB sc x && (decide (x = ("range" : Str)) && (chkE sc a pa && chkE sc b pb))
  | sc, .zip a b, .Tuple _ _ _, .Call (.Name x _) [pa, pb] [] _ => glB sc x && (decide (x = ("zip" : Str)) && (chkE sc a pa && chkE sc b pb))
  | sc, .enu e, .Tuple _ _ _, .Call (.Name x _) [pa] [] _ => glB sc x && (decide (x = ("enumerate" : Str)) && chkE sc e pa)
  | sc, .enul e, .Tuple _ _ _, .Call (.Name x _) [pa] [] _ => glB sc x && (decide (x = ("enumerate" : Str)) && chkE sc e pa)
  | _, _, _, _ => false
end
end
end Rf

namespace Rf
open PySem PySem.Spec PyProof.Rows L2
/-! ### what a def promises: what the evaluator's call says -/
def spF (G : Gx) (C : Call) (f : Nat) : Sp := fun vs H Q E => ∃ W bd base st ds, RS G bd base W H st ∧ DVs G W st.length H ds vs ∧ vs.length = (G.ps f).length ∧
  Ans (DV G) G bd base (fun cls dd _ H' => E cls dd H') [] W H st (C f ds st base) Q
/-- the program's facts -/
structure Gok (G : Gx) (T : Tx) : Prop where
  fn : ∀ f x, T.fname f = some x → G.mg x = some (.ref (G.fa f))
  keep : ∀ f x, T.fname f = some x → PySem.W.keepIn G.K (.ref (G.fa f)) = true
  binds : ∀ f x, T.fname f = some x → Binds G.K (G.fd f) (G.ps f) []
  bi : ∀ x, x ∈ biNames → G.mg x = none
  kb : ∀ q, q ∈ T.kbs → KBn G.K (G.fd q.1) (G.ps q.1) q.2.1 q.2.2.2 (fun us ws => us ++ q.2.2.1.map fun i => ws.getD i .none) (fun vs zs => vs ++ q.2.2.1.map fun i => zs.getD i .non)
  /-- the classes that may be raised -/
  cl : ∀ c x fl, T.cls c = some (x, fl) → G.cf c = fl ∧ ((fl ≠ [] ∧ ClsOk G c x) ∨ (fl = [] ∧ ClsZ G c x))
  kt : ∀ p, p ∈ T.kits → ExcC G.K (G.ca p.1) ∧ PySem.W.kitOne G.K (.ref (G.ca p.1)) (.ref (G.ca p.2.1)) = some p.2.2
  cn : ∀ c x, T.cnm c = some x → G.mg x = some (.ref (G.ca c))
  exm : ∀ p, p ∈ T.exms → PySem.W.exmOne G.K (.ref (G.ca p.1)) (.ref (G.ca p.2.1)) = some p.2.2
  cst : ∀ p, p ∈ T.consts → ∀ W n H, ∃ u v, G.mg (Str.ofString p.1) = some u ∧ RelV v u ∧ DV G W n H p.2 v
/-- the defs that may be called: so many calls deep -/
def Calls (G : Gx) (C : Call) (lv : Nat) : Prop := ∀ f, FnOk G.P G.w G.K G.mg G.base (L2N.CX G.P G.w) lv (G.fa f) (G.fd f) (G.ps f) (spF G C f)
/-- an exception that is handled: its object, its class, its dict -/
abbrev Xp := (Addr × Obj) × Nat × Option Addr
/-- with one exception in hand -/
def Gx.withX (G : Gx) (q : Xp) : Gx := { G with pn := [q] }
theorem withX_self {G : Gx} {q : Xp} (h : G.pn = [q]) : G.withX q = G := by
  cases G
  dsimp only at h
  subst h
  rfl
/-- data, or exceptions that are handled, one by one -/
def DVxs (G : Gx) (W : Wd) (n : Nat) (H : Hp) (ds : List D) (vs : List V) : Prop := vs.length = ds.length ∧ ∀ (i : Nat) (d : D), ds[i]? = some d → ∃ v, vs[i]? = some v ∧ DVx G W n H d v
/-- what a def promises that is called within an except suite -/
def spX (G : Gx) (C : Call) (f : Nat) : Sp := fun vs H Q E => ∃ W bd base st ds, RS G bd base W H st ∧ DVxs G W st.length H ds vs ∧ vs.length = (G.ps f).length ∧
  Ans (DV G) G bd base (fun cls dd _ H' => E cls dd H') [] W H st (C f ds st base) Q
structure FnQ (G : Gx) (q : Xp) (C : Call) (lv f : Nat) : Prop where
  run : ∀ (A : Around) (outer : List Env) (s : Shared) (H : Hp) (args : Args) (us : List Value) (vs : List V) (Q : VK) (E : XK), L2H.RoomH lv A → L2H.Hot1 A q.1 → L2H.PinOk outer H s q.1 → Zc (.ref (G.ca q.2.1)) q.2.2 q.1.2 → Env0 G.P G.w G.K G.mg G.base A outer s H →
    BindsTo s (G.fd f) args ((G.ps f).zip us) → Vals vs us → spX (G.withX q) C f vs H Q E → codeAny (model G.P G.w) A (.call (.ref (G.fa f)) args) (CR (L2N.CX G.P G.w) outer G.P G.w H s Q E) s
structure Xok (G : Gx) (T : Tx) (N : List Str) (C : Call) (lv : Nat) (Wx : WX) (sc : Scope) (X : Cx) : Prop where
  prog : X.prog = G.P
  w : X.w = G.w
  K : X.K = G.K
  mg : X.mg = G.mg
  base : X.base = G.base
  calm : T.hot = false → X.calm = true
  room : T.hot = false → Room lv X.A
  un : X.A.units + 65 < cLine
  hN : X.N = N
  nd : N.Nodup
  hsc : X.env.scope = sc
  tk : L2N.Takes X Wx
  g : Gok G T
  calls : T.hot = false → Calls G C lv
  ar : ∀ f ds st b, C f ds st b ≠ .bad → ds.length = (G.ps f).length
  l2 : 2 ≤ lv
  /-- a def that answers may be called -/
  kp : ∀ f ds st b, C f ds st b ≠ .bad → PySem.W.keepIn G.K (.ref (G.fa f)) = true ∧ Binds G.K (G.fd f) (G.ps f) []
  pn0 : T.hot = false → G.pn = []
  pn : ∀ q ∈ G.pn, q.1 ∈ X.pn ∧ Zc (.ref (G.ca q.2.1)) q.2.2 q.1.2 ∧ ∃ vs, q.1.2.data = .fields vs
  hots : ∀ q, ∀ f ∈ T.hots, FnQ G q C lv f
  heat : T.hot = true → ∃ q, G.pn = [q] ∧ L2H.Hot1 X.A q.1 ∧ L2H.RoomH lv X.A
theorem takesN {X : Cx} : L2N.Takes X (fun _ _ _ _ => False) := fun _ _ ⟨_, _, _, _, _, _, _, _, _, _, _, _, _, _, _, _, w⟩ => w.elim
/-! ### readings -/
section
variable (G : Gx) (C : Call) (Wx : WX)
/-- a state that the evaluator knows -/
def rd {α β : Type} (rel : Rl α β) (f : Nat → En → Sto → R α) (σ : L2.St) (H : Hp) (Q : β → Hp → Prop) : Prop :=
  ∃ W bd base ρ st, RS G bd base W H st ∧ EnR G W st.length H ρ σ ∧ Ans rel G bd base Wx σ W H st (f base ρ st) Q
def rdE (e : E) : TE := fun σ H Q => rd G Wx (DV G) (fun base ρ st => evE C base e ρ st) σ H Q
def rdEs (es : List E) : TA := fun σ H Q => rd G Wx (DVs G) (fun base ρ st => evEs C base es ρ st) σ H Q
def eqRl {α : Type} : Rl α α := fun _ _ _ a b => a = b
def rdO (o : Option E) : TO := fun σ H Q => rd G Wx eqRl (fun base ρ st => evO C base o ρ st) σ H Q
/-- an expression as a test -/
def tstE (C : Call) (e : E) (base : Nat) (ρ : En) (st : Sto) : R Bool := (evE C base e ρ st).bind fun x st => opt (truth (vw st x)) st
def rdT (e : E) : TT := fun σ H Q => rd G Wx eqRl (fun base ρ st => tstE C e base ρ st) σ H Q
end
theorem PE.weak {X : Cx} {e : Expr} {t t' : TE} (h : PE X e t) (w : ∀ σ H Q, t' σ H Q → t σ H Q) : PE X e t' := ⟨fun pins s σ H Q I q => h.run pins s σ H Q I (w σ H Q q)⟩
theorem PT.weak {X : Cx} {e : Expr} {t t' : TT} (h : PT X e t) (w : ∀ σ H Q, t' σ H Q → t σ H Q) : PT X e t' := ⟨fun pins s σ H Q I q => h.run pins s σ H Q I (w σ H Q q)⟩
theorem PW.weak {X : Cx} {e : Expr} {t t' : TT} (h : PW X e t) (w : ∀ σ H Q, t' σ H Q → t σ H Q) : PW X e t' := ⟨fun wh pins s σ H Q I q => h.run wh pins s σ H Q I (w σ H Q q)⟩
theorem PA.weak {X : Cx} {e : List Expr} {t t' : TA} (h : PA X e t) (w : ∀ σ H Q, t' σ H Q → t σ H Q) : PA X e t' := ⟨fun pos pins s σ H Q I q => h.run pos pins s σ H Q I (w σ H Q q)⟩
section
variable {G : Gx} {T : Tx} {N : List Str} {C : Call} {lv : Nat} {Wx : WX} {sc : Scope} {X : Cx} {σ : L2.St} {H : Hp}
/-- first f, then g -/
theorem rd.bind {α β γ δ : Type} {rel : Rl α β} {rel' : Rl γ δ} {f : Nat → En → Sto → R α} {g : Nat → En → α → Sto → R γ} {Q : δ → Hp → Prop} (h : rd G Wx rel' (fun base ρ st => (f base ρ st).bind (g base ρ)) σ H Q) :
    rd G Wx rel f σ H fun v H1 => ∃ W bd base ρ st d, RS G bd base W H1 st ∧ EnR G W st.length H1 ρ σ ∧ rel W st.length H1 d v ∧ Ans rel' G bd base Wx σ W H1 st (g base ρ d st) Q := by
  obtain ⟨W, bd, base, ρ, st, r, en, h⟩ := h
  refine ⟨W, bd, base, ρ, st, r, en, (Ans.bind (rel := rel) h).mono ?_⟩
  rintro v H1 ⟨d, st1, W1, _, P1, dv, h1⟩
  exact ⟨W1, bd, base, ρ, st1, d, P1.rs, en.post P1 r, dv, h1⟩
theorem rd.bindE {α β γ δ : Type} {rel : Rl α β} {rel' : Rl γ δ} {f : Nat → En → Sto → R α} {g : Nat → En → α → Sto → R γ} {Q : δ → Hp → Prop} (h : rd G Wx rel' (fun base ρ st => (f base ρ st).bind (g base ρ)) σ H Q) :
    rd G Wx rel f σ H fun v H1 => ∃ W bd base ρ st d, RS G bd base W H1 st ∧ EnR G W st.length H1 ρ σ ∧ rel W st.length H1 d v ∧ (∃ base' ρ' st', f base' ρ' st' = .ok d st) ∧ Ans rel' G bd base Wx σ W H1 st (g base ρ d st) Q := by
  obtain ⟨W, bd, base, ρ, st, r, en, h⟩ := h
  refine ⟨W, bd, base, ρ, st, r, en, (Ans.bind (rel := rel) h).mono ?_⟩
  rintro v H1 ⟨d, st1, W1, e1, P1, dv, h1⟩
  exact ⟨W1, bd, base, ρ, st1, d, P1.rs, en.post P1 r, dv, ⟨_, _, _, e1⟩, h1⟩
/-- the second of two -/
theorem rd.bind2 {α β γ δ α' β' : Type} {rel : Rl α β} {rel' : Rl γ δ} {f : Nat → En → Sto → R α} {g : Nat → En → α → Sto → R γ} {rel0 : Rl α' β'} {d0 : α'} {v0 : β'} {Q : δ → Hp → Prop} {W : Wd} {bd : Nat → Nat} {base : Nat} {ρ : En} {st : Sto}
    (r : RS G bd base W H st) (en : EnR G W st.length H ρ σ) (keep : ∀ W1 H1 st1, Post G bd base W H st W1 H1 st1 → rel0 W1 st1.length H1 d0 v0) (h : Ans rel' G bd base Wx σ W H st ((f base ρ st).bind (g base ρ)) Q) :
    rd G Wx rel f σ H fun v H1 => ∃ W bd base ρ st d, RS G bd base W H1 st ∧ EnR G W st.length H1 ρ σ ∧ rel0 W st.length H1 d0 v0 ∧ rel W st.length H1 d v ∧ Ans rel' G bd base Wx σ W H1 st (g base ρ d st) Q := by
  refine ⟨W, bd, base, ρ, st, r, en, (Ans.bind (rel := rel) h).mono ?_⟩
  rintro v H1 ⟨d, st1, W1, _, P1, dv, h1⟩
  exact ⟨W1, bd, base, ρ, st1, d, P1.rs, en.post P1 r, keep _ _ _ P1, dv, h1⟩
/-! ### helpers on syntax -/
def noStar : Expr → Bool
  | .Starred _ _ => false
  | _ => true
theorem star_cons {e : Expr} {es : List Expr} {env : Env} (h : noStar e = true) : starEach (e :: es) env = (false, eval e env) :: starEach es env := by
  cases e <;> first | rfl | cases h
theorem chkE_starred {e : E} {p : Expr} {pos : Pos} : chkE T N sc e (.Starred p pos) = false := by
  unfold chkE
  split <;> first | rfl | (rename_i h; cases h)
theorem chkE_star {e : E} {p : Expr} (h : chkE T N sc e p = true) : noStar p = true := by
  cases p with
  | Starred _ _ => rw [chkE_starred] at h; cases h
  | _ => rfl
theorem chkEs_star : ∀ {es : List E} {ps : List Expr}, chkEs T N sc es ps = true → ∀ p ∈ ps, noStar p = true
  | [], [], _, _, hp => by cases hp
  | [], _ :: _, h, _, _ => by unfold chkEs at h; cases h
  | _ :: _, [], h, _, _ => by unfold chkEs at h; cases h
  | e :: es, p :: ps, h, q, hq => by
    unfold chkEs at h
    obtain ⟨h1, h2⟩ := Bool.and_eq_true_iff.mp h
    rcases List.mem_cons.mp hq with rfl | hq
    · exact chkE_star h1
    · exact chkEs_star h2 q hq
theorem star_any {ps : List Expr} {env : Env} {pos : Pos} (h : ∀ p ∈ ps, noStar p = true) : (backTo pos (starEach ps env)).any (·.1) = false := by
  induction ps with
  | nil => rfl
  | cons p ps ih =>
    rw [star_cons (h p List.mem_cons_self)]
    show (false || (backTo pos (starEach ps env)).any (·.1)) = false
    rw [ih fun q hq => h q (List.mem_cons_of_mem _ hq)]; rfl
theorem visB_ok {x : Str} (h : visB sc x = true) : Vis sc x := by
  unfold visB at h
  unfold Vis
  split at h <;> first | (rename_i e; rw [e]; simp) | cases h
theorem locB_ok {x : Str} (h : locB sc x = true) : L2.Loc sc x := by
  unfold locB at h
  unfold L2.Loc
  split at h <;> first | (rename_i e; rw [e]; simp) | cases h
theorem glB_ok (o : Xok G T N C lv Wx sc X) {x : Str} (h : glB sc x = true) : Gl X x ∧ (x == ("__debug__" : Str)) = false := by
  unfold glB at h
  split at h
  · rename_i e
    refine ⟨?_, by simpa using h⟩
    show X.env.scope.names.lookup x = _
    rw [o.hsc]; exact e
  · cases h
theorem and2 {a b : Bool} (h : (a && b) = true) : a = true ∧ b = true := Bool.and_eq_true_iff.mp h
/-! ### what each expression does -/
theorem opt_none {γ δ : Type} {rel' : Rl γ δ} {α : Type} {W : Wd} {bd : Nat → Nat} {base : Nat} {st : Sto} {f : α → Sto → R γ} {Q : δ → Hp → Prop} {o : Option α} (h : Ans rel' G bd base Wx σ W H st ((opt o st).bind f) Q) : ∃ a, o = some a ∧ Ans rel' G bd base Wx σ W H st (f a st) Q := Ans.opt h
theorem tru_val {W : Wd} {bd : Nat → Nat} {base : Nat} {st : Sto} {d : D} {v : V} {k : Bool} (hK : X.K = G.K) (r : RS G bd base W H st) (hd : DV G W st.length H d v) (h : truth (vw st d) = some k) : TruV X.K v H k ∨ ∃ a kvs, v = .ref a ∧ Rd H a (.dK kvs) ∧ k = !kvs.isEmpty := by
  cases ed : vw st d with
  | non =>
    have e := vw_id ed (by intro _ z; cases z) (by intro _ _ z; cases z)
    subst e
    rw [ed] at h; cases h
    rw [show v = V.non from hd]; exact .inl rfl
  | bl b =>
    have e := vw_id ed (by intro _ z; cases z) (by intro _ _ z; cases z)
    subst e
    rw [ed] at h; cases h
    rw [show v = V.bl _ from hd]; exact .inl rfl
  | int i =>
    rw [ed] at h; cases h
    rw [vw_int hd ed]; exact .inl rfl
  | str s =>
    rw [ed] at h
    have h' : (if s.length ≤ SL then some (s.length != 0) else none) = some k := h
    rw [vw_str hd ed]
    split at h'
    · rename_i hl
      cases h'
      refine .inl ⟨by rw [str_len, ← SL_eq]; exact hl, ?_⟩
      rw [str_len]
      cases s with
      | nil => rfl
      | cons a s =>
        have : ((((a :: s).length : Nat) : Int) != 0) = true := by simp; omega
        rw [this]; rfl
    · cases h'
  | lst ds =>
    rw [ed] at h; cases h
    obtain ⟨a, xs, rfl, h1, h2⟩ := vw_lst r hd ed
    refine .inl (.inl ⟨xs, SqL.of h1, ?_⟩)
    have := h2.len
    cases ds <;> cases xs <;> first | rfl | cases this
  | tup ds =>
    rw [ed] at h; cases h
    obtain ⟨a, xs, rfl, h1, h2⟩ := vw_tup hd ed
    refine .inl (.inr (.inl ⟨xs, by rw [hK]; exact h1, ?_⟩))
    have := h2.len
    cases ds <;> cases xs <;> first | rfl | cases this
  | dct ks vs =>
    rw [ed] at h; cases h
    obtain ⟨a, kvs, rfl, h1, h2, _⟩ := vw_dct r hd ed
    refine .inr ⟨a, kvs, rfl, h1, ?_⟩
    cases ks <;> cases kvs <;> first | rfl | cases h2
  | _ => rw [ed] at h; cases h

theorem tru_dict {X : Cx} {pins : List (Addr × Obj)} {s : Shared} {σ : L2.St} {H : Hp} {p : Addr} {kvs : List (Key × V)} {Q : Bool → Hp → Prop} (I : Inv X pins σ H s) (h : Rd H p (.dK kvs)) (q : Q (!kvs.isEmpty) H) :
    wpAny (model X.prog X.w) X.A (truthy (.ref p)) (TP X pins σ Q) X.xe s := by
  obtain ⟨hz, hS, vs, r, m⟩ := dk_rd I.hok h
  have hlen : kvs.length = vs.length := Paired.length r
  have hl := line63
  have hs : sizeLine = 16777216 := sizeLine_eq
  exact wpAny_truthy_dict hS m (by omega) ⟨H, I.tok _, by rw [isEmpty_kv r]; exact q⟩
/-- an expression as a test -/
theorem s_tst (o : Xok G T N C lv Wx sc X) {p : Expr} {e : E} (h : PE X p (rdE G C Wx e)) (he : ∀ whole, isTrue p X.env whole = (do let v ← whole; standAt p.pos; holding [v] (truthy v))) : PT X p (rdT G C Wx e) := by
  refine ⟨fun pins s σ H Q I q => ?_⟩
  refine isTrue_plain (thn (h.run pins s σ H _ I (rd.bind (rel := DV G) q)) fun v s1 ⟨x, H1, I1, r1, q1⟩ => ?_) (he _)
  obtain ⟨W, bd, base, ρ, st, d, r, en, dv, a⟩ := q1
  have a' : Ans eqRl G bd base Wx σ W H1 st ((opt (truth (vw st d)) st).bind fun k st => .ok k st) Q := by
    cases e : truth (vw st d) with
    | none => rw [e] at a; exact a.elim
    | some k => rw [e] at a; exact a
  obtain ⟨k, hk, a⟩ := Ans.opt a'
  have fin : Q k H1 := a k W H1 (Post.refl r) rfl
  rcases tru_val o.K r dv hk with z | ⟨p, kvs, rfl, z, rfl⟩
  · exact tru_ok pins s1 σ H1 x v Q I1 r1 ⟨k, z, fin⟩
  · cases r1
    exact tru_dict I1 z fin
theorem s_cst (o : Xok G T N C lv Wx sc X) {d : D} {c : Const} {j : Nat} {pos : Pos} (h : cstOk c d = true) : PE X (.Constant c j pos) (rdE G C Wx (.cst d)) := by
  have fin : ∀ {σ : L2.St} {H : Hp} {Q : VK} {v : V}, rdE G C Wx (.cst d) σ H Q → (∀ W n, DV G W n H d v) → Q v H := fun ⟨W, bd, base, ρ, st, r, en, a⟩ hv => Ans.here r a (hv W _)
  cases c with
  | none => cases d with
    | non => exact PE.weak pe_non fun σ H Q q => fin q fun _ _ => rfl
    | _ => cases h
  | bool b => cases d with
    | bl b' =>
      have e : b = b' := by simpa [cstOk] using h
      subst e
      exact PE.weak pe_bl fun σ H Q q => fin q fun _ _ => rfl
    | _ => cases h
  | int b => cases d with
    | int b' =>
      have e : b = b' := of_decide_eq_true h
      subst e
      exact PE.weak pe_int fun σ H Q q => fin q fun _ _ => rfl
    | _ => cases h
  | str b => cases d with
    | str b' =>
      have e : b.cps.toList = b' := of_decide_eq_true h
      subst e
      exact PE.weak pe_str fun σ H Q q => fin q fun _ _ => by show V.str b = V.str ⟨b.cps.toList.toArray⟩; simp
    | _ => cases h
  | _ => cases h
theorem getV_ok {ρ : En} {i : Nat} {d : D} (h : getV ρ i = some d) : ρ[i]? = some (some d) ∧ isExc d = false := by
  unfold getV at h
  split at h
  · rename_i e
    split at h
    · cases h
    · rename_i q
      cases h; exact ⟨e, by simpa using q⟩
  · cases h
theorem varB_ok (o : Xok G T N C lv Wx sc X) {i : Nat} {x : Str} (h : varB N sc i x = true) : X.N[i]? = some x ∧ Vis X.env.scope x ∧ (x == ("__debug__" : Str)) = false ∧ (x == ("__classdict__" : Str)) = false := by
  obtain ⟨h1, h2⟩ := and2 h
  obtain ⟨h2, h3⟩ := and2 h2
  obtain ⟨h3, h4⟩ := and2 h3
  refine ⟨?_, by rw [o.hsc]; exact visB_ok h2, by simpa using h3, by simpa using h4⟩
  rw [o.hN]
  split at h1
  · rename_i e
    rw [e, of_decide_eq_true h1]
  · cases h1
theorem s_var (o : Xok G T N C lv Wx sc X) {i : Nat} {x : Str} {pos : Pos} (h : varB N sc i x = true) : PE X (.Name x pos) (rdE G C Wx (.var i)) := by
  obtain ⟨h1, h2, h3, h4⟩ := varB_ok o h
  refine PE.weak (pe_var h1 h2 h3 h4) fun σ H Q ⟨W, bd, base, ρ, st, r, en, a⟩ => ?_
  obtain ⟨d, hd, a⟩ := opt_end a
  obtain ⟨v, hv, dv⟩ := en.2 i d (getV_ok hd).1
  exact ⟨v, hv, a.here r (dv.dv (getV_ok hd).2)⟩
theorem s_glf (o : Xok G T N C lv Wx sc X) {f : Nat} {x : Str} {pos : Pos} (h1 : glB sc x = true) (h2 : T.fname f = some x) : PE X (.Name x pos) (rdE G C Wx (.glf f)) := by
  obtain ⟨g, hd⟩ := glB_ok o h1
  refine PE.weak (pe_glob g (by rw [o.mg]; exact o.g.fn f x h2) (v := .ref (G.fa f)) rfl hd) fun σ H Q ⟨W, bd, base, ρ, st, r, en, a⟩ => ?_
  exact Ans.here r a rfl
theorem s_glc (o : Xok G T N C lv Wx sc X) {y : String} {d : D} {pos : Pos} (h1 : glB sc (Str.ofString y) = true) (h2 : (y, d) ∈ T.consts) : PE X (.Name (Str.ofString y) pos) (rdE G C Wx (.glc y d)) := by
  obtain ⟨g, hd⟩ := glB_ok o h1
  refine ⟨fun pins s σ H Q I q => ?_⟩
  obtain ⟨W, bd, base, ρ, st, r, en, a⟩ := q
  obtain ⟨u, v, e1, rv, dv⟩ := o.g.cst _ h2 W st.length H
  exact ld_glob I g (by rw [o.mg]; exact e1) ⟨v, H, I, rv, a.here r dv⟩ hd
theorem s_bin (o : Xok G T N C lv Wx sc X) {op : Op} {bx : Bool} {a b : E} {pa pb : Expr} {pos : Pos} (ha : PE X pa (rdE G C Wx a)) (hb : PE X pb (rdE G C Wx b)) : PE X (.BinOp pa (opR op) pb pos) (rdE G C Wx (.bin op bx a b)) := by
  refine PE.weak (pe_op (bin_ok (Wx := Wx) o.K op bx) ha hb) fun σ H Q q => ?_
  refine (fun (z : rdE G C Wx a σ H _) => z) ?_
  obtain ⟨W, bd, base, ρ, st, r, en, q⟩ := rd.bind (rel := DV G) q
  refine ⟨W, bd, base, ρ, st, r, en, q.mono ?_⟩
  rintro x H1 ⟨W1, bd1, base1, ρ1, st1, d, r1, en1, dv1, q1⟩
  obtain ⟨W, bd, base, ρ, st, r, en, q⟩ := rd.bind2 (rel := DV G) (rel0 := DV G) (f := fun base ρ st => evE C base b ρ st) (g := fun base ρ y st => binR op bx (vw st d) (vw st y) st) r1 en1 (fun W H st P => P.dv r1 dv1) q1
  refine ⟨W, bd, base, ρ, st, r, en, q.mono ?_⟩
  rintro y H2 ⟨W2, bd2, base2, ρ2, st2, e, r2, en2, dv2, de, q2⟩
  exact ⟨bd2, base2, σ, W2, st2, d, e, r2, dv2, de, q2⟩
end
end Rf

namespace Rf
open PySem PySem.Spec PyProof.Rows L2
section
variable {G : Gx} {T : Tx} {N : List Str} {C : Call} {lv : Nat} {Wx : WX} {sc : Scope} {X : Cx} {σ : L2.St} {H : Hp}
theorem bind_assoc' {α β γ : Type} (r : R α) (f : α → Sto → R β) (g : β → Sto → R γ) : (r.bind f).bind g = r.bind fun a st => (f a st).bind g := by cases r <;> rfl
/-- two expressions, one behind the other -/
theorem rd_two {a b : E} {δ γ : Type} {rel' : Rl γ δ} {g : Nat → En → D → D → Sto → R γ} {Q : δ → Hp → Prop} (q : rd G Wx rel' (fun base ρ st => (evE C base a ρ st).bind fun x st => (evE C base b ρ st).bind fun y st => g base ρ x y st) σ H Q) :
    rdE G C Wx a σ H fun x H1 => rdE G C Wx b σ H1 fun y H2 => ∃ W bd base ρ st d e, RS G bd base W H2 st ∧ EnR G W st.length H2 ρ σ ∧ DV G W st.length H2 d x ∧ DV G W st.length H2 e y ∧ Ans rel' G bd base Wx σ W H2 st (g base ρ d e st) Q := by
  obtain ⟨W, bd, base, ρ, st, r, en, q⟩ := rd.bind (rel := DV G) q
  refine ⟨W, bd, base, ρ, st, r, en, q.mono ?_⟩
  rintro x H1 ⟨W1, bd1, base1, ρ1, st1, d, r1, en1, dv1, q1⟩
  obtain ⟨W, bd, base, ρ, st, r, en, q⟩ := rd.bind2 (rel := DV G) (rel0 := DV G) (f := fun base ρ st => evE C base b ρ st) (g := fun base ρ y st => g base ρ d y st) r1 en1 (fun W H st P => P.dv r1 dv1) q1
  refine ⟨W, bd, base, ρ, st, r, en, q.mono ?_⟩
  rintro y H2 ⟨W2, bd2, base2, ρ2, st2, e, r2, en2, dv2, de, q2⟩
  exact ⟨W2, bd2, base2, ρ2, st2, d, e, r2, en2, dv2, de, q2⟩
theorem s_neg (o : Xok G T N C lv Wx sc X) {a : E} {pa : Expr} {pos : Pos} (ha : PE X pa (rdE G C Wx a)) : PE X (.UnaryOp .USub pa pos) (rdE G C Wx (.neg a)) := by
  refine PE.weak (pe_un un_neg ha) fun σ H Q q => ?_
  obtain ⟨W, bd, base, ρ, st, r, en, q⟩ := rd.bind (rel := DV G) q
  refine ⟨W, bd, base, ρ, st, r, en, q.mono ?_⟩
  rintro x H1 ⟨W1, bd1, base1, ρ1, st1, d, r1, en1, dv1, q1⟩
  cases d with
  | int i => exact ⟨i, dv1, Ans.here r1 q1 rfl⟩
  | _ => exact q1.elim
theorem asB_ok {d : D} {k : Bool} (h : asB d = some k) : d = .bl k := by
  cases d <;> cases h; rfl
/-- the parts of and, or, not -/
theorem rd_bool {a : E} {δ γ : Type} {rel' : Rl γ δ} {g : Nat → En → Bool → Sto → R γ} {Q : δ → Hp → Prop} (q : rd G Wx rel' (fun base ρ st => (evE C base a ρ st).bind fun x st => (opt (asB x) st).bind fun k st => g base ρ k st) σ H Q) :
    rdE G C Wx a σ H fun x H1 => ∃ k, x = .bl k ∧ rd G Wx rel' (fun base ρ st => g base ρ k st) σ H1 Q := by
  obtain ⟨W, bd, base, ρ, st, r, en, q⟩ := rd.bind (rel := DV G) q
  refine ⟨W, bd, base, ρ, st, r, en, q.mono ?_⟩
  rintro x H1 ⟨W1, bd1, base1, ρ1, st1, d, r1, en1, dv1, q1⟩
  obtain ⟨k, hk, q1⟩ := Ans.opt q1
  cases asB_ok hk
  exact ⟨k, dv1, W1, bd1, base1, ρ1, st1, r1, en1, q1⟩
theorem rd_boolT {a : E} {δ γ : Type} {rel' : Rl γ δ} {g : Nat → En → Bool → Sto → R γ} {Q : δ → Hp → Prop} (q : rd G Wx rel' (fun base ρ st => (evE C base a ρ st).bind fun x st => (opt (asB x) st).bind fun k st => g base ρ k st) σ H Q) :
    rdT G C Wx a σ H fun k H1 => rd G Wx rel' (fun base ρ st => g base ρ k st) σ H1 Q := by
  obtain ⟨W, bd, base, ρ, st, r, en, q⟩ := q
  refine ⟨W, bd, base, ρ, st, r, en, ?_⟩
  dsimp only at q
  unfold tstE
  dsimp only
  cases e : evE C base a ρ st with
  | ok x st1 =>
    rw [e] at q
    cases x with
    | bl k =>
      intro v W' H' P hv
      cases hv
      exact ⟨W', bd, base, ρ, st1, P.rs, en.post P r, Ans.shift P q⟩
    | _ => exact q.elim
  | exc d st1 => rw [e] at q; exact q
  | bad => rw [e] at q; exact q
theorem rd_tst {a : E} {δ γ : Type} {rel' : Rl γ δ} {g : Nat → En → Bool → Sto → R γ} {Q : δ → Hp → Prop} (q : rd G Wx rel' (fun base ρ st => (evE C base a ρ st).bind fun x st => (opt (truth (vw st x)) st).bind fun k st => g base ρ k st) σ H Q) :
    rdT G C Wx a σ H fun k H1 => rd G Wx rel' (fun base ρ st => g base ρ k st) σ H1 Q := by
  obtain ⟨W, bd, base, ρ, st, r, en, q⟩ := q
  refine ⟨W, bd, base, ρ, st, r, en, ?_⟩
  dsimp only at q
  unfold tstE
  dsimp only
  cases e : evE C base a ρ st with
  | ok x st1 =>
    rw [e] at q
    have q' : Ans rel' G bd base Wx σ W H st ((opt (truth (vw st1 x)) st1).bind fun k st => g base ρ k st) Q := q
    show Ans eqRl G bd base Wx σ W H st (opt (truth (vw st1 x)) st1) _
    cases z : truth (vw st1 x) with
    | none => rw [z] at q'; exact q'.elim
    | some k =>
      rw [z] at q'
      intro v W' H' P hv
      cases hv
      exact ⟨W', bd, base, ρ, st1, P.rs, en.post P r, Ans.shift P q'⟩
  | exc d st1 => rw [e] at q; exact q
  | bad => rw [e] at q; exact q
theorem rd_here {α : Type} {β : Type} {rel : Rl α β} {a : α} {v : β} {Q : β → Hp → Prop} (q : rd G Wx rel (fun _ _ st => .ok a st) σ H Q) (hv : ∀ W n, rel W n H a v) : Q v H := by
  obtain ⟨W, bd, base, ρ, st, r, en, q⟩ := q
  exact q v W H (Post.refl r) (hv _ _)
theorem s_land (o : Xok G T N C lv Wx sc X) {a b : E} {pa pb : Expr} {rest : List Expr} {pos : Pos} (ha : PE X pa (rdE G C Wx a)) (hb : PE X (boolOpOf .And pb rest pos) (rdE G C Wx b)) : PE X (.BoolOp .And (pa :: pb :: rest) pos) (rdE G C Wx (.land a b)) := by
  have hb' : PE X (.BoolOp .And (pb :: rest) pos) (rdE G C Wx b) := by
    cases rest with
    | nil => exact pe_one hb
    | cons _ _ => exact hb
  refine PE.weak (pe_and ha hb') fun σ H Q q => ?_
  obtain ⟨W, bd, base, ρ, st, r, en, q⟩ := rd_bool q
  refine ⟨W, bd, base, ρ, st, r, en, q.mono ?_⟩
  rintro x H1 ⟨k, e, q1⟩
  refine ⟨k, e, ?_⟩
  cases k with
  | true => exact q1
  | false => exact rd_here (rel := DV G) q1 fun _ _ => rfl
theorem s_lor (o : Xok G T N C lv Wx sc X) {a b : E} {pa pb : Expr} {rest : List Expr} {pos : Pos} (ha : PE X pa (rdE G C Wx a)) (hb : PE X (boolOpOf .Or pb rest pos) (rdE G C Wx b)) : PE X (.BoolOp .Or (pa :: pb :: rest) pos) (rdE G C Wx (.lor a b)) := by
  have hb' : PE X (.BoolOp .Or (pb :: rest) pos) (rdE G C Wx b) := by
    cases rest with
    | nil => exact pe_one hb
    | cons _ _ => exact hb
  refine PE.weak (pe_or ha hb') fun σ H Q q => ?_
  obtain ⟨W, bd, base, ρ, st, r, en, q⟩ := rd_bool q
  refine ⟨W, bd, base, ρ, st, r, en, q.mono ?_⟩
  rintro x H1 ⟨k, e, q1⟩
  refine ⟨k, e, ?_⟩
  cases k with
  | false => exact q1
  | true => exact rd_here (rel := DV G) q1 fun _ _ => rfl
theorem s_lnot (o : Xok G T N C lv Wx sc X) {a : E} {pa : Expr} {pos : Pos} (ha : PE X pa (rdE G C Wx a)) : PE X (.UnaryOp .Not pa pos) (rdE G C Wx (.lnot a)) := by
  refine PE.weak (pe_not ha) fun σ H Q q => ?_
  obtain ⟨W, bd, base, ρ, st, r, en, q⟩ := rd_bool q
  refine ⟨W, bd, base, ρ, st, r, en, q.mono ?_⟩
  rintro x H1 ⟨k, e, q1⟩
  exact ⟨k, e, rd_here (rel := DV G) q1 fun _ _ => rfl⟩
/-- truth of a truth -/
theorem tst_bl {k : Bool} {st : Sto} : opt (truth (vw st (.bl k))) st = .ok k st := rfl
theorem t_land {a b : E} {pa pb : Expr} {rest : List Expr} {pos : Pos} (ha : PT X pa (rdT G C Wx a)) (hb : PW X (.BoolOp .And (pb :: rest) pos) (rdT G C Wx b)) : PW X (.BoolOp .And (pa :: pb :: rest) pos) (rdT G C Wx (.land a b)) := by
  refine PW.weak (pw_and ha hb) fun σ H Q q => ?_
  have q' : rd G Wx eqRl (fun base ρ st => (evE C base a ρ st).bind fun x st => (opt (asB x) st).bind fun k st => (if k then evE C base b ρ st else .ok (.bl false) st).bind fun x st => opt (truth (vw st x)) st) σ H Q := by
    obtain ⟨W, bd, base, ρ, st, r, en, q⟩ := q
    refine ⟨W, bd, base, ρ, st, r, en, ?_⟩
    have e : tstE C (.land a b) base ρ st = (evE C base a ρ st).bind fun x st => (opt (asB x) st).bind fun k st => (if k then evE C base b ρ st else .ok (.bl false) st).bind fun x st => opt (truth (vw st x)) st := by
      show ((evE C base a ρ st).bind _).bind _ = _
      rw [bind_assoc']
      congr 1; funext x st1
      rw [bind_assoc']
    dsimp only
    rw [← e]; exact q
  obtain ⟨W, bd, base, ρ, st, r, en, q⟩ := rd_boolT q'
  refine ⟨W, bd, base, ρ, st, r, en, q.mono ?_⟩
  rintro k H1 q1
  cases k with
  | true => exact q1
  | false => exact rd_here (rel := eqRl) q1 fun _ _ => rfl
theorem t_lor {a b : E} {pa pb : Expr} {rest : List Expr} {pos : Pos} (ha : PT X pa (rdT G C Wx a)) (hb : PW X (.BoolOp .Or (pb :: rest) pos) (rdT G C Wx b)) : PW X (.BoolOp .Or (pa :: pb :: rest) pos) (rdT G C Wx (.lor a b)) := by
  refine PW.weak (pw_or ha hb) fun σ H Q q => ?_
  have q' : rd G Wx eqRl (fun base ρ st => (evE C base a ρ st).bind fun x st => (opt (asB x) st).bind fun k st => (if k then .ok (.bl true) st else evE C base b ρ st).bind fun x st => opt (truth (vw st x)) st) σ H Q := by
    obtain ⟨W, bd, base, ρ, st, r, en, q⟩ := q
    refine ⟨W, bd, base, ρ, st, r, en, ?_⟩
    have e : tstE C (.lor a b) base ρ st = (evE C base a ρ st).bind fun x st => (opt (asB x) st).bind fun k st => (if k then .ok (.bl true) st else evE C base b ρ st).bind fun x st => opt (truth (vw st x)) st := by
      show ((evE C base a ρ st).bind _).bind _ = _
      rw [bind_assoc']
      congr 1; funext x st1
      rw [bind_assoc']
    dsimp only
    rw [← e]; exact q
  obtain ⟨W, bd, base, ρ, st, r, en, q⟩ := rd_boolT q'
  refine ⟨W, bd, base, ρ, st, r, en, q.mono ?_⟩
  rintro k H1 q1
  cases k with
  | false => exact q1
  | true => exact rd_here (rel := eqRl) q1 fun _ _ => rfl
theorem t_lnot {a : E} {pa : Expr} {pos : Pos} (ha : PT X pa (rdT G C Wx a)) : PT X (.UnaryOp .Not pa pos) (rdT G C Wx (.lnot a)) := by
  refine PT.weak (pt_not ha) fun σ H Q q => ?_
  have q' : rd G Wx eqRl (fun base ρ st => (evE C base a ρ st).bind fun x st => (opt (asB x) st).bind fun k st => .ok (!k) st) σ H Q := by
    obtain ⟨W, bd, base, ρ, st, r, en, q⟩ := q
    refine ⟨W, bd, base, ρ, st, r, en, ?_⟩
    have e : tstE C (.lnot a) base ρ st = (evE C base a ρ st).bind fun x st => (opt (asB x) st).bind fun k st => .ok (!k) st := by
      show ((evE C base a ρ st).bind _).bind _ = _
      rw [bind_assoc']
      congr 1; funext x st1
      rw [bind_assoc']
      rfl
    dsimp only
    rw [← e]; exact q
  obtain ⟨W, bd, base, ρ, st, r, en, q⟩ := rd_boolT q'
  refine ⟨W, bd, base, ρ, st, r, en, q.mono ?_⟩
  rintro k H1 q1
  exact rd_here (rel := eqRl) q1 fun _ _ => rfl
theorem s_ife (o : Xok G T N C lv Wx sc X) {c a b : E} {pc pa pb : Expr} {pos : Pos} (hc : PT X pc (rdT G C Wx c)) (ha : PE X pa (rdE G C Wx a)) (hb : PE X pb (rdE G C Wx b)) : PE X (.IfExp pc pa pb pos) (rdE G C Wx (.ife c a b)) := by
  refine PE.weak (pe_ifExp hc ha hb) fun σ H Q q => ?_
  obtain ⟨W, bd, base, ρ, st, r, en, q⟩ := rd_tst q
  refine ⟨W, bd, base, ρ, st, r, en, q.mono ?_⟩
  rintro k H1 q1
  cases k with
  | true => exact q1
  | false => exact q1
theorem pt_ifExp {tc ta tb : TT} {pc pa pb : Expr} {pos : Pos} (hc : PT X pc tc) (ha : PT X pa ta) (hb : PT X pb tb) : PT X (.IfExp pc pa pb pos) (fun σ H Q => tc σ H fun k H1 => if k = true then ta σ H1 Q else tb σ H1 Q) := by
  refine ⟨fun pins s σ H Q I h => ?_⟩
  show wpAny _ _ (do if ← isTrue pc X.env (eval pc X.env) then isTrue pa X.env (eval pa X.env) else isTrue pb X.env (eval pb X.env)) _ _ _
  refine wpAny_bind (thn (hc.run pins s σ H _ I h) fun k s1 ⟨H1, I1, q1⟩ => ?_)
  cases k with
  | true => exact ha.run pins s1 σ H1 Q I1 q1
  | false => exact hb.run pins s1 σ H1 Q I1 q1
theorem t_ife {c a b : E} {pc pa pb : Expr} {pos : Pos} (hc : PT X pc (rdT G C Wx c)) (ha : PT X pa (rdT G C Wx a)) (hb : PT X pb (rdT G C Wx b)) : PT X (.IfExp pc pa pb pos) (rdT G C Wx (.ife c a b)) := by
  refine PT.weak (pt_ifExp hc ha hb) fun σ H Q q => ?_
  have q' : rd G Wx eqRl (fun base ρ st => (evE C base c ρ st).bind fun x st => (opt (truth (vw st x)) st).bind fun k st => (if k then evE C base a ρ st else evE C base b ρ st).bind fun x st => opt (truth (vw st x)) st) σ H Q := by
    obtain ⟨W, bd, base, ρ, st, r, en, q⟩ := q
    refine ⟨W, bd, base, ρ, st, r, en, ?_⟩
    have e : tstE C (.ife c a b) base ρ st = (evE C base c ρ st).bind fun x st => (opt (truth (vw st x)) st).bind fun k st => (if k then evE C base a ρ st else evE C base b ρ st).bind fun x st => opt (truth (vw st x)) st := by
      show ((evE C base c ρ st).bind _).bind _ = _
      rw [bind_assoc']
      congr 1; funext x st1
      rw [bind_assoc']
    dsimp only
    rw [← e]; exact q
  obtain ⟨W, bd, base, ρ, st, r, en, q⟩ := rd_tst q'
  refine ⟨W, bd, base, ρ, st, r, en, q.mono ?_⟩
  rintro k H1 q1
  cases k with
  | true => exact q1
  | false => exact q1
/-! ### comparisons -/
def noSet : Expr → Bool
  | .Set _ _ _ => false
  | _ => true
theorem nomarkS {b : Expr} {op : CmpOp} (h : noSet b = true) : behindInMarks op b = false := by
  cases b <;> first | rfl | cases h
theorem chkE_set {e : E} {ps : List Expr} {k : Nat} {pos : Pos} : chkE T N sc e (.Set ps k pos) = false := by
  unfold chkE
  split <;> first | rfl | (rename_i h; cases h)
theorem chkE_noset {e : E} {p : Expr} (h : chkE T N sc e p = true) : noSet p = true := by
  cases p with
  | Set _ _ _ => rw [chkE_set] at h; cases h
  | _ => rfl
theorem room65 (o : Xok G T N C lv Wx sc X) : X.A.units + 65 < cLine := o.un
theorem room1 (o : Xok G T N C lv Wx sc X) : X.A.units + 1 < cLine := by have := o.un; omega
theorem s_cmp (o : Xok G T N C lv Wx sc X) {op : Cm} {a b : E} {pa pb : Expr} {pos : Pos} (ha : PE X pa (rdE G C Wx a)) (hb : PE X pb (rdE G C Wx b)) (hs : noSet pb = true) :
    PE X (.Compare pa [cmR op] [pb] pos) (rdE G C Wx (.cmp op a b)) ∧ PT X (.Compare pa [cmR op] [pb] pos) (rdT G C Wx (.cmp op a b)) := by
  refine ⟨PE.weak (pe_cmpR (cmp_ok (Wx := Wx) o.K (room65 o) op) ha hb (nomarkS hs)) fun σ H Q q => ?_, PT.weak (pt_cmpR (cmp_ok (Wx := Wx) o.K (room65 o) op) ha hb (nomarkS hs)) fun σ H Q q => ?_⟩
  · obtain ⟨W, bd, base, ρ, st, r, en, q⟩ := rd_two q
    refine ⟨W, bd, base, ρ, st, r, en, q.mono ?_⟩
    rintro x H1 ⟨W, bd, base, ρ, st, r, en, q⟩
    refine ⟨W, bd, base, ρ, st, r, en, q.mono ?_⟩
    rintro y H2 ⟨W, bd, base, ρ, st, d, e, r, en, d1, d2, q⟩
    exact ⟨bd, base, σ, W, st, d, e, r, d1, d2, q⟩
  · have q' : rd G Wx eqRl (fun base ρ st => (evE C base a ρ st).bind fun x st => (evE C base b ρ st).bind fun y st => (opt (cmpD op (vw st x) (vw st y)) st).bind fun k st => .ok k st) σ H Q := by
      obtain ⟨W, bd, base, ρ, st, r, en, q⟩ := q
      refine ⟨W, bd, base, ρ, st, r, en, ?_⟩
      have e : tstE C (.cmp op a b) base ρ st = (evE C base a ρ st).bind fun x st => (evE C base b ρ st).bind fun y st => (opt (cmpD op (vw st x) (vw st y)) st).bind fun k st => .ok k st := by
        show ((evE C base a ρ st).bind _).bind _ = _
        rw [bind_assoc']
        congr 1; funext x st1
        rw [bind_assoc']
        congr 1; funext y st2
        rw [bind_assoc']
        rfl
      dsimp only
      rw [← e]; exact q
    obtain ⟨W, bd, base, ρ, st, r, en, q⟩ := rd_two q'
    refine ⟨W, bd, base, ρ, st, r, en, q.mono ?_⟩
    rintro x H1 ⟨W, bd, base, ρ, st, r, en, q⟩
    refine ⟨W, bd, base, ρ, st, r, en, q.mono ?_⟩
    rintro y H2 ⟨W, bd, base, ρ, st, d, e, r, en, d1, d2, q⟩
    refine ⟨bd, base, σ, W, st, d, e, r, d1, d2, ?_⟩
    dsimp only
    cases z : cmpD op (vw st d) (vw st e) with
    | none => rw [z] at q; exact q.elim
    | some k =>
      rw [z] at q
      intro v W' H' P hv
      rw [show v = V.bl k from hv]
      exact ⟨k, rfl, q k W' H' P rfl⟩
end
end Rf

namespace Rf
open PySem PySem.Spec PyProof.Rows L2
section
variable {G : Gx} {T : Tx} {N : List Str} {C : Call} {lv : Nat} {Wx : WX} {sc : Scope} {X : Cx} {σ : L2.St} {H : Hp}
theorem lastNo {op op' : CmpOp} {b c : Expr} (h : noSet c = true) : lastMarks [op, op'] [b, c] = false := by
  show lastMarks [op'] [c] = false
  exact nomarkS h
/-- a < b < c -/
theorem rd_chain {a b c : E} {op op' : Cm} {δ γ : Type} {rel' : Rl γ δ} {g : Bool → Sto → R γ} {Q : δ → Hp → Prop} {P : Bool → δ} {F : Bool → γ} (hg : ∀ k st, g k st = .ok (F k) st) (hF : ∀ W n H k, rel' W n H (F k) (P k))
    (q : rd G Wx rel' (fun base ρ st => (evE C base a ρ st).bind fun x st => (evE C base b ρ st).bind fun y st => (opt (cmpD op (vw st x) (vw st y)) st).bind fun k st =>
      if k then (evE C base c ρ st).bind fun z st => (opt (cmpD op' (vw st y) (vw st z)) st).bind g else g false st) σ H Q) :
    rdE G C Wx a σ H fun x H1 => rdE G C Wx b σ H1 fun y H2 => rCmp G Wx op x y H2 fun z H3 => ∃ k, z = .bl k ∧ (if k = true then rdE G C Wx c σ H3 fun w' H4 => rCmp G Wx op' y w' H4 (fun v H5 => ∃ k, v = .bl k ∧ Q (P k) H5) else Q (P false) H3) := by
  obtain ⟨W, bd, base, ρ, st, r, en, q⟩ := rd_two q
  refine ⟨W, bd, base, ρ, st, r, en, q.mono ?_⟩
  rintro x H1 ⟨W, bd, base, ρ, st, r, en, q⟩
  refine ⟨W, bd, base, ρ, st, r, en, q.mono ?_⟩
  rintro y H2 ⟨W, bd, base, ρ, st, d, e, r, en, d1, d2, q⟩
  obtain ⟨k, hk, q⟩ := Ans.opt q
  refine ⟨bd, base, σ, W, st, d, e, r, d1, d2, ?_⟩
  dsimp only
  rw [hk]
  intro v W' H' p hv
  refine ⟨k, hv, ?_⟩
  cases k with
  | false =>
    rw [if_neg Bool.false_ne_true]
    have q2 : Ans rel' G bd base Wx σ W H2 st (g false st) Q := q
    rw [hg] at q2
    exact q2 _ W' H' p (hF _ _ _ _)
  | true =>
    rw [if_pos rfl]
    have q1 : Ans rel' G bd base Wx σ W' H' st ((evE C base c ρ st).bind fun z st => (opt (cmpD op' (vw st e) (vw st z)) st).bind g) Q := Ans.shift p q
    obtain ⟨W, bd, base, ρ, st, r, en, q⟩ := rd.bind2 (rel := DV G) (rel0 := DV G) (f := fun base ρ st => evE C base c ρ st) (g := fun base ρ z st => (opt (cmpD op' (vw st e) (vw st z)) st).bind g) p.rs (en.post p r) (fun W H st P => P.dv p.rs (p.dv r d2)) q1
    refine ⟨W, bd, base, ρ, st, r, en, q.mono ?_⟩
    rintro z H4 ⟨W, bd, base, ρ, st, f, r, en, d2, d3, q⟩
    obtain ⟨k, hk, q⟩ := Ans.opt q
    refine ⟨bd, base, σ, W, st, e, f, r, d2, d3, ?_⟩
    dsimp only
    rw [hk]
    intro v W' H' p hv
    refine ⟨k, hv, ?_⟩
    rw [hg] at q
    exact q _ W' H' p (hF _ _ _ _)
theorem s_chain (o : Xok G T N C lv Wx sc X) {op op' : Cm} {a b c : E} {pa pb pc : Expr} {pos : Pos} (ha : PE X pa (rdE G C Wx a)) (hb : PE X pb (rdE G C Wx b)) (hc : PE X pc (rdE G C Wx c)) (hs : noSet pc = true) :
    PE X (.Compare pa [cmR op, cmR op'] [pb, pc] pos) (rdE G C Wx (.chain op op' a b c)) ∧ PT X (.Compare pa [cmR op, cmR op'] [pb, pc] pos) (rdT G C Wx (.chain op op' a b c)) := by
  refine ⟨PE.weak (pe_chain (cmp_ok (Wx := Wx) o.K (room65 o) op) (cmp_ok (Wx := Wx) o.K (room65 o) op') ha hb hc (lastNo hs)) fun σ H Q q => ?_, PT.weak (pt_chain (cmp_ok (Wx := Wx) o.K (room65 o) op) (cmp_ok (Wx := Wx) o.K (room65 o) op') ha hb hc (lastNo hs)) fun σ H Q q => ?_⟩
  · have q' := rd_chain (rel' := DV G) (g := fun k st => .ok (.bl k) st) (F := .bl) (P := .bl) (fun _ _ => rfl) (fun _ _ _ _ => rfl) q
    obtain ⟨W, bd, base, ρ, st, r, en, q⟩ := q'
    refine ⟨W, bd, base, ρ, st, r, en, q.mono ?_⟩
    rintro x H1 ⟨W, bd, base, ρ, st, r, en, q⟩
    refine ⟨W, bd, base, ρ, st, r, en, q.mono ?_⟩
    rintro y H2 ⟨bd, base, σ', W, st, d, e, r, d1, d2, q⟩
    refine ⟨bd, base, σ', W, st, d, e, r, d1, d2, q.mono ?_⟩
    rintro z H3 ⟨k, rfl, q⟩
    refine ⟨k, rfl, ?_⟩
    cases k with
    | false => exact q
    | true =>
      rw [if_pos rfl] at q ⊢
      obtain ⟨W, bd, base, ρ, st, r, en, q⟩ := q
      refine ⟨W, bd, base, ρ, st, r, en, q.mono ?_⟩
      rintro z H4 ⟨bd, base, σ', W, st, d, e, r, d1, d2, q⟩
      refine ⟨bd, base, σ', W, st, d, e, r, d1, d2, q.mono ?_⟩
      rintro w' H5 ⟨k, rfl, q⟩
      exact q
  · have q0 : rd G Wx eqRl (fun base ρ st => (evE C base a ρ st).bind fun x st => (evE C base b ρ st).bind fun y st => (opt (cmpD op (vw st x) (vw st y)) st).bind fun k st =>
      if k then (evE C base c ρ st).bind fun z st => (opt (cmpD op' (vw st y) (vw st z)) st).bind (fun k st => .ok k st) else .ok false st) σ H Q := by
      obtain ⟨W, bd, base, ρ, st, r, en, q⟩ := q
      refine ⟨W, bd, base, ρ, st, r, en, ?_⟩
      have e : tstE C (.chain op op' a b c) base ρ st = (evE C base a ρ st).bind fun x st => (evE C base b ρ st).bind fun y st => (opt (cmpD op (vw st x) (vw st y)) st).bind fun k st =>
        if k then (evE C base c ρ st).bind fun z st => (opt (cmpD op' (vw st y) (vw st z)) st).bind (fun k st => .ok k st) else .ok false st := by
        show ((evE C base a ρ st).bind _).bind _ = _
        rw [bind_assoc']
        congr 1; funext x st1
        rw [bind_assoc']
        congr 1; funext y st2
        rw [bind_assoc']
        congr 1; funext k st3
        cases k with
        | false => rfl
        | true =>
          rw [if_pos rfl, if_pos rfl, bind_assoc']
          congr 1; funext z st4
          rw [bind_assoc']
          rfl
      dsimp only
      rw [← e]; exact q
    have q' := rd_chain (rel' := eqRl) (g := fun k st => .ok k st) (F := id) (P := id) (fun _ _ => rfl) (fun _ _ _ _ => rfl) q0
    obtain ⟨W, bd, base, ρ, st, r, en, q⟩ := q'
    refine ⟨W, bd, base, ρ, st, r, en, q.mono ?_⟩
    rintro x H1 ⟨W, bd, base, ρ, st, r, en, q⟩
    refine ⟨W, bd, base, ρ, st, r, en, q.mono ?_⟩
    rintro y H2 ⟨bd, base, σ', W, st, d, e, r, d1, d2, q⟩
    refine ⟨bd, base, σ', W, st, d, e, r, d1, d2, q.mono ?_⟩
    rintro z H3 ⟨k, rfl, q⟩
    refine ⟨k, rfl, ?_⟩
    cases k with
    | false => exact ⟨false, rfl, q⟩
    | true =>
      rw [if_pos rfl] at q ⊢
      obtain ⟨W, bd, base, ρ, st, r, en, q⟩ := q
      refine ⟨W, bd, base, ρ, st, r, en, q.mono ?_⟩
      rintro z H4 ⟨bd, base, σ', W, st, d, e, r, d1, d2, q⟩
      exact ⟨bd, base, σ', W, st, d, e, r, d1, d2, q⟩
/-! ### lists of expressions -/
theorem s_nil : PA X [] (rdEs G C Wx []) := PA.weak pa_nil fun σ H Q q => rd_here (rel := DVs G) q fun _ _ => rfl
theorem s_cons {e : E} {es : List E} {p : Expr} {ps : List Expr} (h : PE X p (rdE G C Wx e)) (hs : PA X ps (rdEs G C Wx es)) (ns : noStar p = true) : PA X (p :: ps) (rdEs G C Wx (e :: es)) := by
  refine PA.weak (pa_cons h hs (star_cons ns)) fun σ H Q q => ?_
  obtain ⟨W, bd, base, ρ, st, r, en, q⟩ := rd.bind (rel := DV G) q
  refine ⟨W, bd, base, ρ, st, r, en, q.mono ?_⟩
  rintro x H1 ⟨W1, bd1, base1, ρ1, st1, d, r1, en1, dv1, q1⟩
  obtain ⟨W, bd, base, ρ, st, r, en, q⟩ := rd.bind2 (rel := DVs G) (rel0 := DV G) (f := fun base ρ st => evEs C base es ρ st) (g := fun base ρ xs st => .ok (d :: xs) st) r1 en1 (fun W H st P => P.dv r1 dv1) q1
  refine ⟨W, bd, base, ρ, st, r, en, q.mono ?_⟩
  rintro xs H2 ⟨W2, bd2, base2, ρ2, st2, ds, r2, en2, dv2, de, q2⟩
  exact q2 _ W2 H2 (Post.refl r2) ⟨x, xs, rfl, dv2, de⟩
theorem s_tup {es : List E} {ps : List Expr} {k : Nat} {pos : Pos} (h : PA X ps (rdEs G C Wx es)) : PE X (.Tuple ps k pos) (rdE G C Wx (.tup es)) := by
  refine PE.weak (pe_tup h) fun σ H Q q => ?_
  obtain ⟨W, bd, base, ρ, st, r, en, q⟩ := rd.bind (rel := DVs G) q
  refine ⟨W, bd, base, ρ, st, r, en, q.mono ?_⟩
  rintro xs H1 ⟨W1, bd1, base1, ρ1, st1, ds, r1, en1, dv1, q1⟩
  exact ans_tup r1 dv1 q1
theorem s_lst {bx : Bool} {es : List E} {ps : List Expr} {pos : Pos} (h : PA X ps (rdEs G C Wx es)) : PE X (.List ps pos) (rdE G C Wx (.lst bx es)) := by
  refine PE.weak (pe_lst h) fun σ H Q q => ?_
  obtain ⟨W, bd, base, ρ, st, r, en, q⟩ := rd.bind (rel := DVs G) q
  refine ⟨W, bd, base, ρ, st, r, en, q.mono ?_⟩
  rintro xs H1 ⟨W1, bd1, base1, ρ1, st1, ds, r1, en1, dv1, q1⟩
  exact ans_lst r1 dv1 q1
theorem s_dct {bx : Bool} {pos : Pos} : PE X (.Dict [] [] pos) (rdE G C Wx (.dct bx [] [])) := by
  refine PE.weak pe_dnewK fun σ H Q ⟨W, bd, base, ρ, st, r, en, q⟩ => ?_
  exact (ans_dct (kvs := []) (ks := []) (vs := []) r rfl rfl q).2
theorem s_sub (o : Xok G T N C lv Wx sc X) {a i : E} {pa pi : Expr} {pos : Pos} (ha : PE X pa (rdE G C Wx a)) (hi : PE X pi (rdE G C Wx i)) (hs : PlainIx pi) : PE X (.Subscript pa pi pos) (rdE G C Wx (.sub a i)) := by
  refine PE.weak (pe_ix (sub_ok (Wx := Wx) o.K (room1 o)) ha hi hs) fun σ H Q q => ?_
  obtain ⟨W, bd, base, ρ, st, r, en, q⟩ := rd_two q
  refine ⟨W, bd, base, ρ, st, r, en, q.mono ?_⟩
  rintro x H1 ⟨W, bd, base, ρ, st, r, en, q⟩
  refine ⟨W, bd, base, ρ, st, r, en, q.mono ?_⟩
  rintro y H2 ⟨W, bd, base, ρ, st, d, e, r, en, d1, d2, q⟩
  exact ⟨bd, base, σ, W, st, d, e, r, d1, d2, q⟩
theorem s_oNone : PO X none (rdO G C Wx none) := ⟨fun pins s σ H Q I q => po_none.run pins s σ H Q I (rd_here (rel := eqRl) q fun _ _ => rfl)⟩
theorem s_oSome {e : E} {p : Expr} (h : PE X p (rdE G C Wx e)) : PO X (some p) (rdO G C Wx (some e)) := ⟨fun pins s σ H Q I q => (po_some h).run pins s σ H Q I (by
  obtain ⟨W, bd, base, ρ, st, r, en, q⟩ := rd.bind (rel := DV G) q
  refine ⟨W, bd, base, ρ, st, r, en, q.mono ?_⟩
  rintro x H1 ⟨W1, bd1, base1, ρ1, st1, d, r1, en1, dv1, q1⟩
  cases d with
  | int i => exact ⟨i, dv1, q1 _ W1 H1 (Post.refl r1) rfl⟩
  | _ => exact q1.elim)⟩
theorem s_slc (o : Xok G T N C lv Wx sc X) {bx : Bool} {a : E} {lo hi : Option E} {pa : Expr} {plo phi : Option Expr} {pos p2 : Pos} (ha : PE X pa (rdE G C Wx a)) (hl : PO X plo (rdO G C Wx lo)) (hh : PO X phi (rdO G C Wx hi)) :
    PE X (.Subscript pa (.Slice plo phi none p2) pos) (rdE G C Wx (.slc bx a lo hi)) := by
  refine PE.weak (pe_slice (slc_ok (Wx := Wx) o.K bx) ha hl hh) fun σ H Q q => ?_
  obtain ⟨W, bd, base, ρ, st, r, en, q⟩ := rd.bind (rel := DV G) q
  refine ⟨W, bd, base, ρ, st, r, en, q.mono ?_⟩
  rintro x H1 ⟨W1, bd1, base1, ρ1, st1, d, r1, en1, dv1, q1⟩
  obtain ⟨W, bd, base, ρ, st, r, en, q⟩ := rd.bind2 (rel := eqRl) (rel0 := DV G) (f := fun base ρ st => evO C base lo ρ st) (g := fun base ρ l st => (evO C base hi ρ st).bind fun h st => slcR bx (vw st d) l h st) r1 en1 (fun W H st P => P.dv r1 dv1) q1
  refine ⟨W, bd, base, ρ, st, r, en, q.mono ?_⟩
  rintro l H2 ⟨W2, bd2, base2, ρ2, st2, l', r2, en2, dv2, rfl, q2⟩
  obtain ⟨W, bd, base, ρ, st, r, en, q⟩ := rd.bind2 (rel := eqRl) (rel0 := DV G) (f := fun base ρ st => evO C base hi ρ st) (g := fun base ρ h st => slcR bx (vw st d) l' h st) r2 en2 (fun W H st P => P.dv r2 dv2) q2
  refine ⟨W, bd, base, ρ, st, r, en, q.mono ?_⟩
  rintro h H3 ⟨W3, bd3, base3, ρ3, st3, h', r3, en3, dv3, rfl, q3⟩
  exact ⟨bd3, base3, σ, W3, st3, d, r3, dv3, q3⟩
/-! ### calls of defs -/
theorem post_scoped {W W' : Wd} {bd : Nat → Nat} {base : Nat} {H H' : Hp} {st st' : Sto} (r : RS G bd base W H st) (p : Post G (bdOf bd base st.length) st.length W H st W' H' st') : Post G bd base W H st W' H' (st'.take st.length) := by
  have hl : st.length ≤ st'.length := p.ext.len
  have lt : (st'.take st.length).length = st.length := by rw [List.length_take]; omega
  have lv : ∀ k, live (st'.take st.length) k → k < st.length ∧ live st' k := fun k ⟨ob, e, nd⟩ => by
    rw [List.getElem?_take] at e
    split at e
    · rename_i h; exact ⟨h, ob, e, nd⟩
    · cases e
  refine ⟨⟨p.ext.fr, p.ext.F, p.ext.m, fun k hk h => p.ext.dd k hk (lv k h).2, fun k hk h => absurd (lv k h).1 (by omega), p.ext.tr, by omega, p.ext.nF⟩, ?_⟩
  refine ⟨fun k ob e => ?_, fun j k hj hk => p.rs.inj j k (lv j hj).2 (lv k hk).2, fun k hk => p.rs.fF k (lv k hk).2, p.rs.fH, r.bdl, by rw [lt]; exact r.bl⟩
  rw [List.getElem?_take] at e
  split at e
  · rename_i h
    have q := p.rs.obj k ob e
    rw [lt]
    unfold bdOf at q
    rw [if_pos h] at q
    exact q
  · cases e
theorem scope_in {W : Wd} {bd : Nat → Nat} {base : Nat} {H : Hp} {st : Sto} (r : RS G bd base W H st) : RS G (bdOf bd base st.length) st.length W H st := by
  refine ⟨fun k ob e => ?_, r.inj, r.fF, r.fH, fun k hk => bdOf_le r, Nat.le_refl _⟩
  have h := (List.getElem?_eq_some_iff.mp e).1
  have : bdOf (bdOf bd base st.length) st.length st.length k = bdOf bd base st.length k := if_pos h
  rw [this]
  exact r.obj k ob e
/-- what a call asks -/
theorem call_ok (o : Xok G T N C lv Wx sc X) {scp : Bool} {f : Nat} {W : Wd} {bd : Nat → Nat} {base : Nat} {st : Sto} {ds : List D} {vs : List V} {Q : VK} (r : RS G bd base W H st) (hd : DVs G W st.length H ds vs)
    (q : Ans (DV G) G bd base Wx σ W H st (callR C base scp f ds st) Q) : spF G C f vs H Q (WE Wx σ) := by
  cases scp with
  | false =>
    have q' : Ans (DV G) G bd base Wx σ W H st (C f ds st base) Q := q
    refine ⟨W, bd, base, st, ds, r, hd, ?_, ?_⟩
    · rw [hd.len]
      refine o.ar f ds st base fun z => ?_
      rw [z] at q'; exact q'
    · cases e : C f ds st base with
      | ok d st' => rw [e] at q'; exact q'
      | exc d st' => rw [e] at q'; exact q'
      | bad => rw [e] at q'; exact q'
  | true =>
    have q' : Ans (DV G) G bd base Wx σ W H st (match C f ds st st.length with
      | .ok d st' => if plain d then .ok d (st'.take st.length) else .bad
      | .exc d st' => .exc d (st'.take st.length)
      | .bad => .bad) Q := q
    refine ⟨W, bdOf bd base st.length, st.length, st, ds, scope_in r, hd, ?_, ?_⟩
    · rw [hd.len]
      refine o.ar f ds st st.length fun z => ?_
      rw [z] at q'; exact q'
    · cases e : C f ds st st.length with
      | ok d st' =>
        rw [e] at q'
        have q2 : Ans (DV G) G bd base Wx σ W H st (if plain d then .ok d (st'.take st.length) else .bad) Q := q'
        split at q2
        · rename_i hp
          exact fun v W' H' p dv => q2 v W' H' (post_scoped r p) (DV.plain hp dv)
        · exact q2.elim
      | exc d st' =>
        rw [e] at q'
        exact fun cls dd W' H' p x => q' cls dd W' H' (post_scoped r p) x
      | bad => rw [e] at q'; exact q'
theorem s_call (o : Xok G T N C lv Wx sc X) (hh : T.hot = false) {scp : Bool} {f : Nat} {x : Str} {es : List E} {p : Expr} {ps : List Expr} {p0 pos : Pos} (h1 : glB sc x = true) (h2 : T.fname f = some x) (h : PA X (p :: ps) (rdEs G C Wx es)) (ns : ∀ q ∈ p :: ps, noStar q = true) :
    PE X (.Call (.Name x p0) (p :: ps) [] pos) (rdE G C Wx (.call scp f es)) := by
  obtain ⟨g, hd⟩ := glB_ok o h1
  have F := o.calls hh f
  rw [← o.prog, ← o.w, ← o.K, ← o.mg, ← o.base] at F
  have hb := o.g.binds f x h2
  have hk := o.g.keep f x h2
  rw [← o.K] at hb hk
  refine PE.weak (pe_callS F (o.room hh) g (by rw [o.mg]; exact o.g.fn f x h2) hk hb (fun σ => L2N.passAt o.tk σ) h hd (star_cons (ns p List.mem_cons_self)) (star_any fun q hq => ns q (List.mem_cons_of_mem _ hq))) fun σ H Q q => ?_
  obtain ⟨W, bd, base, ρ, st, r, en, q⟩ := rd.bind (rel := DVs G) q
  refine ⟨W, bd, base, ρ, st, r, en, q.mono ?_⟩
  rintro vs H1 ⟨W1, bd1, base1, ρ1, st1, ds, r1, en1, dv1, q1⟩
  exact call_ok o r1 dv1 q1
/-! ### calls while an exception is handled -/
theorem DVxs.of {W : Wd} {n : Nat} {H : Hp} {ds : List D} {vs : List V} (h : DVs G W n H ds vs) : DVxs G W n H ds vs := ⟨h.len, fun i d e => let ⟨v, e1, e2⟩ := h.get e; ⟨v, e1, .of e2⟩⟩
theorem DVxs.cons {W : Wd} {n : Nat} {H : Hp} {d : D} {v : V} {ds : List D} {vs : List V} (h : DVx G W n H d v) (hs : DVs G W n H ds vs) : DVxs G W n H (d :: ds) (v :: vs) := by
  refine ⟨by rw [List.length_cons, List.length_cons, hs.len], fun i e h1 => ?_⟩
  cases i with
  | zero => simp at h1; subst h1; exact ⟨v, rfl, h⟩
  | succ i =>
    obtain ⟨u, e1, e2⟩ := hs.get (i := i) (by simpa using h1)
    exact ⟨u, by simpa using e1, .of e2⟩
theorem callx_ok (o : Xok G T N C lv Wx sc X) {scp : Bool} {f : Nat} {W : Wd} {bd : Nat → Nat} {base : Nat} {st : Sto} {ds : List D} {vs : List V} {Q : VK} (r : RS G bd base W H st) (hd : DVxs G W st.length H ds vs)
    (q : Ans (DV G) G bd base Wx σ W H st (callR C base scp f ds st) Q) : spX G C f vs H Q (WE Wx σ) := by
  cases scp with
  | false =>
    have q' : Ans (DV G) G bd base Wx σ W H st (C f ds st base) Q := q
    refine ⟨W, bd, base, st, ds, r, hd, ?_, ?_⟩
    · rw [hd.1]
      refine o.ar f ds st base fun z => ?_
      rw [z] at q'; exact q'
    · cases e : C f ds st base with
      | ok d st' => rw [e] at q'; exact q'
      | exc d st' => rw [e] at q'; exact q'
      | bad => rw [e] at q'; exact q'
  | true =>
    have q' : Ans (DV G) G bd base Wx σ W H st (match C f ds st st.length with
      | .ok d st' => if plain d then .ok d (st'.take st.length) else .bad
      | .exc d st' => .exc d (st'.take st.length)
      | .bad => .bad) Q := q
    refine ⟨W, bdOf bd base st.length, st.length, st, ds, scope_in r, hd, ?_, ?_⟩
    · rw [hd.1]
      refine o.ar f ds st st.length fun z => ?_
      rw [z] at q'; exact q'
    · cases e : C f ds st st.length with
      | ok d st' =>
        rw [e] at q'
        have q2 : Ans (DV G) G bd base Wx σ W H st (if plain d then .ok d (st'.take st.length) else .bad) Q := q'
        split at q2
        · rename_i hp
          exact fun v W' H' p dv => q2 v W' H' (post_scoped r p) (DV.plain hp dv)
        · exact q2.elim
      | exc d st' =>
        rw [e] at q'
        exact fun cls dd W' H' p x => q' cls dd W' H' (post_scoped r p) x
      | bad => rw [e] at q'; exact q'
theorem run_hot (o : Xok G T N C lv Wx sc X) (hh : T.hot = true) {f : Nat} (hf : f ∈ T.hots) {x : Str} (h2 : T.fname f = some x) {pins : List (Addr × Obj)} {s : Shared} {Q : VK} {us : List Value} {vs : List V} (I : Inv X pins σ H s) (r : Vals vs us) (h : spX G C f vs H Q (WE Wx σ)) :
    wpAny (model X.prog X.w) X.A (call (.ref (G.fa f)) us) (EP X pins σ Q) X.xe s := by
  obtain ⟨q, e1, h1, rm⟩ := o.heat hh
  obtain ⟨hp, hz, hv⟩ := o.pn q (by rw [e1]; exact List.mem_cons_self)
  have F := (o.hots q f hf).run
  rw [withX_self e1] at F
  have P1 := I.pin q.1 (List.mem_append_left _ hp)
  have pk : L2H.PinOk X.stack H s q.1 := ⟨P1.1, P1.2.1, fun hm => (List.mem_cons.mp (I.stkSub q.1.1 hm)).elim P1.2.2.1 P1.2.2.2.1, P1.2.2.2.2⟩
  obtain ⟨_, _, _, _, _, _, _, hl, _⟩ := id h
  have b := o.g.binds f x h2 s us (by rw [← o.K]; exact I.kIn) (by rw [List.append_nil, ← r.length]; exact hl)
  rw [List.append_nil] at b
  have e0 := I.env0
  rw [o.prog, o.w, o.K, o.mg, o.base] at e0
  refine wpAny_call ?_
  rw [o.prog, o.w]
  refine codeAny_mono (F X.A X.stack s H ⟨us, []⟩ us vs Q (WE Wx σ) rm h1 pk hz e0 b r h) fun r s' y => ?_
  rw [← o.prog, ← o.w] at y
  cases r with
  | error e => exact L2N.passAt o.tk σ pins H s e s' I y
  | ok fl =>
    cases fl with
    | ret u => exact I.after y
    | next => exact y.elim
    | brk => exact y.elim
    | cont => exact y.elim
theorem s_callH (o : Xok G T N C lv Wx sc X) (hh : T.hot = true) {scp : Bool} {f : Nat} (hf : f ∈ T.hots) {x : Str} {es : List E} {p : Expr} {ps : List Expr} {p0 pos : Pos} (h1 : glB sc x = true) (h2 : T.fname f = some x) (h : PA X (p :: ps) (rdEs G C Wx es)) (ns : ∀ q ∈ p :: ps, noStar q = true) :
    PE X (.Call (.Name x p0) (p :: ps) [] pos) (rdE G C Wx (.call scp f es)) := by
  obtain ⟨g, hd⟩ := glB_ok o h1
  have hk := o.g.keep f x h2
  rw [← o.K] at hk
  refine ⟨fun pins s σ H Q I q => ?_⟩
  refine wpAny_Call_Name_kw (ld_glob I g (by rw [o.mg]; exact o.g.fn f x h2) ?_ hd)
  refine PySem.W.callWith_K (h₀ := X.base) I.ok.mod.kin hk (thn (h.run pos pins s σ H _ I (rd.bind (rel := DVs G) q)) fun us s1 ⟨vs, H1, I1, rv, W1, bd1, base1, ρ1, st1, ds, r1, en1, dv1, q1⟩ => ⟨I1.kIn, ?_⟩) (star_cons (ns p List.mem_cons_self)) (star_any fun q hq => ns q (List.mem_cons_of_mem _ hq))
  exact run_hot o hh hf h2 I1 rv (callx_ok o r1 (.of dv1) q1)
/-- f(e, ..), e the exception that is handled -/
theorem s_callx (o : Xok G T N C lv Wx sc X) (hh : T.hot = true) {scp : Bool} {f i : Nat} (hf : f ∈ T.hots) {x y : Str} {es : List E} {ps : List Expr} {p0 py pos : Pos} (h1 : glB sc x = true) (h2 : T.fname f = some x) (hv : varB N sc i y = true) (h : PA X ps (rdEs G C Wx es)) (ns : ∀ q ∈ ps, noStar q = true) :
    PE X (.Call (.Name x p0) (.Name y py :: ps) [] pos) (rdE G C Wx (.callx scp f i es)) := by
  obtain ⟨g, hd⟩ := glB_ok o h1
  obtain ⟨v1, v2, v3, v4⟩ := varB_ok o hv
  have hk := o.g.keep f x h2
  rw [← o.K] at hk
  refine ⟨fun pins s σ H Q I q => ?_⟩
  refine wpAny_Call_Name_kw (ld_glob I g (by rw [o.mg]; exact o.g.fn f x h2) ?_ hd)
  obtain ⟨W, bd, base, ρ, st, r, en, q⟩ := q
  have q' : Ans (DV G) G bd base Wx σ W H st (match ρ[i]? with
    | some (some (.exc c ds)) => (evEs C base es ρ st).bind fun xs st => callR C base scp f (.exc c ds :: xs) st
    | _ => .bad) Q := q
  cases er : ρ[i]? with
  | none => rw [er] at q'; exact q'.elim
  | some od => cases od with
    | none => rw [er] at q'; exact q'.elim
    | some d => cases d with
      | exc c ds =>
        rw [er] at q'
        obtain ⟨v, hs, dx⟩ := en.2 i _ er
        have ha : PA X (.Name y py :: ps) (tCons (tVar i) (rdEs G C Wx es)) := pa_cons (pe_var v1 v2 v3 v4) h (star_cons rfl)
        have q2 : Ans (DV G) G bd base Wx σ W H st ((evEs C base es ρ st).bind fun xs st => callR C base scp f (.exc c ds :: xs) st) Q := q'
        refine PySem.W.callWith_K (h₀ := X.base) I.ok.mod.kin hk (thn (ha.run pos pins s σ H (fun vs H1 => ∃ xs, vs = v :: xs ∧ spX G C f (v :: xs) H1 Q (WE Wx σ)) I ⟨v, hs, W, bd, base, ρ, st, r, en, (Ans.bind (rel := DVs G) q2).mono fun xs H1 z => ⟨xs, rfl, ?_⟩⟩) fun us s1 ⟨vs, H1, I1, rv, xs, ev, q3⟩ => ⟨I1.kIn, ?_⟩) (star_cons rfl) (star_any ns)
        · obtain ⟨xs', st1, W1, _, p1, dv1, q4⟩ := z
          obtain ⟨v', hs', dx'⟩ := (en.post p1 r).2 i _ er
          rw [hs] at hs'
          cases hs'
          exact callx_ok o p1.rs (.cons dx' dv1) q4
        · subst ev
          exact run_hot o hh hf h2 I1 rv q3
      | _ => rw [er] at q'; exact q'.elim
/-- the callee runs, its keywords among its arguments -/
theorem run_at {X : Cx} {CX : CXT} {k n : Nat} {f : Addr} {fd : FuncData} {ps ks : List Str} {sp : Sp} {E : XK} {g : List Value → List Value → List Value} {gV : List V → List V → List V} {pins : List (Addr × Obj)} {σ : L2.St} {H : Hp} {s : Shared} {Q : VK} {us ws : List Value} {vs zs : List V}
    (F : FnOk X.prog X.w X.K X.mg X.base CX k f fd ps sp) (hr : Room k X.A) (hb : KBn X.K fd ps n ks g gV) (hx : PassesAt CX X σ E)
    (I : Inv X pins σ H s) (r : Vals vs us) (rz : Vals zs ws) (l1 : vs.length = n) (l2 : zs.length = ks.length) (h : sp (gV vs zs) H Q E) : wpAny (model X.prog X.w) X.A (call (.ref f) us (ks.zip ws)) (EP X pins σ Q) X.xe s := by
  have r2 := hb.rel r rz
  refine wpAny_call (codeAny_mono (F.run X.A X.stack s H ⟨us, ks.zip ws⟩ (g us ws) (gV vs zs) Q E hr I.env0 (hb.to s us ws I.kIn (r.length.symm.trans l1) (rz.length.symm.trans l2)) r2 h) fun r s' hq => ?_)
  cases r with
  | error e => exact hx pins H s e s' I hq
  | ok fl =>
    cases fl with
    | ret u => exact I.after hq
    | next => exact False.elim hq
    | brk => exact False.elim hq
    | cont => exact False.elim hq
theorem s_call0 (o : Xok G T N C lv Wx sc X) (hh : T.hot = false) {scp : Bool} {f : Nat} {x : Str} {p0 pos : Pos} (h1 : glB sc x = true) (h2 : T.fname f = some x) :
    PE X (.Call (.Name x p0) [] [] pos) (rdE G C Wx (.call scp f [])) := by
  obtain ⟨g, hd⟩ := glB_ok o h1
  have F := o.calls hh f
  rw [← o.prog, ← o.w, ← o.K, ← o.mg, ← o.base] at F
  have hb := o.g.binds f x h2
  have hk := o.g.keep f x h2
  rw [← o.K] at hb hk
  refine ⟨fun pins s σ H Q I q => ?_⟩
  obtain ⟨W, bd, base, ρ, st, r, en, q⟩ := rd.bind (rel := DVs G) q
  obtain ⟨W1, bd1, base1, ρ1, st1, ds, r1, en1, dv1, q1⟩ := q [] W H (Post.refl r) rfl
  refine wpAny_Call_Name_kw (ld_glob I g (by rw [o.mg]; exact o.g.fn f x h2) ?_ hd)
  exact PySem.W.callWith_K0 I.kIn hk (run_fnS (E := WE Wx) (us := []) F (o.room hh) hb (L2N.passAt o.tk σ) I .nil (call_ok o r1 dv1 q1))
/-- a def that stands in a slot -/
theorem s_callv (o : Xok G T N C lv Wx sc X) (hh : T.hot = false) {scp : Bool} {i : Nat} {x : Str} {es : List E} {p : Expr} {ps : List Expr} {p0 pos : Pos} (h : varB N sc i x = true) (ha : PA X (p :: ps) (rdEs G C Wx es)) (ns : ∀ q ∈ p :: ps, noStar q = true) :
    PE X (.Call (.Name x p0) (p :: ps) [] pos) (rdE G C Wx (.callv scp i es)) := by
  obtain ⟨h1, h2, h3, h4⟩ := varB_ok o h
  refine ⟨fun pins s σ H Q I q => ?_⟩
  obtain ⟨W, bd, base, ρ, st, r, en, q⟩ := q
  have q' : Ans (DV G) G bd base Wx σ W H st (match getV ρ i with
    | some (.fn f) => (match evEs C base es ρ st with
      | .ok ds st => callR C base scp f ds st
      | _ => .bad)
    | _ => .bad) Q := q
  cases eg : getV ρ i with
  | none => rw [eg] at q'; exact q'.elim
  | some d =>
  cases d with
  | fn f =>
    rw [eg] at q'
    dsimp only at q'
    obtain ⟨v, hv, dv⟩ := en.2 i _ (getV_ok eg).1
    have ev : v = .ref (G.fa f) := dv
    subst ev
    cases ee : evEs C base es ρ st with
    | bad => rw [ee] at q'; exact q'.elim
    | exc _ _ => rw [ee] at q'; exact q'.elim
    | ok ds st1 =>
    rw [ee] at q'
    dsimp only at q'
    have ne : ∃ ds st b, C f ds st b ≠ .bad := by
      cases scp with
      | false => exact ⟨ds, st1, base, fun z => by
          have q2 : Ans (DV G) G bd base Wx σ W H st (C f ds st1 base) Q := q'
          rw [z] at q2; exact q2⟩
      | true => exact ⟨ds, st1, st1.length, fun z => by
          have q2 : Ans (DV G) G bd base Wx σ W H st (match C f ds st1 st1.length with
            | .ok d st' => if plain d then .ok d (st'.take st1.length) else .bad
            | .exc d st' => .exc d (st'.take st1.length)
            | .bad => .bad) Q := q'
          rw [z] at q2; exact q2⟩
    obtain ⟨ds0, st0, b0, ne⟩ := ne
    obtain ⟨hk, hb⟩ := o.kp f ds0 st0 b0 ne
    have F := o.calls hh f
    rw [← o.prog, ← o.w, ← o.K, ← o.mg, ← o.base] at F
    rw [← o.K] at hb hk
    refine wpAny_Call_Name_kw (thn ((pe_var (pos := p0) (i := i) h1 h2 h3 h4).run pins s σ H (fun v H1 => v = .ref (G.fa f) ∧ H1 = H) I ⟨.ref _, hv, rfl, rfl⟩) fun u s1 ⟨v, H1, I1, r1, ev, eH⟩ => ?_)
    subst ev
    rw [eH] at I1
    cases r1
    have z : rdEs G C Wx es σ H fun vs H1 => spF G C f vs H1 Q (WE Wx σ) := by
      refine ⟨W, bd, base, ρ, st, r, en, ?_⟩
      dsimp only
      rw [ee]
      intro vs W1 H1 p1 dv1
      exact call_ok o p1.rs dv1 (Ans.shift p1 q')
    refine PySem.W.callWith_K (h₀ := X.base) I.ok.mod.kin hk (thn (ha.run pos pins s1 σ H _ I1 z) fun us s2 ⟨vs, H2, I2, rv, q2⟩ => ⟨I2.kIn, ?_⟩) (star_cons (ns p List.mem_cons_self)) (star_any fun q hq => ns q (List.mem_cons_of_mem _ hq))
    exact run_fnS F (o.room hh) hb (L2N.passAt o.tk σ) I2 rv q2
  | _ => rw [eg] at q'; exact q'.elim
/-! ### with keywords -/
inductive KwOk (G : Gx) (C : Call) (Wx : WX) (X : Cx) : List E → List Keyword → Prop where
  | nil : KwOk G C Wx X [] []
  | cons {e : E} {es : List E} {nm : Option Str} {p : Expr} {kp : Pos} {ps : List Keyword} : PE X p (rdE G C Wx e) → KwOk G C Wx X es ps → KwOk G C Wx X (e :: es) (⟨nm, p, kp⟩ :: ps)
theorem s_kw {es : List E} {ps : List Keyword} (h : KwOk G C Wx X es ps) : PK X ps (rdEs G C Wx es) := by
  induction h with
  | nil => exact ⟨fun pos pins s σ H Q I q => pk_nil.run pos pins s σ H Q I (rd_here (rel := DVs G) q fun _ _ => rfl)⟩
  | @cons e es nm p kp ps h _ ih =>
    refine ⟨fun pos pins s σ H Q I q => (pk_cons (nm := nm) (kpos := kp) h ih).run pos pins s σ H Q I ?_⟩
    obtain ⟨W, bd, base, ρ, st, r, en, q⟩ := rd.bind (rel := DV G) q
    refine ⟨W, bd, base, ρ, st, r, en, q.mono ?_⟩
    rintro x H1 ⟨W1, bd1, base1, ρ1, st1, d, r1, en1, dv1, q1⟩
    obtain ⟨W, bd, base, ρ, st, r, en, q⟩ := rd.bind2 (rel := DVs G) (rel0 := DV G) (f := fun base ρ st => evEs C base es ρ st) (g := fun base ρ xs st => .ok (d :: xs) st) r1 en1 (fun W H st P => P.dv r1 dv1) q1
    refine ⟨W, bd, base, ρ, st, r, en, q.mono ?_⟩
    rintro xs H2 ⟨W2, bd2, base2, ρ2, st2, ds, r2, en2, dv2, de, q2⟩
    exact q2 _ W2 H2 (Post.refl r2) ⟨x, xs, rfl, dv2, de⟩
theorem kw_facts {pos : Pos} {env : Env} : ∀ {kws : List Keyword} {names : List Str}, kws.map (·.arg) = names.map some →
    (backToKw pos (keywordEach kws env)).all (·.1.isSome) = true ∧ (backToKw pos (keywordEach kws env)).filterMap (·.1) = names ∧ (backToKw pos (keywordEach kws env)).any (·.1.isNone) = false
  | [], [], _ => ⟨rfl, rfl, rfl⟩
  | [], _ :: _, h => by cases h
  | _ :: _, [], h => by cases h
  | ⟨nm, p, kp⟩ :: kws, n :: names, h => by
    injection h with h1 h2
    have h1' : nm = some n := h1
    subst h1'
    obtain ⟨a, b, c⟩ := kw_facts (pos := pos) (env := env) h2
    refine ⟨?_, ?_, ?_⟩
    · show (true && (backToKw pos (keywordEach kws env)).all (·.1.isSome)) = true
      rw [a]; rfl
    · show n :: (backToKw pos (keywordEach kws env)).filterMap (·.1) = _
      rw [b]
    · show (false || (backToKw pos (keywordEach kws env)).any (·.1.isNone)) = false
      rw [c]; rfl
theorem getD_dv {W : Wd} {n : Nat} : ∀ {perm : List Nat} {ws : List D} {zs : List V}, DVs G W n H ws zs → DVs G W n H (perm.map fun i => ws.getD i .non) (perm.map fun i => zs.getD i .non)
  | [], _, _, _ => rfl
  | i :: perm, ws, zs, h => by
    refine ⟨_, _, rfl, ?_, getD_dv h⟩
    cases e : ws[i]? with
    | none =>
      have e2 : zs[i]? = none := by
        rw [List.getElem?_eq_none_iff] at e ⊢
        rw [h.len]; exact e
      simp only [List.getD, e, e2]
      rfl
    | some d =>
      obtain ⟨v, e2, hv⟩ := h.get e
      simp only [List.getD, e, e2]
      exact hv
theorem evEs_len {C : Call} {base : Nat} : ∀ {es : List E} {ρ : En} {st st' : Sto} {ds : List D}, evEs C base es ρ st = .ok ds st' → ds.length = es.length
  | [], _, _, _, _, h => by cases h; rfl
  | e :: es, ρ, st, st', ds, h => by
    have h' : ((evE C base e ρ st).bind fun x st => (evEs C base es ρ st).bind fun xs st => .ok (x :: xs) st) = .ok ds st' := h
    cases e1 : evE C base e ρ st with
    | ok x st1 =>
      rw [e1] at h'
      have h2 : ((evEs C base es ρ st1).bind fun xs st => .ok (x :: xs) st) = .ok ds st' := h'
      cases e2 : evEs C base es ρ st1 with
      | ok xs st2 =>
        rw [e2] at h2
        cases h2
        rw [List.length_cons, List.length_cons, evEs_len e2]
      | exc _ _ => rw [e2] at h2; cases h2
      | bad => rw [e2] at h2; cases h2
    | exc _ _ => rw [e1] at h'; cases h'
    | bad => rw [e1] at h'; cases h'
theorem callk_end (o : Xok G T N C lv Wx sc X) {scp : Bool} {f : Nat} {perm : List Nat} {ks : List E} {W : Wd} {bd : Nat → Nat} {base : Nat} {ρ : En} {st : Sto} {ds : List D} {vs : List V} {Q : VK} (r : RS G bd base W H st) (en : EnR G W st.length H ρ σ) (dv : DVs G W st.length H ds vs)
    (q : Ans (DV G) G bd base Wx σ W H st ((evEs C base ks ρ st).bind fun ws st => callR C base scp f (ds ++ perm.map fun i => ws.getD i .non) st) Q) :
    rdEs G C Wx ks σ H fun zs H2 => vs.length = ds.length ∧ zs.length = ks.length ∧ spF G C f (vs ++ perm.map fun i => zs.getD i .non) H2 Q (WE Wx σ) := by
  refine ⟨W, bd, base, ρ, st, r, en, (Ans.bind (rel := DVs G) q).mono ?_⟩
  rintro zs H2 ⟨ws, st2, W2, e2, P2, dw, q2⟩
  exact ⟨dv.len, by rw [dw.len, evEs_len e2], call_ok o P2.rs ((P2.dvs r dv).app (getD_dv dw)) q2⟩
theorem s_callk (o : Xok G T N C lv Wx sc X) (hh : T.hot = false) {scp : Bool} {f : Nat} {x : Str} {perm : List Nat} {names : List Str} {es ks : List E} {p : Expr} {ps : List Expr} {kws : List Keyword} {p0 pos : Pos} (h1 : glB sc x = true) (h2 : T.fname f = some x) (hkb : (f, es.length, perm, names) ∈ T.kbs) (hn : kws.map (·.arg) = names.map some)
    (h : PA X (p :: ps) (rdEs G C Wx es)) (ns : ∀ q ∈ p :: ps, noStar q = true) (hk2 : PK X kws (rdEs G C Wx ks)) (hl : ks.length = names.length) :
    PE X (.Call (.Name x p0) (p :: ps) kws pos) (rdE G C Wx (.callk scp f perm es ks)) := by
  obtain ⟨g, hd⟩ := glB_ok o h1
  have F := o.calls hh f
  rw [← o.prog, ← o.w, ← o.K, ← o.mg, ← o.base] at F
  have hb := o.g.kb _ hkb
  have hk := o.g.keep f x h2
  rw [← o.K] at hb hk
  obtain ⟨f1, f2, f3⟩ := kw_facts (pos := pos) (env := X.env) hn
  refine ⟨fun pins s σ H Q I q => ?_⟩
  refine wpAny_Call_Name_kw (ld_glob I g (by rw [o.mg]; exact o.g.fn f x h2) ?_ hd)
  refine PySem.W.callWith_KW (h₀ := X.base) I.ok.mod.kin hk f1 (thn (h.run pos pins s σ H _ I (rd.bindE (rel := DVs G) q)) fun us s1 ⟨vs, H1, I1, rv, q1⟩ => ?_) (by rw [star_any (fun q hq => ns q hq), f3]; rfl) (star_cons (ns p List.mem_cons_self))
  obtain ⟨W1, bd1, base1, ρ1, st1, ds, r1, en1, dv1, ⟨b', ρ', s', e1⟩, q1⟩ := q1
  have z := callk_end o r1 en1 dv1 q1
  rw [evEs_len e1, hl] at z
  refine thn (hk2.run pos pins s1 σ H1 _ I1 z) fun ws s2 ⟨zs, H2, I2, rz, l1, l2, q2⟩ => ⟨I2.kIn, ?_⟩
  rw [f2]
  exact run_at F (o.room hh) hb (L2N.passAt o.tk σ) I2 rv rz l1 l2 q2
theorem s_callk0 (o : Xok G T N C lv Wx sc X) (hh : T.hot = false) {scp : Bool} {f : Nat} {x : Str} {perm : List Nat} {names : List Str} {ks : List E} {kws : List Keyword} {p0 pos : Pos} (h1 : glB sc x = true) (h2 : T.fname f = some x) (hkb : (f, 0, perm, names) ∈ T.kbs) (hn : kws.map (·.arg) = names.map some)
    (hk2 : PK X kws (rdEs G C Wx ks)) (hl : ks.length = names.length) :
    PE X (.Call (.Name x p0) [] kws pos) (rdE G C Wx (.callk scp f perm [] ks)) := by
  obtain ⟨g, hd⟩ := glB_ok o h1
  have F := o.calls hh f
  rw [← o.prog, ← o.w, ← o.K, ← o.mg, ← o.base] at F
  have hb := o.g.kb _ hkb
  have hk := o.g.keep f x h2
  rw [← o.K] at hb hk
  obtain ⟨f1, f2, f3⟩ := kw_facts (pos := pos) (env := X.env) hn
  refine ⟨fun pins s σ H Q I q => ?_⟩
  obtain ⟨W, bd, base, ρ, st, r, en, q⟩ := q
  have q' : Ans (DV G) G bd base Wx σ W H st ((evEs C base ks ρ st).bind fun ws st => callR C base scp f ([] ++ perm.map fun i => ws.getD i .non) st) Q := q
  have z := callk_end (vs := []) o r en (show DVs G W st.length H [] [] from rfl) q'
  rw [hl] at z
  refine wpAny_Call_Name_kw (ld_glob I g (by rw [o.mg]; exact o.g.fn f x h2) ?_ hd)
  refine PySem.W.callWith_KW0 (h₀ := X.base) I.ok.mod.kin hk f1 ?_ (by rw [f3]; rfl)
  refine thn (hk2.run pos pins s σ H _ I z) fun ws s2 ⟨zs, H2, I2, rz, l1, l2, q2⟩ => ⟨I2.kIn, ?_⟩
  rw [f2]
  exact run_at F (o.room hh) hb (L2N.passAt o.tk σ) I2 .nil rz l1 l2 q2
end
end Rf

namespace Rf
open PySem PySem.Spec PyProof.Rows L2
section
variable {G : Gx} {T : Tx} {N : List Str} {C : Call} {lv : Nat} {Wx : WX} {sc : Scope} {X : Cx} {σ : L2.St} {H : Hp}
theorem s_bi (o : Xok G T N C lv Wx sc X) (hh : T.hot = false) {b : Bi} {bx : Bool} {x : Str} {es : List E} {p : Expr} {ps : List Expr} {p0 pos : Pos} (h1 : glB sc x = true) (h2 : biName b = x) (h : PA X (p :: ps) (rdEs G C Wx es)) (ns : ∀ q ∈ p :: ps, noStar q = true) :
    PE X (.Call (.Name x p0) (p :: ps) [] pos) (rdE G C Wx (.bi b bx es)) := by
  obtain ⟨g, hd⟩ := glB_ok o h1
  have hs := star_cons (es := ps) (env := X.env) (ns p List.mem_cons_self)
  have hp := star_any (env := X.env) (pos := pos) fun q hq => ns q (List.mem_cons_of_mem _ hq)
  have fin : ∀ σ H Q, rdE G C Wx (.bi b bx es) σ H Q → rdEs G C Wx es σ H fun vs H1 => rBi G Wx b bx vs H1 Q := fun σ H Q q => by
    obtain ⟨W, bd, base, ρ, st, r, en, q⟩ := rd.bind (rel := DVs G) q
    refine ⟨W, bd, base, ρ, st, r, en, q.mono ?_⟩
    rintro vs H1 ⟨W1, bd1, base1, ρ1, st1, ds, r1, en1, dv1, q1⟩
    exact ⟨bd1, base1, σ, W1, st1, ds, r1, dv1, q1⟩
  have ok := bi_ok (Wx := Wx) o.K (o.calm hh) b bx
  have hm : X.mg x = none := by
    rw [o.mg, ← h2]
    exact o.g.bi _ (by cases b <;> decide)
  subst h2
  cases b with
  | len => exact PE.weak (pe_callB ok g hm (by decide +kernel) h (by decide) hd hs hp) fin
  | abs => exact PE.weak (pe_callB ok g hm (by decide +kernel) h (by decide) hd hs hp) fin
  | sum => exact PE.weak (pe_callB ok g hm (by decide +kernel) h (by decide) hd hs hp) fin
  | all => exact PE.weak (pe_callB ok g hm (by decide +kernel) h (by decide) hd hs hp) fin
  | any => exact PE.weak (pe_callB ok g hm (by decide +kernel) h (by decide) hd hs hp) fin
  | max1 => exact PE.weak (pe_callB ok g hm (by decide +kernel) h (by decide) hd hs hp) fin
  | max2 => exact PE.weak (pe_callB ok g hm (by decide +kernel) h (by decide) hd hs hp) fin
  | min2 => exact PE.weak (pe_callB ok g hm (by decide +kernel) h (by decide) hd hs hp) fin
  | sorted => exact PE.weak (pe_callB ok g hm (by decide +kernel) h (by decide) hd hs hp) fin
  | divmod => exact PE.weak (pe_callB ok g hm (by decide +kernel) h (by decide) hd hs hp) fin
  | tuple => exact PE.weak (pe_callTy ok g hm (by decide +kernel) h (by decide) hd hs hp) fin
  | list => exact PE.weak (pe_callTy ok g hm (by decide +kernel) h (by decide) hd hs hp) fin
  | dict => exact PE.weak (pe_callTy ok g hm (by decide +kernel) h (by decide) hd hs hp) fin
  | int => exact PE.weak (pe_callTy ok g hm (by decide +kernel) h (by decide) hd hs hp) fin
  | str => exact PE.weak (pe_callTy ok g hm (by decide +kernel) h (by decide) hd hs hp) fin
  | bool => exact PE.weak (pe_callTy ok g hm (by decide +kernel) h (by decide) hd hs hp) fin
theorem bi_okH (hK : X.K = G.K) (hc : L2H.HotC X) {b : Bi} (hb : hotBi b = true) (bx : Bool) : CallR X (biV b) (rBi G Wx b bx) := by
  intro pins s σ' H xs us Q I rx h
  obtain ⟨bd, base, σ, W, st, ds, r, hd, h⟩ := h
  revert h
  generalize hm : ds.map (vw st) = ms
  intro h
  cases b <;> first | cases hb | skip
  · unfold biR at h
    split at h <;> first | contradiction | exact h.elim | skip
    obtain ⟨d, v, rfl, rfl, rfl, h1⟩ := hd.one hm
    obtain ⟨k, hk, h⟩ := Ans.opt h
    rcases lenD_ok hK r h1 hk with ⟨m, h2, rfl⟩ | ⟨a, kvs, rfl, h2, rfl⟩
    · exact call_len pins s σ' H _ us Q I rx ⟨v, m, rfl, h2, h.here r rfl⟩
    · exact call_lenDR pins s σ' H _ us Q I rx ⟨a, kvs, rfl, h2, h.here r rfl⟩
  · unfold biR at h
    split at h <;> first | contradiction | exact h.elim | skip
    obtain ⟨d, v, rfl, rfl, e, h1⟩ := hd.one hm
    obtain ⟨ns, hn, h⟩ := Ans.opt h
    obtain ⟨p, ys, rfl, h2, h3⟩ := vw_lst r h1 e
    exact call_allH hc pins s σ' H _ us Q I rx ⟨p, ns, rfl, SqL.of (by rw [h2, boolsOf_ok h3 hn]), h.here r rfl⟩
  · unfold biR at h
    split at h <;> first | contradiction | exact h.elim | skip
    · obtain ⟨d, v, rfl, rfl, e, h1⟩ := hd.one hm
      obtain ⟨p, ys, rfl, h2, h3⟩ := vw_lst r h1 e
      refine call_tuple_of pins s σ' H _ us Q I rx ⟨p, ys, rfl, .inl ⟨SqL.of h2, fun q hq => ?_⟩⟩
      obtain ⟨e', r'⟩ := alloc_any r hq (.tup ys)
      exact h _ _ _ ⟨e', r'⟩ ⟨q, ys, rfl, SqT.of upd_same, DVs.keep e' r (Nat.le_refl _) (Nat.le_refl _) h3⟩
    · obtain ⟨d, v, rfl, rfl, e, h1⟩ := hd.one hm
      obtain ⟨p, ys, rfl, h2, h3⟩ := vw_tup h1 e
      exact call_tuple_of pins s σ' H _ us Q I rx ⟨p, ys, rfl, .inr ⟨by rw [hK]; exact h2, h.here r ⟨p, ys, rfl, h2, h3⟩⟩⟩
theorem s_biH (o : Xok G T N C lv Wx sc X) (hc : L2H.HotC X) {b : Bi} (hb : hotBi b = true) {bx : Bool} {x : Str} {es : List E} {p : Expr} {ps : List Expr} {p0 pos : Pos} (h1 : glB sc x = true) (h2 : biName b = x) (h : PA X (p :: ps) (rdEs G C Wx es)) (ns : ∀ q ∈ p :: ps, noStar q = true) :
    PE X (.Call (.Name x p0) (p :: ps) [] pos) (rdE G C Wx (.bi b bx es)) := by
  obtain ⟨g, hd⟩ := glB_ok o h1
  have hs := star_cons (es := ps) (env := X.env) (ns p List.mem_cons_self)
  have hp := star_any (env := X.env) (pos := pos) fun q hq => ns q (List.mem_cons_of_mem _ hq)
  have fin : ∀ σ H Q, rdE G C Wx (.bi b bx es) σ H Q → rdEs G C Wx es σ H fun vs H1 => rBi G Wx b bx vs H1 Q := fun σ H Q q => by
    obtain ⟨W, bd, base, ρ, st, r, en, q⟩ := rd.bind (rel := DVs G) q
    refine ⟨W, bd, base, ρ, st, r, en, q.mono ?_⟩
    rintro vs H1 ⟨W1, bd1, base1, ρ1, st1, ds, r1, en1, dv1, q1⟩
    exact ⟨bd1, base1, σ, W1, st1, ds, r1, dv1, q1⟩
  have ok := bi_okH (Wx := Wx) o.K hc hb bx
  have hm : X.mg x = none := by
    rw [o.mg, ← h2]
    exact o.g.bi _ (by cases b <;> decide)
  subst h2
  cases b with
  | len => exact PE.weak (pe_callB ok g hm (by decide +kernel) h (by decide) hd hs hp) fin
  | all => exact PE.weak (pe_callB ok g hm (by decide +kernel) h (by decide) hd hs hp) fin
  | tuple => exact PE.weak (pe_callTy ok g hm (by decide +kernel) h (by decide) hd hs hp) fin
  | _ => cases hb
theorem s_isi (o : Xok G T N C lv Wx sc X) {k : Ki} {x y : Str} {e : E} {p : Expr} {p0 p1 pos : Pos} (h1 : glB sc x = true) (h2 : x = ("isinstance" : Str)) (h3 : glB sc y = true) (h4 : y = Str.ofString (kiN k)) (h : PE X p (rdE G C Wx e)) (ns : noStar p = true) :
    PE X (.Call (.Name x p0) [p, .Name y p1] [] pos) (rdE G C Wx (.isi [k] e)) := by
  obtain ⟨g, hd⟩ := glB_ok o h1
  obtain ⟨g2, hd2⟩ := glB_ok o h3
  have hm : X.mg x = none := by rw [o.mg, h2]; exact o.g.bi _ (by decide)
  have hy : PE X (.Name y p1) (tC (.ty (kiN k))) := by
    have hm2 : X.mg y = none := by rw [o.mg, h4]; exact o.g.bi _ (by cases k <;> decide)
    subst h4
    cases k with
    | int => exact pe_bltn g2 hm2 (u := .type "int") (by decide +kernel) rfl (by decide) hd2
    | bool => exact pe_bltn g2 hm2 (u := .type "bool") (by decide +kernel) rfl (by decide) hd2
    | str => exact pe_bltn g2 hm2 (u := .type "str") (by decide +kernel) rfl (by decide) hd2
    | tuple => exact pe_bltn g2 hm2 (u := .type "tuple") (by decide +kernel) rfl (by decide) hd2
    | list => exact pe_bltn g2 hm2 (u := .type "list") (by decide +kernel) rfl (by decide) hd2
    | dict => exact pe_bltn g2 hm2 (u := .type "dict") (by decide +kernel) rfl (by decide) hd2
  subst h2
  refine PE.weak (pe_callB call_isi g hm (by decide +kernel) (pa_cons h (pa_cons hy pa_nil) (star_cons ns)) (by decide) hd (star_cons ns) rfl) fun σ H Q q => ?_
  obtain ⟨W, bd, base, ρ, st, r, en, q⟩ := rd.bind (rel := DV G) q
  refine ⟨W, bd, base, ρ, st, r, en, q.mono ?_⟩
  rintro v H1 ⟨W1, bd1, base1, ρ1, st1, d, r1, en1, dv1, q1⟩
  obtain ⟨b, hb, q1⟩ := Ans.opt q1
  obtain ⟨t, t1, t2⟩ := isKi_ok o.K k r1 dv1 hb
  exact ⟨v, .ty (kiN k), .type t, .type (kiN k), b, rfl, .ty _, t1, kit_ty t2, Ans.here r1 q1 rfl⟩
/-! ### methods of dicts and lists -/
theorem base_ok {po : Expr} {m : Str} {env : Env} (h : plainBase po = true) : attributeBase po m env (eval po env) = eval po env := by
  cases po with
  | Call f as ks pos =>
    cases f with
    | Name x p => cases as with
      | nil => cases ks with
        | nil => cases h
        | cons _ _ => rfl
      | cons _ _ => rfl
    | _ => rfl
  | _ => rfl
theorem rd_recv {m : Mt} {a : E} {δ γ : Type} {rel' : Rl γ δ} {g : Nat → En → D → Sto → R γ} {Q : δ → Hp → Prop} (q : rd G Wx rel' (fun base ρ st => (evE C base a ρ st).bind fun x st => (opt (mtTy m (vw st x)) st).bind fun _ st => g base ρ x st) σ H Q) :
    rdE G C Wx a σ H fun x H1 => ∃ W bd base ρ st d, RS G bd base W H1 st ∧ EnR G W st.length H1 ρ σ ∧ DV G W st.length H1 d x ∧ mtTy m (vw st d) = some () ∧ Ans rel' G bd base Wx σ W H1 st (g base ρ d st) Q := by
  obtain ⟨W, bd, base, ρ, st, r, en, q⟩ := rd.bind (rel := DV G) q
  refine ⟨W, bd, base, ρ, st, r, en, q.mono ?_⟩
  rintro x H1 ⟨W1, bd1, base1, ρ1, st1, d, r1, en1, dv1, q1⟩
  obtain ⟨u, hu, q1⟩ := Ans.opt q1
  exact ⟨W1, bd1, base1, ρ1, st1, d, r1, en1, dv1, hu, q1⟩
theorem bind_ok {α β : Type} {r : R α} {f : α → Sto → R β} : (r.bind fun x st => (R.ok x st).bind f) = r.bind f := by cases r <;> rfl
theorem s_get2 (o : Xok G T N C lv Wx sc X) {bx : Bool} {a k d : E} {pa pk pd : Expr} {apos pos : Pos} (hpb : plainBase pa = true) (hl : apos.endLine = pos.line) (ha : PE X pa (rdE G C Wx a)) (hk : PE X pk (rdE G C Wx k)) (hd : PE X pd (rdE G C Wx d)) (nk : noStar pk = true) (nd : noStar pd = true) :
    PE X (.Call (.Attribute pa "get" apos) [pk, pd] [] pos) (rdE G C Wx (.mt .get2 bx a [k, d])) := by
  have hs : backTo pos (starEach [pk, pd] X.env) = [(false, eval pk X.env), (false, eval pd X.env)] := by rw [star_cons nk, star_cons nd]; rfl
  refine PE.weak (pe_dget2 (room1 o) ha hk hd ⟨base_ok hpb, by rw [hs]; rfl, by rw [hl]; simp, hs⟩) fun σ H Q q => ?_
  obtain ⟨W, bd, base, ρ, st, r, en, q⟩ := rd_recv q
  refine ⟨W, bd, base, ρ, st, r, en, q.mono ?_⟩
  rintro x H1 ⟨W1, bd1, base1, ρ1, st1, e, r1, en1, dv1, hty, q1⟩
  cases ee : vw st1 e with
  | dct ks vs =>
    obtain ⟨p, kvs, rfl, h1, h2, h3⟩ := vw_dct r1 dv1 ee
    refine ⟨p, rfl, .inl ⟨kvs, h1⟩, ?_⟩
    -- the arguments
    have q1' : Ans (DV G) G bd1 base1 Wx σ W1 H1 st1 ((evE C base1 k ρ1 st1).bind fun y st => (evE C base1 d ρ1 st).bind fun z st => mtR .get2 bx base1 e [y, z] st) Q := by
      have e2 : ((evEs C base1 [k, d] ρ1 st1).bind fun ds st => mtR .get2 bx base1 e ds st) = (evE C base1 k ρ1 st1).bind fun y st => (evE C base1 d ρ1 st).bind fun z st => mtR .get2 bx base1 e [y, z] st := by
        show (((evE C base1 k ρ1 st1).bind fun x st => (((evE C base1 d ρ1 st).bind fun y st => ((R.ok [] st).bind fun zs st => .ok (y :: zs) st)).bind fun xs st => .ok (x :: xs) st)).bind _) = _
        rw [bind_assoc']
        congr 1; funext y st2
        rw [bind_assoc', bind_assoc']
        rfl
      rw [← e2]; exact q1
    obtain ⟨W, bd, base, ρ, st, r, en, q⟩ := rd.bind2 (rel := DV G) (rel0 := DV G) (f := fun base ρ st => evE C base k ρ st) (g := fun base ρ y st => (evE C base d ρ st).bind fun z st => mtR .get2 bx base e [y, z] st) r1 en1 (fun W H st P => P.dv r1 dv1) q1'
    refine ⟨W, bd, base, ρ, st, r, en, q.mono ?_⟩
    rintro y H2 ⟨W2, bd2, base2, ρ2, st2, kd, r2, en2, dv2, dk, q2⟩
    obtain ⟨W, bd, base, ρ, st, r, en, q⟩ := rd.bind2 (rel := DV G) (rel0 := fun W n H (p : D × D) (q : V × V) => DV G W n H p.1 q.1 ∧ DV G W n H p.2 q.2) (d0 := (e, kd)) (v0 := (.ref p, y)) (f := fun base ρ st => evE C base d ρ st) (g := fun base ρ z st => mtR .get2 bx base e [kd, z] st) r2 en2 (fun W H st P => ⟨P.dv r2 dv2, P.dv r2 dk⟩) q2
    refine ⟨W, bd, base, ρ, st, r, en, q.mono ?_⟩
    rintro z H3 ⟨W3, bd3, base3, ρ3, st3, zd, r3, en3, ⟨dv3, dk3⟩, dz, q3⟩
    dsimp only at dv3 dk3
    have q3' : Ans (DV G) G bd3 base3 Wx σ W3 H3 st3 (match vw st3 e with
      | .dct ks vs => (opt (keyOf kd) st3).bind fun k st => .ok ((dGet ks vs k).getD zd) st
      | _ => .bad) Q := q3
    cases e3 : vw st3 e with
    | dct ks vs =>
      rw [e3] at q3'
      obtain ⟨ky, hky, q4⟩ := Ans.opt q3'
      obtain ⟨p', kvs', ep, h1, h2, h3⟩ := vw_dct r3 dv3 e3
      cases ep
      have g := dGet_ok (k := ky) h2 h3
      refine ⟨valV kvs' (kyR ky), .inl ⟨kvs', kyR ky, h1, key_val dk3 hky, rfl⟩, ?_⟩
      cases hg : dGet ks vs ky with
      | none =>
        rw [hg] at g q4
        dsimp only at g
        rw [g]
        exact Ans.here r3 q4 dz
      | some w =>
        rw [hg] at g q4
        obtain ⟨v, hv, dvv⟩ := g
        rw [hv]
        exact Ans.here r3 q4 dvv
    | _ => rw [e3] at q3'; exact q3'.elim
  | _ => rw [ee] at hty; cases hty
theorem s_append (o : Xok G T N C lv Wx sc X) {bx : Bool} {a x : E} {pa px : Expr} {apos pos : Pos} (hpb : plainBase pa = true) (hl : apos.endLine = pos.line) (ha : PE X pa (rdE G C Wx a)) (hx : PE X px (rdE G C Wx x)) (nx : noStar px = true) :
    PE X (.Call (.Attribute pa "append" apos) [px] [] pos) (rdE G C Wx (.mt .append bx a [x])) := by
  have hs : starEach [px] X.env = [(false, eval px X.env)] := star_cons nx
  refine PE.weak (pe_bm PySem.F.plainAttrs_list PySem.F.slot_list_append PySem.F.type_list_append mt_append ha (pa_cons hx pa_nil hs) (base_ok hpb) (by rw [hs]; rfl) (by rw [hl]; simp) hs rfl) fun σ H Q q => ?_
  obtain ⟨W, bd, base, ρ, st, r, en, q⟩ := rd_recv q
  refine ⟨W, bd, base, ρ, st, r, en, q.mono ?_⟩
  rintro v H1 ⟨W1, bd1, base1, ρ1, st1, e, r1, en1, dv1, hty, q1⟩
  cases ee : vw st1 e with
  | lst ds =>
    obtain ⟨p, xs, rfl, h1, h2⟩ := vw_lst r1 dv1 ee
    refine ⟨.inl ⟨rfl, xs, SqL.of h1⟩, ?_⟩
    have q1' : Ans (DV G) G bd1 base1 Wx σ W1 H1 st1 ((evE C base1 x ρ1 st1).bind fun y st => mtR .append bx base1 e [y] st) Q := by
      have e2 : ((evEs C base1 [x] ρ1 st1).bind fun ds st => mtR .append bx base1 e ds st) = (evE C base1 x ρ1 st1).bind fun y st => mtR .append bx base1 e [y] st := by
        show (((evE C base1 x ρ1 st1).bind fun y st => ((R.ok [] st).bind fun xs st => .ok (y :: xs) st)).bind _) = _
        rw [bind_assoc']
        rfl
      rw [← e2]; exact q1
    obtain ⟨W, bd, base, ρ, st, r, en, q⟩ := rd.bind2 (rel := DV G) (rel0 := DV G) (f := fun base ρ st => evE C base x ρ st) (g := fun base ρ y st => mtR .append bx base e [y] st) r1 en1 (fun W H st P => P.dv r1 dv1) q1'
    refine ⟨W, bd, base, ρ, st, r, en, q.mono ?_⟩
    rintro y H2 ⟨W2, bd2, base2, ρ2, st2, yd, r2, en2, dv2, dy, q2⟩
    cases e with
    | ref n =>
      have q2' : Ans (DV G) G bd2 base2 Wx σ W2 H2 st2 (match st2[n]? with
        | some (.lst ds) => if wOk base2 n yd && decide (ds.length < SL) then .ok .non (st2.set n (.lst (ds ++ [yd]))) else .bad
        | _ => .bad) Q := q2
      cases en' : st2[n]? with
      | none => rw [en'] at q2'; exact q2'.elim
      | some ob =>
        cases ob with
        | lst es =>
          rw [en'] at q2'
          dsimp only at q2'
          split at q2'
          · rename_i hw
            obtain ⟨w1, w2⟩ := and2 hw
            obtain ⟨ep, _⟩ := dv2
            obtain ⟨ys, g1, g2⟩ := r2.obj n _ en'
            refine ⟨_, ys, y, ep, rfl, g1, by rw [g2.len, ← SL_eq]; exact of_decide_eq_true w2, ?_⟩
            have hlv : live st2 n := ⟨_, en', by simp⟩
            obtain ⟨ex, rs⟩ := write_ob r2 hlv (.lst (ys ++ [y])) (ob := .lst (es ++ [yd])) (by simp) fun H' ex hh => by
              refine ⟨ys ++ [y], hh, DVs.app (DVs.keep ex r2 (bdOf_le r2) (Nat.le_refl _) g2) ⟨y, [], rfl, ?_, rfl⟩⟩
              rcases Bool.or_eq_true_iff.mp w1 with w1 | w1
              · have : bdOf bd2 base2 st2.length n = st2.length := if_neg (by have := of_decide_eq_true w1; omega)
                rw [this]
                exact DV.keep ex r2 (Nat.le_refl _) (Nat.le_refl _) dy
              · exact DV.plain w1 (DV.keep ex r2 (Nat.le_refl _) (Nat.le_refl _) dy)
            exact q2' _ _ _ ⟨ex, rs⟩ rfl
          · exact q2'.elim
        | _ => rw [en'] at q2'; exact q2'.elim
    | _ => exact q2.elim
  | _ => rw [ee] at hty; cases hty
/-! ### max(.., default=..) -/
theorem max_dflt {X : Cx} (hc : X.calm = true) (hu : X.A.units + 65 < cLine) : CallRK X (.builtin "max") [Str.ofString "default"] (fun xs zs H Q => ∃ a ns d, xs = [.ref a] ∧ zs = [.int d] ∧ SqL X.K H a (ns.map V.int) ∧ Q (.int ((maxL ns).getD d)) H) := by
  intro pins s σ H xs zs us ws Q I rx rz h
  obtain ⟨a, ns, d, rfl, rfl, hl, q⟩ := h
  obtain ⟨u, rfl, ru⟩ := vals1 rx
  obtain ⟨w, rfl, t, rfl⟩ := vals1 rz
  cases ru
  obtain ⟨its, rv, p, hz⟩ := I.list hl
  have hd : ∀ ns : List Int, DpAll X.K H (ns.map V.int) (ns.map PyData.int) := fun ns => by
    induction ns with
    | nil => exact .nil
    | cons i r ih => exact .cons (.int i) ih
  obtain ⟨as, hr⟩ := Dp.readsAll I _ _ _ (hd ns) rv
  have ha : PySem.W.AlikeAll (ns.map PyData.int) := by
    refine ⟨fun x hx y hy => ?_, fun x hx => ?_⟩
    · obtain ⟨i, _, rfl⟩ := List.mem_map.mp hx
      obtain ⟨j, _, rfl⟩ := List.mem_map.mp hy
      rfl
    · obtain ⟨i, _, rfl⟩ := List.mem_map.mp hx
      intro z; cases z
  refine PySem.W.max_list_default (I.ok.hd hc) p.isList (by simpa using hr) ha (by rw [PySem.W.ke_depthAll]; omega) (fun e0 h' tk hk => ?_) fun y ys i v h' tk bs e0 hi hrd hk => ?_
  · have en : ns = [] := by simpa using e0
    subst en
    exact ⟨.int d, H, I.kept hk, ⟨t, rfl⟩, q⟩
  · cases ns with
    | nil => cases e0
    | cons m ms =>
      rw [List.map_cons] at e0
      injection e0 with e1 e2
      subst e1 e2
      rw [PySem.W.maxD_ints] at hrd
      cases hrd with
      | int _ t2 => exact ⟨.int (ms.foldl max m), H, I.kept hk, ⟨t2, rfl⟩, q⟩
theorem s_maxd (o : Xok G T N C lv Wx sc X) (hh : T.hot = false) {i : Int} {x : Str} {e : E} {p : Expr} {j : Nat} {p0 p1 p2 pos : Pos} (h1 : glB sc x = true) (h2 : x = ("max" : Str)) (h : PE X p (rdE G C Wx e)) (ns : noStar p = true) :
    PE X (.Call (.Name x p0) [p] [⟨some "default", .Constant (.int i) j p1, p2⟩] pos) (rdE G C Wx (.maxd e i)) := by
  obtain ⟨g, hd⟩ := glB_ok o h1
  have hm : X.mg x = none := by rw [o.mg, h2]; exact o.g.bi _ (by decide)
  subst h2
  have hs : starEach [p] X.env = [(false, eval p X.env)] := star_cons ns
  refine PE.weak (pe_callBK (max_dflt (o.calm hh) (room65 o)) g hm (by decide +kernel) (pa_cons h pa_nil hs) (pk_cons pe_int pk_nil) (by decide) hd (by rw [hs]; rfl) (by rw [hs]; rfl) rfl rfl rfl) fun σ H Q q => ?_
  obtain ⟨W, bd, base, ρ, st, r, en, q⟩ := rd.bind (rel := DV G) q
  refine ⟨W, bd, base, ρ, st, r, en, q.mono ?_⟩
  rintro v H1 ⟨W1, bd1, base1, ρ1, st1, d, r1, en1, dv1, q1⟩
  cases ee : vw st1 d with
  | lst ds =>
    rw [ee] at q1
    obtain ⟨a, xs, rfl, g1, g2⟩ := vw_lst r1 dv1 ee
    obtain ⟨ms, hms, q1⟩ := Ans.opt (f := fun ns st => R.ok (D.int ((maxL ns).getD i)) st) q1
    exact ⟨a, ms, i, rfl, rfl, SqL.of (by rw [g1, intsOf_ok g2 hms]), Ans.here r1 q1 rfl⟩
  | _ => rw [ee] at q1; exact q1.elim
end
end Rf

/-! Methods of texts and lists. -/
namespace Rf
open PySem PySem.Spec PyProof.Rows L2
section
variable {G : Gx} {T : Tx} {N : List Str} {C : Call} {lv : Nat} {Wx : WX} {sc : Scope} {X : Cx} {σ : L2.St} {H : Hp} {W : Wd} {n : Nat} {st : Sto} {bd : Nat → Nat} {base : Nat}
/-- a method of one argument -/
theorem rd_m1 {m : Mt} {bx : Bool} {a x : E} {Q : VK} (q : rdE G C Wx (.mt m bx a [x]) σ H Q) : rdE G C Wx a σ H fun v H1 => ∃ W bd base st e, RS G bd base W H1 st ∧ DV G W st.length H1 e v ∧ mtTy m (vw st e) = some () ∧
    rdE G C Wx x σ H1 fun y H2 => ∃ W2 bd2 base2 st2 yd, RS G bd2 base2 W2 H2 st2 ∧ DV G W2 st2.length H2 e v ∧ DV G W2 st2.length H2 yd y ∧ Ans (DV G) G bd2 base2 Wx σ W2 H2 st2 (mtR m bx base2 e [yd] st2) Q := by
  obtain ⟨W, bd, base, ρ, st, r, en, q⟩ := rd_recv q
  refine ⟨W, bd, base, ρ, st, r, en, q.mono ?_⟩
  rintro v H1 ⟨W1, bd1, base1, ρ1, st1, e, r1, en1, dv1, hty, q1⟩
  refine ⟨W1, bd1, base1, st1, e, r1, dv1, hty, ?_⟩
  have q1' : Ans (DV G) G bd1 base1 Wx σ W1 H1 st1 ((evE C base1 x ρ1 st1).bind fun y st => mtR m bx base1 e [y] st) Q := by
    have e2 : ((evEs C base1 [x] ρ1 st1).bind fun ds st => mtR m bx base1 e ds st) = (evE C base1 x ρ1 st1).bind fun y st => mtR m bx base1 e [y] st := by
      show (((evE C base1 x ρ1 st1).bind fun y st => ((R.ok [] st).bind fun xs st => .ok (y :: xs) st)).bind _) = _
      rw [bind_assoc']
      rfl
    rw [← e2]; exact q1
  obtain ⟨W, bd, base, ρ, st, r, en, q⟩ := rd.bind2 (rel := DV G) (rel0 := DV G) (f := fun base ρ st => evE C base x ρ st) (g := fun base ρ y st => mtR m bx base e [y] st) r1 en1 (fun W H st P => P.dv r1 dv1) q1'
  refine ⟨W, bd, base, ρ, st, r, en, q.mono ?_⟩
  rintro y H2 ⟨W2, bd2, base2, ρ2, st2, yd, r2, en2, dv2, dy, q2⟩
  exact ⟨W2, bd2, base2, st2, yd, r2, dv2, dy, q2⟩
/-- of none -/
theorem rd_m0 {m : Mt} {bx : Bool} {a : E} {Q : VK} (q : rdE G C Wx (.mt m bx a []) σ H Q) : rdE G C Wx a σ H fun v H1 => ∃ W bd base st e, RS G bd base W H1 st ∧ DV G W st.length H1 e v ∧ mtTy m (vw st e) = some () ∧ Ans (DV G) G bd base Wx σ W H1 st (mtR m bx base e [] st) Q := by
  obtain ⟨W, bd, base, ρ, st, r, en, q⟩ := rd_recv q
  refine ⟨W, bd, base, ρ, st, r, en, q.mono ?_⟩
  rintro v H1 ⟨W1, bd1, base1, ρ1, st1, e, r1, en1, dv1, hty, q1⟩
  exact ⟨W1, bd1, base1, st1, e, r1, dv1, hty, q1⟩
theorem pre1 (c x : Nat) (r : List Nat) : TL.pre [c] (x :: r) = decide (x = c) := by
  show ([x] == [c]) = _
  by_cases h : x = c
  · subst h; simp
  · have : ([x] == [c]) = false := by simpa using h
    rw [this, decide_eq_false h]
theorem splL_ne (c : Nat) : ∀ a : List Nat, splL c a ≠ []
  | [] => by simp [splL]
  | x :: a => by
    unfold splL
    split
    · simp
    · split <;> simp
theorem spl_one (c : Nat) : ∀ (a acc : List Nat), TL.spl [c] 0 acc a = (match splL c a with
    | p :: r => (acc ++ p) :: r
    | [] => [acc])
  | [], acc => by show [acc] = [acc ++ []]; rw [List.append_nil]
  | x :: a, acc => by
    show (if TL.pre [c] (x :: a) = true then acc :: TL.spl [c] 0 [] a else TL.spl [c] 0 (acc ++ [x]) a) = _
    rw [pre1]
    have hs : splL c (x :: a) = if x = c then [] :: splL c a else (match splL c a with
      | [] => [[x]]
      | p :: r => (x :: p) :: r) := rfl
    rw [hs]
    obtain ⟨p, r, e⟩ : ∃ p r, splL c a = p :: r := by
      cases e : splL c a with
      | nil => exact absurd e (splL_ne c a)
      | cons p r => exact ⟨p, r, rfl⟩
    by_cases h : x = c
    · rw [if_pos (decide_eq_true h), if_pos h, spl_one c a [], e]
      simp
    · rw [if_neg (by rw [decide_eq_false h]; exact Bool.false_ne_true), if_neg h, spl_one c a (acc ++ [x]), e]
      simp
theorem split_one {s : List Nat} {c : Nat} (h : c < 256) : Txt.split ⟨s.toArray⟩ ⟨[c].toArray⟩ = (splL c s).map fun p => (⟨p.toArray⟩ : Str) := by
  have e := SX.split_S (a := s) (b := [c]) (by simp) (by simpa using h)
  rw [spl_one] at e
  obtain ⟨p, r, e2⟩ : ∃ p r, splL c s = p :: r := by
    cases e : splL c s with
    | nil => exact absurd e (splL_ne c s)
    | cons p r => exact ⟨p, r, rfl⟩
  rw [e2] at e ⊢
  exact e
theorem dvs_strs : ∀ ss : List (List Nat), DVs G W n H (ss.map D.str) (ss.map fun p => V.str ⟨p.toArray⟩)
  | [] => rfl
  | s :: ss => ⟨_, _, rfl, rfl, dvs_strs ss⟩
theorem strsOf_ok : ∀ {ds : List D} {xs : List V} {ss : List (List Nat)}, DVs G W n H ds xs → strsOf ds = some ss → xs = ss.map fun p => V.str ⟨p.toArray⟩
  | [], _, _, h, e => by cases e; exact h
  | d :: ds, _, ss, h, e => by
    obtain ⟨y, ys, rfl, h1, h2⟩ := h
    cases d with
    | str i =>
      have e' : (strsOf ds).map (i :: ·) = some ss := e
      cases q : strsOf ds with
      | none => rw [q] at e'; cases e'
      | some ms =>
        rw [q] at e'
        cases e'
        rw [strsOf_ok h2 q, show y = V.str ⟨i.toArray⟩ from h1]; rfl
    | _ => cases e
theorem joinL_eq (sep : List Nat) : ∀ ss : List (List Nat), TL.joinL sep ss = Rf.joinL sep ss
  | [] => rfl
  | [_] => rfl
  | p :: q :: r => by
    show p ++ (sep ++ TL.joinL sep (q :: r)) = p ++ sep ++ Rf.joinL sep (q :: r)
    rw [joinL_eq sep (q :: r), List.append_assoc]
theorem join_txt (sep : List Nat) (ss : List (List Nat)) : Txt.join ⟨sep.toArray⟩ (ss.map fun p => (⟨p.toArray⟩ : Str)) = ⟨(Rf.joinL sep ss).toArray⟩ := by
  have := SX.join_S sep ss
  rw [joinL_eq] at this
  exact this
theorem mtTy_str {m : Mt} {d : D} {s : List Nat} (e : vw st d = .str s) : d = .str s := vw_id e (by intro _ z; cases z) (by intro _ _ z; cases z)
theorem s_split (o : Xok G T N C lv Wx sc X) {bx : Bool} {a x : E} {pa px : Expr} {apos pos : Pos} (hpb : plainBase pa = true) (hl : apos.endLine = pos.line) (ha : PE X pa (rdE G C Wx a)) (hx : PE X px (rdE G C Wx x)) (nx : noStar px = true) :
    PE X (.Call (.Attribute pa "split" apos) [px] [] pos) (rdE G C Wx (.mt .split1 bx a [x])) := by
  have hs : starEach [px] X.env = [(false, eval px X.env)] := star_cons nx
  refine PE.weak (pe_split ha hx hs (base_ok hpb) (by rw [hl]; simp)) fun σ H Q q => ?_
  obtain ⟨W, bd, base, ρ, st, r, en, q⟩ := rd_m1 q
  refine ⟨W, bd, base, ρ, st, r, en, q.mono ?_⟩
  rintro v H1 ⟨W1, bd1, base1, st1, e, r1, dv1, hty, q1⟩
  cases ee : vw st1 e with
  | str s =>
    cases mtTy_str (m := .split1) ee
    refine ⟨⟨_, dv1⟩, ?_⟩
    obtain ⟨W, bd, base, ρ, st, r, en, q⟩ := q1
    refine ⟨W, bd, base, ρ, st, r, en, q.mono ?_⟩
    rintro y H2 ⟨W2, bd2, base2, st2, yd, r2, dv2, dy, q2⟩
    cases yd with
    | str t => cases t with
      | nil => exact q2.elim
      | cons c t => cases t with
        | cons _ _ => exact q2.elim
        | nil =>
          have q3 : Ans (DV G) G bd2 base2 Wx σ W2 H2 st2 (if decide (c < 256) && decide (s.length + 2 ≤ SL) then mkL bx ((splL c s).map .str) st2 else .bad) Q := q2
          split at q3
          · rename_i hz
            obtain ⟨z1, z2⟩ := and2 hz
            have z1 := of_decide_eq_true z1
            refine ⟨⟨s.toArray⟩, ⟨[c].toArray⟩, dv2, by rw [show y = _ from dy], rfl, by rw [str_len, ← SL_eq]; exact of_decide_eq_true z2, ?_⟩
            rw [split_one z1]
            intro p hp
            have := (ans_lst r2 (dvs_strs (splL c s)) q3).2 p hp
            rw [List.map_map]
            exact this
          · exact q3.elim
    | _ => exact q2.elim
  | _ => rw [ee] at hty; cases hty
theorem s_join (o : Xok G T N C lv Wx sc X) {bx : Bool} {a x : E} {pa px : Expr} {apos pos : Pos} (hpb : plainBase pa = true) (hl : apos.endLine = pos.line) (ha : PE X pa (rdE G C Wx a)) (hx : PE X px (rdE G C Wx x)) (nx : noStar px = true) :
    PE X (.Call (.Attribute pa "join" apos) [px] [] pos) (rdE G C Wx (.mt .join bx a [x])) := by
  have hs : starEach [px] X.env = [(false, eval px X.env)] := star_cons nx
  refine PE.weak (pe_join ha hx hs (base_ok hpb) (by rw [hl]; simp)) fun σ H Q q => ?_
  obtain ⟨W, bd, base, ρ, st, r, en, q⟩ := rd_m1 q
  refine ⟨W, bd, base, ρ, st, r, en, q.mono ?_⟩
  rintro v H1 ⟨W1, bd1, base1, st1, e, r1, dv1, hty, q1⟩
  cases ee : vw st1 e with
  | str s =>
    cases mtTy_str (m := .join) ee
    refine ⟨⟨_, dv1⟩, ?_⟩
    obtain ⟨W, bd, base, ρ, st, r, en, q⟩ := q1
    refine ⟨W, bd, base, ρ, st, r, en, q.mono ?_⟩
    rintro y H2 ⟨W2, bd2, base2, st2, yd, r2, dv2, dy, q2⟩
    have q3 : Ans (DV G) G bd2 base2 Wx σ W2 H2 st2 (match vw st2 yd with
     | .lst ds => (opt (strsOf ds) st2).bind fun ss st => if (ss.map List.length).sum + ss.length * s.length ≤ SL then .ok (.str (joinL s ss)) st else .bad
     | _ => .bad) Q := q2
    cases ey : vw st2 yd with
    | lst ds =>
      rw [ey] at q3
      dsimp only at q3
      obtain ⟨ss, hss, q3⟩ := Ans.opt q3
      obtain ⟨p, xs, ep, h1, h2⟩ := vw_lst r2 dy ey
      split at q3
      · rename_i hz
        have exs := strsOf_ok h2 hss
        refine ⟨⟨s.toArray⟩, p, ss.map fun p => (⟨p.toArray⟩ : Str), dv2, by rw [ep], .inl ?_, ?_, ?_⟩
        · refine SqL.of ?_
          rw [h1, exs, List.map_map]; rfl
        · rw [List.map_map, List.length_map, str_len]
          have : ((fun x : Str => x.length) ∘ fun p : List Nat => (⟨p.toArray⟩ : Str)) = List.length := by
            funext p; exact str_len p
          rw [this]
          exact hz
        · rw [join_txt]
          exact Ans.here r2 q3 rfl
      · exact q3.elim
    | _ => rw [ey] at q3; exact q3.elim
  | _ => rw [ee] at hty; cases hty
theorem DVs.erase {ds : List D} {xs : List V} (h : DVs G W n H ds xs) (j : Nat) : DVs G W n H (ds.eraseIdx j) (xs.eraseIdx j) := by
  rw [List.eraseIdx_eq_take_drop_succ, List.eraseIdx_eq_take_drop_succ]
  exact DVs.app (h.take j) (h.drop (j + 1))
theorem seqIx {n : Nat} {i : Int} {j : Nat} (h : Rf.ixN n i = some j) : seqIndex? i n = some j ∧ j < n := by
  unfold Rf.ixN at h
  unfold seqIndex?
  split at h
  · split at h
    · rename_i h1 h2
      cases h
      constructor
      · simp only []
        first
          | (rw [if_neg (by omega), if_pos (by omega)])
          | (simp; omega)
          | (split <;> simp <;> omega)
      · omega
    · cases h
  · split at h
    · rename_i h1 h2
      cases h
      constructor
      · first
          | (rw [if_pos (by omega), if_pos (by omega)])
          | (simp; omega)
          | (split <;> simp <;> omega)
      · omega
    · cases h
theorem s_pop1 (o : Xok G T N C lv Wx sc X) {bx : Bool} {a x : E} {pa px : Expr} {apos pos : Pos} (hpb : plainBase pa = true) (hl : apos.endLine = pos.line) (ha : PE X pa (rdE G C Wx a)) (hx : PE X px (rdE G C Wx x)) (nx : noStar px = true) :
    PE X (.Call (.Attribute pa "pop" apos) [px] [] pos) (rdE G C Wx (.mt .pop1 bx a [x])) := by
  have hs : starEach [px] X.env = [(false, eval px X.env)] := star_cons nx
  refine PE.weak (pe_bm PySem.F.plainAttrs_list PySem.F.slot_list_pop PySem.F.type_list_pop mt_popAt ha (pa_cons hx pa_nil hs) (base_ok hpb) (by rw [hs]; rfl) (by rw [hl]; simp) hs rfl) fun σ H Q q => ?_
  obtain ⟨W, bd, base, ρ, st, r, en, q⟩ := rd_m1 q
  refine ⟨W, bd, base, ρ, st, r, en, q.mono ?_⟩
  rintro v H1 ⟨W1, bd1, base1, st1, e, r1, dv1, hty, q1⟩
  cases ee : vw st1 e with
  | lst ds =>
    obtain ⟨p, xs, rfl, h1, h2⟩ := vw_lst r1 dv1 ee
    refine ⟨.inl ⟨rfl, xs, SqL.of h1⟩, ?_⟩
    obtain ⟨W, bd, base, ρ, st, r, en, q⟩ := q1
    refine ⟨W, bd, base, ρ, st, r, en, q.mono ?_⟩
    rintro y H2 ⟨W2, bd2, base2, st2, yd, r2, dv2, dy, q2⟩
    cases e with
    | ref k => cases yd with
      | int i =>
        have q3 : Ans (DV G) G bd2 base2 Wx σ W2 H2 st2 (if decide (i < 2 ^ 40) && decide (-(2 ^ 40) < i) then (match st2[k]? with
          | some (.lst ds) => (match Rf.ixN ds.length i with
            | some j => (match ds[j]? with
              | some d => .ok d (st2.set k (.lst (ds.eraseIdx j)))
              | none => .bad)
            | none => .bad)
          | _ => .bad) else .bad) Q := q2
        split at q3
        rotate_left
        · exact q3.elim
        rename_i hbnd
        obtain ⟨hb1, hb2⟩ := and2 hbnd
        have hb1 := of_decide_eq_true hb1
        have hb2 := of_decide_eq_true hb2
        cases en' : st2[k]? with
        | none => rw [en'] at q3; exact q3.elim
        | some ob => cases ob with
          | lst es =>
            rw [en'] at q3
            dsimp only at q3
            cases ej : Rf.ixN es.length i with
            | none => rw [ej] at q3; exact q3.elim
            | some j =>
            rw [ej] at q3
            dsimp only at q3
            cases ed : es[j]? with
            | none => rw [ed] at q3; exact q3.elim
            | some d =>
            rw [ed] at q3
            dsimp only at q3
            obtain ⟨ep, hk⟩ := dv2
            obtain ⟨ys, g1, g2⟩ := r2.obj k _ en'
            obtain ⟨sx, sj⟩ := seqIx ej
            obtain ⟨w, hw, dw⟩ := g2.get ed
            have hi : -(2 ^ 63) ≤ i ∧ i < 2 ^ 63 := ⟨by omega, by omega⟩
            refine ⟨_, ys, i, j, w, ep, by rw [show y = V.int i from dy], g1, hi.1, hi.2, by rw [g2.len]; exact sx, hw, ?_⟩
            obtain ⟨ex, rs⟩ := write_ob r2 (live_of en' (by simp)) (.lst (ys.eraseIdx j)) (ob := .lst (es.eraseIdx j)) (by simp) fun H' ex hh =>
              ⟨ys.eraseIdx j, hh, DVs.erase (DVs.keep ex r2 (bdOf_le r2) (Nat.le_refl _) g2) j⟩
            exact q3 _ _ _ ⟨ex, rs⟩ (DV.keep ex r2 (bdOf_le r2) (by simpa using bdOf_le r2) dw)
          | _ => rw [en'] at q3; exact q3.elim
      | _ => exact q2.elim
    | _ => exact q2.elim
  | _ => rw [ee] at hty; cases hty
theorem s_pop0 (o : Xok G T N C lv Wx sc X) {bx : Bool} {a : E} {pa : Expr} {apos pos : Pos} (hpb : plainBase pa = true) (hl : apos.endLine = pos.line) (ha : PE X pa (rdE G C Wx a)) :
    PE X (.Call (.Attribute pa "pop" apos) [] [] pos) (rdE G C Wx (.mt .pop0 bx a [])) := by
  refine PE.weak (pe_bm0 PySem.F.plainAttrs_list PySem.F.slot_list_pop PySem.F.type_list_pop mt_pop ha (base_ok hpb) (by rw [hl]; simp)) fun σ H Q q => ?_
  obtain ⟨W, bd, base, ρ, st, r, en, q⟩ := rd_m0 q
  refine ⟨W, bd, base, ρ, st, r, en, q.mono ?_⟩
  rintro v H1 ⟨W1, bd1, base1, st1, e, r1, dv1, hty, q1⟩
  cases ee : vw st1 e with
  | lst ds =>
    obtain ⟨p, xs, rfl, h1, h2⟩ := vw_lst r1 dv1 ee
    refine ⟨.inl ⟨rfl, xs, SqL.of h1⟩, ?_⟩
    cases e with
    | ref k =>
      have q3 : Ans (DV G) G bd1 base1 Wx σ W1 H1 st1 (match st1[k]? with
        | some (.lst ds) => (match ds[ds.length - 1]? with
          | some d => .ok d (st1.set k (.lst ds.dropLast))
          | none => .bad)
        | _ => .bad) Q := q1
      cases en' : st1[k]? with
      | none => rw [en'] at q3; exact q3.elim
      | some ob => cases ob with
        | lst es =>
          rw [en'] at q3
          dsimp only at q3
          cases ed : es[es.length - 1]? with
          | none => rw [ed] at q3; exact q3.elim
          | some d =>
          rw [ed] at q3
          dsimp only at q3
          obtain ⟨ep, hk⟩ := dv1
          obtain ⟨ys, g1, g2⟩ := r1.obj k _ en'
          obtain ⟨w, hw, dw⟩ := g2.get ed
          refine ⟨_, ys, w, ep, rfl, g1, by rw [g2.len]; exact hw, ?_⟩
          obtain ⟨ex, rs⟩ := write_ob r1 (live_of en' (by simp)) (.lst ys.dropLast) (ob := .lst es.dropLast) (by simp) fun H' ex hh => by
            refine ⟨ys.dropLast, hh, ?_⟩
            rw [List.dropLast_eq_take, List.dropLast_eq_take, g2.len]
            exact (DVs.keep ex r1 (bdOf_le r1) (Nat.le_refl _) g2).take _
          exact q3 _ _ _ ⟨ex, rs⟩ (DV.keep ex r1 (bdOf_le r1) (by simpa using bdOf_le r1) dw)
        | _ => rw [en'] at q3; exact q3.elim
    | _ => exact q1.elim
  | _ => rw [ee] at hty; cases hty
theorem s_extend (o : Xok G T N C lv Wx sc X) {bx : Bool} {a x : E} {pa px : Expr} {apos pos : Pos} (hpb : plainBase pa = true) (hl : apos.endLine = pos.line) (ha : PE X pa (rdE G C Wx a)) (hx : PE X px (rdE G C Wx x)) (nx : noStar px = true) :
    PE X (.Call (.Attribute pa "extend" apos) [px] [] pos) (rdE G C Wx (.mt .extend bx a [x])) := by
  have hs : starEach [px] X.env = [(false, eval px X.env)] := star_cons nx
  refine PE.weak (pe_bm PySem.F.plainAttrs_list PySem.F.slot_list_extend PySem.F.type_list_extend mt_extend ha (pa_cons hx pa_nil hs) (base_ok hpb) (by rw [hs]; rfl) (by rw [hl]; simp) hs rfl) fun σ H Q q => ?_
  obtain ⟨W, bd, base, ρ, st, r, en, q⟩ := rd_m1 q
  refine ⟨W, bd, base, ρ, st, r, en, q.mono ?_⟩
  rintro v H1 ⟨W1, bd1, base1, st1, e, r1, dv1, hty, q1⟩
  cases ee : vw st1 e with
  | lst ds =>
    obtain ⟨p, xs, rfl, h1, h2⟩ := vw_lst r1 dv1 ee
    refine ⟨.inl ⟨rfl, xs, SqL.of h1⟩, ?_⟩
    obtain ⟨W, bd, base, ρ, st, r, en, q⟩ := q1
    refine ⟨W, bd, base, ρ, st, r, en, q.mono ?_⟩
    rintro y H2 ⟨W2, bd2, base2, st2, yd, r2, dv2, dy, q2⟩
    cases e with
    | ref k =>
      have q3 : Ans (DV G) G bd2 base2 Wx σ W2 H2 st2 (match st2[k]? with
        | some (.lst ds) => (match vw st2 yd with
          | .lst es => if (decide (base2 ≤ k) || plains es) && decide (ds.length + es.length ≤ SL) then .ok .non (st2.set k (.lst (ds ++ es))) else .bad
          | _ => .bad)
        | _ => .bad) Q := q2
      cases en' : st2[k]? with
      | none => rw [en'] at q3; exact q3.elim
      | some ob => cases ob with
        | lst fs =>
          rw [en'] at q3
          dsimp only at q3
          cases ey : vw st2 yd with
          | lst es =>
            rw [ey] at q3
            dsimp only at q3
            obtain ⟨b, zs, rfl, k1, k2⟩ := vw_lst r2 dy ey
            split at q3
            · rename_i hw
              obtain ⟨w1, w2⟩ := and2 hw
              obtain ⟨ep, hk⟩ := dv2
              obtain ⟨ys, g1, g2⟩ := r2.obj k _ en'
              refine ⟨_, b, ys, zs, ep, rfl, g1, k1, by rw [g2.len, k2.len, ← SL_eq]; exact of_decide_eq_true w2, ?_⟩
              obtain ⟨ex, rs⟩ := write_ob r2 (live_of en' (by simp)) (.lst (ys ++ zs)) (ob := .lst (fs ++ es)) (by simp) fun H' ex hh => by
                refine ⟨ys ++ zs, hh, DVs.app (DVs.keep ex r2 (bdOf_le r2) (Nat.le_refl _) g2) ?_⟩
                rcases Bool.or_eq_true_iff.mp w1 with w1 | w1
                · have : bdOf bd2 base2 st2.length k = st2.length := if_neg (by have := of_decide_eq_true w1; omega)
                  rw [this]
                  exact DVs.keep ex r2 (Nat.le_refl _) (Nat.le_refl _) k2
                · exact DVs.plain w1 (DVs.keep ex r2 (Nat.le_refl _) (Nat.le_refl _) k2)
              exact q3 _ _ _ ⟨ex, rs⟩ rfl
            · exact q3.elim
          | _ => rw [ey] at q3; exact q3.elim
        | _ => rw [en'] at q3; exact q3.elim
    | _ => exact q2.elim
  | _ => rw [ee] at hty; cases hty
/-! ### a field of an exception that is handled -/
theorem pe_xfG {X : Cx} {a C : Addr} {oe : Obj} {dd : Addr} {i : Nat} {x : Str} {pos p0 : Pos} {f : Str} {fs : List (Str × V)} {v : V} {pins : List (Addr × Obj)} {s : Shared} {σ : L2.St} {H : Hp} {Q : VK} (T : XfC X.K C) (hno : PySem.W.findIn X.K (.ref C) f = some none)
    (hz : Zc (.ref C) (some dd) oe) (hf : ∃ vs, oe.data = .fields vs) (hp : (a, oe) ∈ X.pn) (he : PE X (.Name x p0) (fun σ H Q => ∃ v, σ[i]? = some (some v) ∧ Q v H)) (I : Inv X pins σ H s) (hs : σ[i]? = some (some (.ref a))) (ea : H dd = some (.xd fs)) (l : fs.lookup f = some v) (q : Q v H) :
    wpAny (model X.prog X.w) X.A (eval (.Attribute (.Name x p0) f pos) X.env) (EP X pins σ Q) X.xe s := by
  refine attr_of rfl (thn (he.run pins s σ H (fun u H1 => u = .ref a ∧ H1 = H) I ⟨.ref a, hs, rfl, rfl⟩) fun u s1 hh => ?_)
  obtain ⟨y, H1, I1, rx, ex, eH⟩ := hh
  subst ex
  rw [eH] at I1
  obtain rfl : u = Value.ref a := rx
  obtain ⟨ha, _⟩ := I1.pin (a, oe) (List.mem_append_left _ hp)
  obtain ⟨vs, hd⟩ := hf
  have hx : ObjOk X.prog X.w H s1.heap dd (.xd fs) := I1.hok dd _ ea
  obtain ⟨mA, hns, hr⟩ := hx
  obtain ⟨od, ho, hl⟩ := lookIn_ns hns
  obtain ⟨u, hu, ru⟩ := RelO.some_of (v := v) (o := mA f) (by rw [← l]; exact hr f)
  have J : PySem.W.InstAt s1.heap a oe C (some od) := ⟨ha, hz.1, by unfold PySem.W.notCls; rw [hd] <;> rfl, by rw [hz.2]; exact ho⟩
  exact HandSPX.exc_get I1.kIn J T.ga T.gg T.exC (PySem.W.findObj_own T.hdC hno rfl (by rw [hl, hu])) (handed_of ru) ⟨v, H, I1.tok _, ru, q⟩
theorem lookup_zip {fl : List Str} {vs : List V} (hn : fl.Nodup) (hl : vs.length = fl.length) : ∀ {k : Nat} {f : Str} {v : V}, fl[k]? = some f → vs[k]? = some v → ((fl.zip vs).reverse).lookup f = some v := by
  have key : ∀ {l : List (Str × V)} {f : Str} {v : V}, (l.map (·.1)).Nodup → (f, v) ∈ l → l.lookup f = some v := by
    intro l
    induction l with
    | nil => intro f v _ h; cases h
    | cons p l ih =>
      intro f v hn h
      rw [List.map_cons, List.nodup_cons] at hn
      rcases List.mem_cons.mp h with rfl | h
      · simp [List.lookup]
      · have : (f == p.1) = false := by
          have : f ≠ p.1 := fun z => hn.1 (by rw [← z]; exact List.mem_map.mpr ⟨_, h, rfl⟩)
          simpa using this
        rw [List.lookup_cons, this]
        exact ih hn.2 h
  intro k f v h1 h2
  refine key ?_ ?_
  · rw [List.map_reverse]
    refine (List.reverse_perm _).nodup_iff.mpr ?_
    rw [List.map_fst_zip (by omega)]
    exact hn
  · rw [List.mem_reverse]
    refine List.mem_of_getElem? (i := k) ?_
    rw [List.getElem?_zip_eq_some]
    exact ⟨h1, h2⟩
end
end Rf

/-! Own exceptions in the evaluator: made, asked for their class, their fields. -/
namespace Rf
open PySem PySem.Spec PyProof.Rows L2
section
variable {G : Gx} {T : Tx} {N : List Str} {C : Call} {lv : Nat} {Wx : WX} {sc : Scope} {X : Cx} {σ : L2.St} {H : Hp}
theorem lookup_mem {tbl : List (Nat × Nat)} {c k : Nat} (el : tbl.lookup c = some k) : (c, k) ∈ tbl := by
  induction tbl with
  | nil => cases el
  | cons p tbl ih =>
    rw [List.lookup_cons] at el
    split at el
    · rename_i z
      have : c = p.1 := by simpa using z
      injection el with el
      rw [this, ← el]
      exact List.mem_cons_self
    · exact List.mem_cons_of_mem _ (ih el)
theorem s_xf (o : Xok G T N C lv Wx sc X) {i : Nat} {x f : Str} {tbl : List (Nat × Nat)} {p0 pos : Pos} (h : varB N sc i x = true) (ht : (tbl.all fun p => match T.cls p.1 with | some q => decide (q.2[p.2]? = some f) && decide (q.2.Nodup) | none => false) = true) :
    PE X (.Attribute (.Name x p0) f pos) (rdE G C Wx (.xf i tbl)) := by
  obtain ⟨h1, h2, h3, h4⟩ := varB_ok o h
  have facts : ∀ {c k : Nat}, tbl.lookup c = some k → ∃ nm fl, ClsOk G c nm ∧ G.cf c = fl ∧ fl[k]? = some f ∧ fl.Nodup := fun {c k} el => by
    have hb := List.all_eq_true.mp ht _ (lookup_mem el)
    dsimp only at hb
    cases et : T.cls c with
    | none => rw [et] at hb; cases hb
    | some nf =>
      rw [et] at hb
      obtain ⟨hb1, hb2⟩ := and2 hb
      obtain ⟨nm, fl⟩ := nf
      have hb1 : fl[k]? = some f := of_decide_eq_true hb1
      obtain ⟨cf, ⟨_, ck⟩ | ⟨e0, _⟩⟩ := o.g.cl c nm fl et
      · exact ⟨nm, fl, ck, cf, hb1, of_decide_eq_true hb2⟩
      · rw [e0] at hb1; cases hb1
  refine ⟨fun pins s σ H Q I q => ?_⟩
  obtain ⟨W, bd, base, ρ, st, r, en, q⟩ := q
  have q' : Ans (DV G) G bd base Wx σ W H st (match ρ[i]? with
    | some (some (.exc c ds)) => opt ((tbl.lookup c).bind fun k => ds[k]?) st
    | some (some (.exv c ds)) => opt ((tbl.lookup c).bind fun k => ds[k]?) st
    | _ => .bad) Q := q
  cases er : ρ[i]? with
  | none => rw [er] at q'; exact q'.elim
  | some od => cases od with
    | none => rw [er] at q'; exact q'.elim
    | some d => cases d with
      | exc c ds =>
        rw [er] at q'
        dsimp only at q'
        obtain ⟨d, hd, q2⟩ := opt_end q'
        obtain ⟨v, hv, z⟩ := en.2 i _ er
        obtain ⟨p, hp, ev, ec, vs, e3, e6⟩ := z
        cases el : tbl.lookup c with
        | none => rw [el] at hd; cases hd
        | some k =>
        rw [el] at hd
        have hd : ds[k]? = some d := hd
        obtain ⟨nm, fl, ck, cf, hb1, hb2⟩ := facts el
        obtain ⟨w, hw, dw⟩ := e6.get hd
        rcases e3 with ⟨z, _⟩ | ⟨dx, g1, g2, g3, g4⟩
        · exact absurd z ck.ne
        rw [cf] at g2 g4
        obtain ⟨pp1, pp2, pp3⟩ := o.pn p hp
        rw [ec, g1] at pp2
        subst ev
        refine pe_xfG (a := p.1.1) (oe := p.1.2) (dd := dx) (C := G.ca c) (i := i) (by rw [o.K]; exact ck.xf) (by rw [o.K]; refine ck.no f ?_; rw [cf]; exact List.mem_of_getElem? hb1) pp2 pp3 pp1 (pe_var h1 h2 h3 h4) I hv g2 (lookup_zip hb2 g4 hb1 hw) ?_
        exact Ans.here r q2 (DV.more r (Nat.zero_le _) (Nat.zero_le _) dw)
      | exv c ds =>
        rw [er] at q'
        dsimp only at q'
        obtain ⟨d, hd, q2⟩ := opt_end q'
        obtain ⟨v, hv, z⟩ := en.2 i _ er
        obtain ⟨vs, ⟨a, ev, fa, e3⟩, e6⟩ := z
        cases el : tbl.lookup c with
        | none => rw [el] at hd; cases hd
        | some k =>
        rw [el] at hd
        have hd : ds[k]? = some d := hd
        obtain ⟨nm, fl, ck, cf, hb1, hb2⟩ := facts el
        obtain ⟨w, hw, dw⟩ := e6.get hd
        rcases e3 with ⟨z, _⟩ | ⟨dx, g1, g2, g3, g4⟩
        · exact absurd z ck.ne
        rw [cf] at g3 g4
        subst ev
        refine (pe_xfT (X := X) (n := f) (pos := pos) (pe_var (pos := p0) h1 h2 h3 h4) rfl).run pins s σ H Q I ⟨.ref a, hv, a, G.ca c, dx, _, w, rfl, by rw [o.K]; exact ck.xf, by rw [o.K]; refine ck.no f ?_; rw [cf]; exact List.mem_of_getElem? hb1, g2, g3, lookup_zip hb2 g4 hb1 hw, ?_⟩
        exact Ans.here r q2 dw
      | _ => rw [er] at q'; exact q'.elim
theorem kitB_ok {h : Nat} {cs ns : List Nat} (g : Gok G T) (e : kitB T h cs ns = true) : (∀ c ∈ cs, ExcC G.K (G.ca c) ∧ PySem.W.kitOne G.K (.ref (G.ca c)) (.ref (G.ca h)) = some true) ∧ ∀ c ∈ ns, ExcC G.K (G.ca c) ∧ PySem.W.kitOne G.K (.ref (G.ca c)) (.ref (G.ca h)) = some false := by
  obtain ⟨e1, e2⟩ := and2 e
  constructor
  · intro c hc
    obtain ⟨p, hp, e⟩ := List.any_eq_true.mp (List.all_eq_true.mp e1 c hc)
    have := g.kt p hp
    rw [of_decide_eq_true e] at this
    exact this
  · intro c hc
    obtain ⟨p, hp, e⟩ := List.any_eq_true.mp (List.all_eq_true.mp e2 c hc)
    have := g.kt p hp
    rw [of_decide_eq_true e] at this
    exact this
theorem pe_glo (o : Xok G T N C lv Wx sc X) {z : Str} {h : Nat} {p : Pos} (h1 : glB sc z = true) (h2 : T.cnm h = some z) : PE X (.Name z p) (fun _ H Q => Q (.ref (G.ca h)) H) := by
  obtain ⟨g, hd⟩ := glB_ok o h1
  exact ⟨fun pins s σ H Q I q => ld_glob I g (by rw [o.mg]; exact o.g.cn _ _ h2) ⟨.ref (G.ca h), H, I, rfl, q⟩ hd⟩
theorem s_isx (o : Xok G T N C lv Wx sc X) {i h : Nat} {cs ns : List Nat} {x y z : Str} {p0 p1 p2 pos : Pos} (h1 : glB sc x = true) (h2 : x = ("isinstance" : Str)) (hv : varB N sc i y = true) (h3 : glB sc z = true) (h4 : T.cnm h = some z) (hk : kitB T h cs ns = true) :
    PE X (.Call (.Name x p0) [.Name y p1, .Name z p2] [] pos) (rdE G C Wx (.isx i h cs ns)) := by
  obtain ⟨g, hd⟩ := glB_ok o h1
  obtain ⟨v1, v2, v3, v4⟩ := varB_ok o hv
  have hm : X.mg x = none := by rw [o.mg, h2]; exact o.g.bi _ (by decide)
  subst h2
  obtain ⟨k1, k2⟩ := kitB_ok o.g hk
  have bit : ∀ {c : Nat} {d : Rf.D}, isxB c cs ns = some d → ∃ b : Bool, d = .bl b ∧ ExcC G.K (G.ca c) ∧ PySem.W.kitOne G.K (.ref (G.ca c)) (.ref (G.ca h)) = some b := fun {c d} e => by
    unfold isxB at e
    split at e
    · rename_i hc; cases e; exact ⟨true, rfl, k1 c hc⟩
    · split at e
      · rename_i hc; cases e; exact ⟨false, rfl, k2 c hc⟩
      · cases e
  have ha : PA X [.Name y p1, .Name z p2] (tCons (tVar i) (tCons (fun _ H Q => Q (.ref (G.ca h)) H) tNil)) := pa_cons (pe_var v1 v2 v3 v4) (pa_cons (pe_glo o h3 h4) pa_nil (star_cons rfl)) (star_cons rfl)
  refine ⟨fun pins s σ H Q I q => ?_⟩
  obtain ⟨W, bd, base, ρ, st, r, en, q⟩ := q
  have q' : Ans (DV G) G bd base Wx σ W H st (match ρ[i]? with
    | some (some (.exc c _)) => opt (isxB c cs ns) st
    | some (some (.exv c _)) => opt (isxB c cs ns) st
    | _ => .bad) Q := q
  cases er : ρ[i]? with
  | none => rw [er] at q'; exact q'.elim
  | some od => cases od with
    | none => rw [er] at q'; exact q'.elim
    | some d => cases d with
      | exc c ds =>
        rw [er] at q'
        dsimp only at q'
        obtain ⟨d, hd2, q2⟩ := opt_end q'
        obtain ⟨v, hv, p, hp, ev, ec, vs, e3, e6⟩ := en.2 i _ er
        obtain ⟨b, rfl, ex, ek⟩ := bit hd2
        obtain ⟨pp1, pp2, pp3⟩ := o.pn p hp
        rw [ec] at pp2
        subst ev
        rw [← o.K] at ex ek
        refine (pe_callB (call_seen ex) g hm (by decide +kernel) ha (by decide) hd (star_cons rfl) rfl).run pins s σ H Q I ⟨.ref p.1.1, hv, p.1.1, .ref (G.ca h), .ref (G.ca h), b, p.2.2, rfl, fun u z => z, ek, fun pins σ s J => seen_pin (oe := p.1.2) J pp1 pp2 pp3 fun dx z => ?_, Ans.here r q2 rfl⟩
        rcases e3 with ⟨_, _, e4⟩ | ⟨dy, e4, e5, _⟩
        · rw [e4] at z; cases z
        · rw [e4] at z; cases z; exact ⟨_, e5⟩
      | exv c ds =>
        rw [er] at q'
        dsimp only at q'
        obtain ⟨d, hd2, q2⟩ := opt_end q'
        obtain ⟨v, hv, vs, ⟨a, ev, fa, e3⟩, e6⟩ := en.2 i _ er
        obtain ⟨b, rfl, ex, ek⟩ := bit hd2
        subst ev
        rw [← o.K] at ex ek
        rcases e3 with ⟨_, _, e4⟩ | ⟨dx, _, e4, e5, _⟩
        · exact (pe_callB (call_seen ex) g hm (by decide +kernel) ha (by decide) hd (star_cons rfl) rfl).run pins s σ H Q I ⟨.ref a, hv, a, .ref (G.ca h), .ref (G.ca h), b, none, rfl, fun u z => z, ek, fun pins σ s J => seen_exo J e4 fun _ z => (by cases z), Ans.here r q2 rfl⟩
        · exact (pe_callB (call_seen ex) g hm (by decide +kernel) ha (by decide) hd (star_cons rfl) rfl).run pins s σ H Q I ⟨.ref a, hv, a, .ref (G.ca h), .ref (G.ca h), b, some dx, rfl, fun u z => z, ek, fun pins σ s J => seen_exo J e4 fun _ z => (by cases z; exact ⟨_, e5⟩), Ans.here r q2 rfl⟩
      | _ => rw [er] at q'; exact q'.elim
/-! ### made -/
theorem made_ok {bd : Nat → Nat} {base : Nat} {W : Wd} {st : Sto} {c : Nat} {ds : List Rf.D} {vs : List V} {H1 : Hp} {a dx : Addr} {Q : VK} (r : RS G bd base W H1 st) (ha : H1 a = none) (hda : dx ≠ a) (hdx : H1 dx = none) (hl : vs.length = (G.cf c).length) (dv : DVs G W st.length H1 ds vs)
    (q : Ans (DV G) G bd base Wx σ W H1 st (.ok (.exv c ds) st) Q) : Q (.ref a) (upd (upd H1 dx (exd dx ((G.cf c).zip vs).reverse)) a (exo a (G.ca c) (some dx))) := by
  obtain ⟨e1, r1⟩ := alloc_frz r hdx (exd dx ((G.cf c).zip vs).reverse)
  have ha1 : upd H1 dx (exd dx ((G.cf c).zip vs).reverse) a = none := by rw [upd_ne (Ne.symm hda)]; exact ha
  obtain ⟨e2, r2⟩ := alloc_frz r1 ha1 (exo a (G.ca c) (some dx))
  refine q _ _ _ ((⟨e1, r1⟩ : Post G bd base W H1 st _ _ st).trans ⟨e2, r2⟩) ⟨vs, ⟨a, rfl, .inr rfl, .inr ⟨dx, .inl (.inr rfl), upd_same, ?_, hl⟩⟩, ?_⟩
  · rw [upd_ne hda, upd_same]
  · exact DVs.keep e2 r1 (Nat.le_refl _) (Nat.le_refl _) (DVs.keep e1 r (Nat.le_refl _) (Nat.le_refl _) dv)
theorem mk_heap {H1 : Hp} {a C dx : Addr} {fs : List (Str × V)} : initH (upd H1 a (exo a C none)) a C dx fs = upd (upd H1 dx (exd dx fs)) a (exo a C (some dx)) := by
  funext b
  unfold initH
  by_cases h1 : b = a
  · subst h1; rw [upd_same, upd_same]
  · rw [upd_ne h1, upd_ne h1]
    by_cases h2 : b = dx
    · subst h2; rw [upd_same, upd_same]
    · rw [upd_ne h2, upd_ne h2, upd_ne h1]
/-- what the making asks, out of the evaluator's answer -/
theorem mkv_ok (o : Xok G T N C lv Wx sc X) {c : Nat} {x : Str} {fl : List Str} {es : List E} {Q : VK} (ck : ClsOk G c x) (cf : G.cf c = fl) (hl : es.length = fl.length)
    (q : rdE G C Wx (.mkx c es) σ H Q) : tMkV (G.ca c) (spInit G.K (G.ca c) (G.cf c)) (rdEs G C Wx es) σ H Q := by
  obtain ⟨W, bd, base, ρ, st, r, en, q⟩ := q
  have q' : Ans (DV G) G bd base Wx σ W H st ((evEs C base es ρ st).bind fun ds st => if plains ds then .ok (.exv c ds) st else .bad) Q := q
  refine ⟨W, bd, base, ρ, st, r, en, (Ans.bind (rel := DVs G) q').mono ?_⟩
  rintro vs H1 ⟨ds, st1, W1, e1, p1, dv, q2⟩
  have hlen : vs.length = (G.cf c).length := by rw [dv.len, evEs_len e1, hl, cf]
  split at q2
  · refine ⟨by rw [hlen]; have := ck.le; omega, fun a ha => ⟨a, vs, rfl, hlen, ck.ne, ck.le, ck.T, ck.no, upd_same, fun dx hn hda => ⟨rfl, ?_⟩⟩⟩
    have hn' : H1 dx = none := by rw [upd_ne hda] at hn; exact hn
    rw [mk_heap]
    exact made_ok p1.rs ha hda hn' hlen dv q2
  · exact q2.elim
theorem s_mkx (o : Xok G T N C lv Wx sc X) (hh : T.hot = false) {c : Nat} {x : Str} {fl : List Str} {es : List E} {p : Expr} {ps : List Expr} {p0 pos : Pos} (h1 : glB sc x = true) (h2 : T.cls c = some (x, fl)) (hl : es.length = fl.length) (hne : es ≠ [])
    (h : PA X (p :: ps) (rdEs G C Wx es)) (ns : ∀ q ∈ p :: ps, noStar q = true) : PE X (.Call (.Name x p0) (p :: ps) [] pos) (rdE G C Wx (.mkx c es)) := by
  obtain ⟨g, hd⟩ := glB_ok o h1
  obtain ⟨cf, ⟨_, k⟩ | ⟨e0, _⟩⟩ := o.g.cl c x fl h2
  rotate_left
  · rw [e0] at hl; exact absurd (List.eq_nil_of_length_eq_zero hl) hne
  obtain ⟨fI, fd, qs, i1, i2, i3, i4, i5, F⟩ := k.ini
  have T0 := k.T
  rw [← o.prog, ← o.w, ← o.K, ← o.mg, ← o.base] at F
  rw [← o.K] at i1 i2 i3 T0
  refine PE.weak (pe_oex (p := p0) (pos := pos) T0 i1 i2 F ((o.room hh).mono (by have := o.l2; omega)) i3 (L2N.passes_call o.tk fun _ _ _ _ z => z.elim) g (by rw [o.mg]; exact k.mg) h hd (star_cons (ns p List.mem_cons_self)) (star_any fun q hq => ns q (List.mem_cons_of_mem _ hq))) fun σ H Q q => ?_
  rw [o.K]
  exact mkv_ok o k cf hl q
theorem s_mkxk (o : Xok G T N C lv Wx sc X) (hh : T.hot = false) {c : Nat} {x : Str} {fl : List Str} {es : List E} {kws : List Keyword} {p0 pos : Pos} (h1 : glB sc x = true) (h2 : T.cls c = some (x, fl)) (hl : es.length = fl.length) (hne : fl ≠ []) (hn : kws.map (·.arg) = fl.map some)
    (hk2 : PK X kws (rdEs G C Wx es)) : PE X (.Call (.Name x p0) [] kws pos) (rdE G C Wx (.mkxk c es)) := by
  obtain ⟨g, hd⟩ := glB_ok o h1
  obtain ⟨cf, ⟨_, k⟩ | ⟨e0, _⟩⟩ := o.g.cl c x fl h2
  rotate_left
  · exact absurd e0 hne
  obtain ⟨fI, fd, qs, i1, i2, i3, i4, i5, F⟩ := k.ini
  have T0 := k.T
  obtain ⟨f1, f2, f3⟩ := kw_facts (pos := pos) (env := X.env) hn
  rw [← o.prog, ← o.w, ← o.K, ← o.mg, ← o.base] at F
  rw [← o.K] at i1 i2 i3 i4 T0
  refine PE.weak (pe_oexk (p := p0) (pos := pos) T0 i1 i2 F ((o.room hh).mono (by have := o.l2; omega)) (by rw [← cf]; exact i4) (by rw [← cf]; exact i5) (L2N.passes_call o.tk fun _ _ _ _ z => z.elim) g (by rw [o.mg]; exact k.mg) hd hk2 f1 f2 f3) fun σ H Q q => ?_
  rw [o.K]
  exact mkv_ok o k cf hl q
theorem s_mkx0 (o : Xok G T N C lv Wx sc X) {c : Nat} {x : Str} {p0 pos : Pos} (h1 : glB sc x = true) (h2 : T.cls c = some (x, [])) : PE X (.Call (.Name x p0) [] [] pos) (rdE G C Wx (.mkx c [])) := by
  obtain ⟨g, hd⟩ := glB_ok o h1
  obtain ⟨cf, ⟨e0, _⟩ | ⟨_, k⟩⟩ := o.g.cl c x [] h2
  · exact absurd rfl e0
  have Z := k.Z
  rw [← o.K] at Z
  refine PE.weak (pe_oex0 Z g (by rw [o.mg]; exact k.mg) hd) fun σ H Q q => ?_
  obtain ⟨W, bd, base, ρ, st, r, en, q⟩ := q
  have q' : Ans (DV G) G bd base Wx σ W H st (.ok (.exv c []) st) Q := q
  intro a ha
  obtain ⟨e1, r1⟩ := alloc_frz r ha (exo a (G.ca c) none)
  exact q' _ _ _ ⟨e1, r1⟩ ⟨[], ⟨a, rfl, .inr rfl, .inl ⟨cf, rfl, upd_same⟩⟩, rfl⟩
end
end Rf

namespace Rf
open PySem PySem.Spec PyProof.Rows L2
section
variable {G : Gx} {T : Tx} {N : List Str} {C : Call} {lv : Nat} {Wx : WX} {sc : Scope} {X : Cx} {σ : L2.St} {H H' : Hp} {W W' W0 : Wd} {n : Nat} {bd : Nat → Nat} {base : Nat} {st st' st0 : Sto} {H0 : Hp}
mutual
/-- data stays where what it leans on stays -/
theorem DV.chg (hF : ∀ a u, W.F a → H a = some u → H' a = some u) (hT : ∀ a xs, H a = some (.tup xs) → H' a = some (.tup xs)) (hZ : ∀ a o xs, H a = some (.frz o (.tup xs)) → H' a = some (.frz o (.tup xs))) : ∀ {d : D} {v : V}, DV G W n H d v → DV G W n H' d v
  | .non, _, h => h
  | .bl _, _, h => h
  | .int _, _, h => h
  | .str _, _, h => h
  | .tup ds, v, h => by
    obtain ⟨a, xs, e1, hs, hd⟩ := h
    refine ⟨a, xs, e1, ?_, DVs.chg hF hT hZ hd⟩
    rcases hs with (hs | ⟨o, hs⟩) | hs
    · exact .inl (.inl (hT _ _ hs))
    · exact .inl (.inr ⟨o, hZ _ _ _ hs⟩)
    · exact .inr hs
  | .lst ds, v, h => by
    obtain ⟨a, xs, e1, f, hH, hd⟩ := h
    exact ⟨a, xs, e1, f, hF _ _ f hH, DVs.chg hF hT hZ hd⟩
  | .frz ds, v, h => by
    obtain ⟨a, xs, e1, hs, hd⟩ := h
    refine ⟨a, xs, e1, ?_, DVs.chg hF hT hZ hd⟩
    rcases hs with ⟨hs | ⟨o, hs⟩, q⟩ | hs
    · exact .inl ⟨.inl (hF _ _ q hs), q⟩
    · exact .inl ⟨.inr ⟨o, hF _ _ q hs⟩, q⟩
    · exact .inr hs
  | .dct ks vs, v, h => by
    obtain ⟨a, kvs, e1, f, hR, hk, hd⟩ := h
    refine ⟨a, kvs, e1, f, ?_, hk, DVs.chg hF hT hZ hd⟩
    rcases hR with hR | ⟨o, hR⟩
    · exact .inl (hF _ _ f hR)
    · exact .inr ⟨o, hF _ _ f hR⟩
  | .ref k, v, h => h
  | .fn f, v, h => h
  | .met k f, v, h => by
    obtain ⟨p, e1, hH, hk, f⟩ := h
    exact ⟨p, e1, hF _ _ f hH, hk, f⟩
  | .exc _ _, _, h => h.elim
  | .exv c ds, v, h => by
    obtain ⟨vs, h1, h2⟩ := h
    exact ⟨vs, h1.map (fun _ f => f) fun a o f _ e => hF a o f e, DVs.chg hF hT hZ h2⟩
theorem DVs.chg (hF : ∀ a u, W.F a → H a = some u → H' a = some u) (hT : ∀ a xs, H a = some (.tup xs) → H' a = some (.tup xs)) (hZ : ∀ a o xs, H a = some (.frz o (.tup xs)) → H' a = some (.frz o (.tup xs))) : ∀ {ds : List D} {xs : List V}, DVs G W n H ds xs → DVs G W n H' ds xs
  | [], _, h => h
  | d :: ds, xs, h => by
    obtain ⟨y, ys, e1, h1, h2⟩ := h
    exact ⟨y, ys, e1, DV.chg hF hT hZ h1, DVs.chg hF hT hZ h2⟩
end
/-- a list at D that nobody knows but we -/
structure Own (G : Gx) (W : Wd) (H : Hp) (st : Sto) (D : Addr) (xs : List V) : Prop where
  at_ : H D = some (.lst xs)
  nl : ∀ k, live st k → W.m k ≠ D
  nF : ¬ W.F D
theorem Own.post {D : Addr} {xs : List V} (w : Own G W H st D xs) (p : Post G bd base W H st W' H' st') : Own G W' H' st' D xs := by
  refine ⟨p.ext.fr _ _ w.at_ w.nl, fun k hk z => ?_, fun z => ?_⟩
  rotate_left
  · rcases p.ext.nF D z with q | q | ⟨k, hk, q⟩
    · exact w.nF q
    · rw [w.at_] at q; cases q
    · exact w.nl k hk q
  by_cases q : k < st.length
  · exact w.nl k (p.ext.dd k q hk) (by rw [← p.ext.m k q]; exact z)
  · have := p.ext.nw k (by omega) hk
    rw [z, w.at_] at this; cases this
theorem Own.chg {D : Addr} {xs : List V} {ho : HO} (w : Own G W H st D xs) {d : Rf.D} {v : V} (h : DV G W n H d v) : DV G W n (upd H D ho) d v := by
  refine DV.chg (fun a u f e => ?_) (fun a ys e => ?_) (fun a o ys e => ?_) h
  · rw [upd_ne (fun z : a = D => w.nF (by rw [← z]; exact f))]; exact e
  · rw [upd_ne fun z => by rw [z, w.at_] at e; cases e]; exact e
  · rw [upd_ne fun z => by rw [z, w.at_] at e; cases e]; exact e
theorem Own.chgs {D : Addr} {xs : List V} {ho : HO} (w : Own G W H st D xs) {d : List Rf.D} {v : List V} (h : DVs G W n H d v) : DVs G W n (upd H D ho) d v := by
  refine DVs.chg (fun a u f e => ?_) (fun a ys e => ?_) (fun a o ys e => ?_) h
  · rw [upd_ne (fun z : a = D => w.nF (by rw [← z]; exact f))]; exact e
  · rw [upd_ne fun z => by rw [z, w.at_] at e; cases e]; exact e
  · rw [upd_ne fun z => by rw [z, w.at_] at e; cases e]; exact e
theorem Own.en {D : Addr} {xs : List V} {ho : HO} (w : Own G W H st D xs) {ρ : En} (en : EnR G W n H ρ σ) : EnR G W n (upd H D ho) ρ σ :=
  EnR.map (fun h => w.chg h) (fun h => w.chgs h) (fun _ h => h) (fun a fs f e => by rw [upd_ne (fun z => w.nF (by rw [← z]; exact f))]; exact e) en
theorem obR.chg {k : Nat} {ob : Ob} (hF : ∀ a u, W.F a → H a = some u → H' a = some u) (hT : ∀ a xs, H a = some (.tup xs) → H' a = some (.tup xs)) (hZ : ∀ a o xs, H a = some (.frz o (.tup xs)) → H' a = some (.frz o (.tup xs))) (hk : ob ≠ .dead → H' (W.m k) = H (W.m k)) (h : obR G W H n k ob) : obR G W H' n k ob := by
  cases ob with
  | lst ds =>
    obtain ⟨xs, h1, h2⟩ := h
    exact ⟨xs, (hk (by simp)).trans h1, DVs.chg hF hT hZ h2⟩
  | dct ks vs =>
    obtain ⟨xs, h1, h2, h3⟩ := h
    exact ⟨xs, (hk (by simp)).trans h1, h2, DVs.chg hF hT hZ h3⟩
  | ins c fs =>
    obtain ⟨dx, gs, h1, h2, h3⟩ := h
    exact ⟨dx, gs, (hk (by simp)).trans h1, h2, DVs.chg hF hT hZ h3⟩
  | dead => trivial
/-- our list is written: seen from ahead of it, nothing has changed -/
theorem Own.write {D : Addr} {xs ys : List V} (p : Post G bd base W0 H0 st0 W H st) (h0 : H0 D = none) (w : Own G W H st D xs) : Post G bd base W0 H0 st0 W (upd H D (.lst ys)) st ∧ Own G W (upd H D (.lst ys)) st D ys := by
  refine ⟨⟨⟨fun a o h hk => ?_, p.ext.F, p.ext.m, p.ext.dd, p.ext.nw, fun a h => ?_, p.ext.len, p.ext.nF⟩, ?_⟩, ⟨upd_same, w.nl, w.nF⟩⟩
  · rw [upd_ne (ne_of_none h h0)]; exact p.ext.fr a o h hk
  · by_cases q : a = D
    · rw [q, upd_same]; simp
    · rw [upd_ne q]; exact p.ext.tr a h
  · refine ⟨fun k ob e => ?_, p.rs.inj, p.rs.fF, fun a h => ?_, p.rs.bdl, p.rs.bl⟩
    · refine obR.chg (fun a u f e => ?_) (fun a ys e => ?_) (fun a o ys e => ?_) (fun nd => ?_) (p.rs.obj k ob e)
      · rw [upd_ne (fun z : a = D => w.nF (by rw [← z]; exact f))]; exact e
      · rw [upd_ne fun z => by rw [z, w.at_] at e; cases e]; exact e
      · rw [upd_ne fun z => by rw [z, w.at_] at e; cases e]; exact e
      · exact upd_ne (w.nl k (live_of e nd))
    · obtain ⟨u, q⟩ := p.rs.fH a h
      exact ⟨u, by rw [upd_ne (fun z : a = D => w.nF (by rw [← z]; exact h))]; exact q⟩
mutual
/-- .. and more handles, more that is never written -/
theorem DV.wm {n' : Nat} (hF : ∀ a, W.F a → W'.F a) (hm : ∀ k, k < n → W'.m k = W.m k) (hn : n ≤ n') : ∀ {d : Rf.D} {v : V}, DV G W n H d v → DV G W' n' H d v
  | .non, _, h => h
  | .bl _, _, h => h
  | .int _, _, h => h
  | .str _, _, h => h
  | .tup ds, v, h => by
    obtain ⟨a, xs, e1, hs, hd⟩ := h
    exact ⟨a, xs, e1, hs, DVs.wm hF hm hn hd⟩
  | .lst ds, v, h => by
    obtain ⟨a, xs, e1, f, hH, hd⟩ := h
    exact ⟨a, xs, e1, hF _ f, hH, DVs.wm hF hm hn hd⟩
  | .frz ds, v, h => by
    obtain ⟨a, xs, e1, hs, hd⟩ := h
    exact ⟨a, xs, e1, hs.elim (fun z => .inl ⟨z.1, hF _ z.2⟩) .inr, DVs.wm hF hm hn hd⟩
  | .dct ks vs, v, h => by
    obtain ⟨a, kvs, e1, f, hR, hk, hd⟩ := h
    exact ⟨a, kvs, e1, hF _ f, hR, hk, DVs.wm hF hm hn hd⟩
  | .ref k, v, h => ⟨by rw [h.1, hm k h.2], Nat.lt_of_lt_of_le h.2 hn⟩
  | .fn f, v, h => h
  | .met k f, v, h => by
    obtain ⟨p, e1, hH, hk, f⟩ := h
    exact ⟨p, e1, by rw [hm k hk]; exact hH, Nat.lt_of_lt_of_le hk hn, hF _ f⟩
  | .exc _ _, _, h => h.elim
  | .exv c ds, v, h => by
    obtain ⟨vs, h1, h2⟩ := h
    exact ⟨vs, h1.map hF fun _ _ _ _ q => q, DVs.wm hF hm hn h2⟩
theorem DVs.wm {n' : Nat} (hF : ∀ a, W.F a → W'.F a) (hm : ∀ k, k < n → W'.m k = W.m k) (hn : n ≤ n') : ∀ {ds : List Rf.D} {xs : List V}, DVs G W n H ds xs → DVs G W' n' H ds xs
  | [], _, h => h
  | d :: ds, xs, h => by
    obtain ⟨y, ys, e1, h1, h2⟩ := h
    exact ⟨y, ys, e1, DV.wm hF hm hn h1, DVs.wm hF hm hn h2⟩
end
theorem obR.wm {k n' : Nat} {ob : Ob} (hF : ∀ a, W.F a → W'.F a) (hm : ∀ k, k < n → W'.m k = W.m k) (hn : n ≤ n') (hk : W'.m k = W.m k) (h : obR G W H n k ob) : obR G W' H n' k ob := by
  cases ob with
  | lst ds =>
    obtain ⟨xs, h1, h2⟩ := h
    exact ⟨xs, by rw [hk]; exact h1, DVs.wm hF hm hn h2⟩
  | dct ks vs =>
    obtain ⟨xs, h1, h2, h3⟩ := h
    exact ⟨xs, by rw [hk]; exact h1, h2, DVs.wm hF hm hn h3⟩
  | ins c fs =>
    obtain ⟨dx, gs, h1, h2, h3⟩ := h
    exact ⟨dx, gs, by rw [hk]; exact h1, h2, DVs.wm hF hm hn h3⟩
  | dead => trivial
theorem Own.adopt_frz {D : Addr} {xs : List V} (p : Post G bd base W0 H0 st0 W H st) (h0 : H0 D = none) (w : Own G W H st D xs) : Post G bd base W0 H0 st0 ⟨W.m, fun a => W.F a ∨ a = D⟩ H st := by
  refine ⟨⟨p.ext.fr, fun a h => .inl (p.ext.F a h), p.ext.m, p.ext.dd, p.ext.nw, p.ext.tr, p.ext.len, fun a h => ?_⟩, fun k ob e => obR.wm (fun _ h => .inl h) (fun _ _ => rfl) (Nat.le_refl _) rfl (p.rs.obj k ob e), p.rs.inj, fun k hk z => ?_, fun a h => ?_, p.rs.bdl, p.rs.bl⟩
  · rcases h with h | h
    · exact p.ext.nF a h
    · exact .inr (.inl (by rw [h]; exact h0))
  · rcases z with z | z
    · exact p.rs.fF k hk z
    · exact w.nl k hk z
  · rcases h with h | h
    · exact p.rs.fH a h
    · exact ⟨_, by rw [h]; exact w.at_⟩
theorem Own.adopt_ob {D : Addr} {xs : List V} {ds : List Rf.D} (p : Post G bd base W0 H0 st0 W H st) (h0 : H0 D = none) (w : Own G W H st D xs) (hd : DVs G W st.length H ds xs) : Post G bd base W0 H0 st0 (W.add st.length D) H (st ++ [.lst ds]) := by
  have am : ∀ k, k < st.length → (W.add st.length D).m k = W.m k := fun k hk => if_neg (by omega)
  have an : (W.add st.length D).m st.length = D := if_pos rfl
  have r := p.rs
  refine ⟨⟨fun a o h hk => p.ext.fr a o h hk, p.ext.F, fun k hk => ?_, fun k hk h => ?_, fun k hk h => ?_, p.ext.tr, ?_, p.ext.nF⟩, fun k ob e => ?_, fun j k hj hk z => ?_, fun k hk z => ?_, p.rs.fH, p.rs.bdl, ?_⟩
  · rw [am k (Nat.lt_of_lt_of_le hk p.ext.len)]; exact p.ext.m k hk
  · rcases live_app h with z | z
    · exact p.ext.dd k hk z.2
    · have := p.ext.len; omega
  · rcases live_app h with z | z
    · rw [am k z.1]; exact p.ext.nw k hk z.2
    · rw [z, an]; exact h0
  · rw [List.length_append]; have := p.ext.len; omega
  · rcases get_app e with ⟨q, z⟩ | ⟨q, z⟩
    · have z1 := r.obj k ob z
      have hb : bdOf bd base st.length k ≤ st.length := bdOf_le r
      refine obR.wm (W := W) (W' := W.add st.length D) (fun _ h => h) (fun j hj => am j (by omega)) ?_ (am k q) z1
      unfold bdOf
      split <;> simp
    · subst q z
      have q : bdOf bd base (st ++ [Ob.lst ds]).length st.length = st.length.succ := by
        unfold bdOf
        rw [if_neg (by have := r.bl; omega)]
        simp
      rw [q]
      exact ⟨xs, by rw [an]; exact w.at_, DVs.wm (W := W) (W' := W.add st.length D) (fun _ h => h) am (Nat.le_succ _) hd⟩
  · rcases live_app hj with ⟨qj, lj⟩ | qj <;> rcases live_app hk with ⟨qk, lk⟩ | qk
    · rw [am j qj, am k qk] at z; exact r.inj j k lj lk z
    · rw [am j qj, qk, an] at z; exact absurd z (w.nl j lj)
    · rw [am k qk, qj, an] at z; exact absurd z.symm (w.nl k lk)
    · omega
  · rcases live_app hk with ⟨q, l⟩ | q
    · rw [am k q] at z; exact r.fF k l z
    · rw [q, an] at z; exact w.nF z
  · rw [List.length_append]; have := r.bl; omega
/-! ### targets -/
def gNames : List Nat → TGs
  | [] => gNil
  | i :: is => gCons (gName i) (gNames is)
def rdTn (K : PySem.W.Frag) : Tn → TG
  | .nm i => gName i
  | .tup is => gTup K is.length (gNames is)
theorem EnR.set {ρ : En} {i : Nat} {d : D} {v : V} (en : EnR G W n H ρ σ) (hv : DV G W n H d v) : EnR G W n H (ρ.set i (some d)) (σ.set i (some v)) := by
  refine ⟨by rw [List.length_set, List.length_set]; exact en.1, fun j e he => ?_⟩
  by_cases q : i = j
  · subst q
    by_cases z : i < ρ.length
    · rw [List.getElem?_set_self z] at he
      cases he
      exact ⟨v, List.getElem?_set_self (by rw [← en.1]; exact z), DVx.of hv⟩
    · rw [List.getElem?_eq_none (by rw [List.length_set]; omega)] at he; cases he
  · rw [List.getElem?_set_ne q] at he ⊢
    exact en.2 j e he
theorem wipe_set {i : Nat} {o : Option V} : ∀ {vs : List Nat} {σ : L2.St}, i ∈ vs → L2.wipe (σ.set i o) vs = L2.wipe σ vs
  | v :: vs, σ, h => by
    unfold L2.wipe
    by_cases q : i ∈ vs
    · rw [wipe_set q]
    · have e : i = v := by
        rcases List.mem_cons.mp h with h | h
        · exact h
        · exact absurd h q
      subst e
      have comm : ∀ (vs : List Nat) (σ : L2.St), i ∉ vs → L2.wipe (σ.set i o) vs = (L2.wipe σ vs).set i o := by
        intro vs
        induction vs with
        | nil => intro σ _; rfl
        | cons w ws ih =>
          intro σ hn
          unfold L2.wipe
          rw [ih σ fun z => hn (List.mem_cons_of_mem _ z), List.set_comm]
          exact fun z => hn (z ▸ List.mem_cons_self)
      rw [comm vs σ q, List.set_set]
theorem names_ok {vs : List Nat} : ∀ {is : List Nat} {ds : List D} {xs : List V} {ρ : En} {σ : L2.St} {Q : L2.St → Hp → Prop}, is.length = ds.length → DVs G W n H ds xs → EnR G W n H ρ σ →
    (∀ σ', EnR G W n H ((is.zip ds).foldl (fun ρ p => ρ.set p.1 (some p.2)) ρ) σ' → ((∀ i ∈ is, i ∈ vs) → L2.wipe σ' vs = L2.wipe σ vs) → Q σ' H) → gNames is xs σ H Q
  | [], [], xs, ρ, σ, Q, _, hd, en, q => ⟨hd, q σ en fun _ => rfl⟩
  | [], _ :: _, _, _, _, _, h, _, _, _ => by cases h
  | _ :: _, [], _, _, _, _, h, _, _, _ => by cases h
  | i :: is, d :: ds, xs, ρ, σ, Q, hl, hd, en, q => by
    obtain ⟨y, ys, rfl, h1, h2⟩ := hd
    refine ⟨y, ys, rfl, ?_⟩
    show gNames is ys (σ.set i (some y)) H Q
    refine names_ok (vs := vs) (ρ := ρ.set i (some d)) (by simpa using hl) h2 (en.set h1) fun σ' en' hw => q σ' en' fun hi => ?_
    rw [hw fun j hj => hi j (List.mem_cons_of_mem _ hj)]
    exact wipe_set (hi i List.mem_cons_self)
def tnOf : Tn → List Nat
  | .nm i => [i]
  | .tup is => is
theorem tn_ok {K : PySem.W.Frag} (hK : K = G.K) {vs : List Nat} {t : Tn} {d : D} {v : V} {ρ ρ' : En} {Q : L2.St → Hp → Prop} (h : putN t d ρ = some ρ') (hd : DV G W n H d v) (en : EnR G W n H ρ σ)
    (q : ∀ σ', EnR G W n H ρ' σ' → ((∀ i ∈ tnOf t, i ∈ vs) → L2.wipe σ' vs = L2.wipe σ vs) → Q σ' H) : rdTn K t v σ H Q := by
  cases t with
  | nm i =>
    have h' : (if i < ρ.length then some (ρ.set i (some d)) else none) = some ρ' := h
    split at h'
    · cases h'
      exact q _ (en.set hd) fun hi => wipe_set (hi i (by simp [tnOf]))
    · cases h'
  | tup is =>
    cases d with
    | tup ds =>
      have h' : (if is.length = ds.length ∧ (∀ i ∈ is, i < ρ.length) then some ((is.zip ds).foldl (fun ρ p => ρ.set p.1 (some p.2)) ρ) else none) = some ρ' := h
      split at h'
      · rename_i hl
        cases h'
        obtain ⟨a, xs, rfl, h1, h2⟩ := hd
        exact ⟨a, xs, rfl, by rw [hK]; exact h1, by rw [h2.len, hl.1], names_ok (vs := vs) hl.1 h2 en q⟩
      · cases h'
    | _ => cases h
theorem EnR.wipe {ρ : En} (en : EnR G W n H ρ σ) : ∀ vs : List Nat, EnR G W n H (wipeE ρ vs) (L2.wipe σ vs)
  | [] => en
  | v :: vs => by
    have ih := EnR.wipe en vs
    refine ⟨by unfold wipeE L2.wipe; rw [List.length_set, List.length_set]; exact ih.1, fun j e he => ?_⟩
    unfold wipeE at he
    unfold L2.wipe
    by_cases q : v = j
    · subst q
      by_cases z : v < (wipeE ρ vs).length
      · rw [List.getElem?_set_self z] at he; cases he
      · rw [List.getElem?_eq_none (by rw [List.length_set]; omega)] at he; cases he
    · rw [List.getElem?_set_ne q] at he ⊢
      exact ih.2 j e he
end
end Rf

namespace Rf
open PySem PySem.Spec PyProof.Rows L2
section
variable {G : Gx} {T : Tx} {N : List Str} {C : Call} {lv : Nat} {Wx : WX} {sc : Scope} {X : Cx} {σ : L2.St} {H H' : Hp} {W W' W0 : Wd} {n : Nat} {bd : Nat → Nat} {base : Nat} {st st' st0 : Sto} {H0 : Hp}
/-! ### what is walked -/
/-- J walks these items -/
structure Src (G : Gx) (J : It) (items : List D) (P : Wd → Nat → Hp → Prop) (Gd : Hp → Prop) (Y : Nat → Hp → V → Hp → Prop) : Prop where
  walk : Walk J items.length Gd Y
  good : ∀ W n H, P W n H → Gd H
  keep : ∀ {bd : Nat → Nat} {base : Nat} {W W' : Wd} {H H' : Hp} {st st' : Sto}, RS G bd base W H st → Post G bd base W H st W' H' st' → P W st.length H → P W' st'.length H'
  chg : ∀ {W : Wd} {n : Nat} {H : Hp} {st : Sto} {D : Addr} {xs : List V} {ho : HO}, Own G W H st D xs → P W n H → P W n (upd H D ho)
  item : ∀ {bd : Nat → Nat} {base : Nat} {W : Wd} {H H' : Hp} {st : Sto} {i : Nat} {x : V} {d : D}, RS G bd base W H st → P W st.length H → items[i]? = some d → Y i H x H' → Post G bd base W H st W H' st ∧ DV G W st.length H' d x
def SrcOk (G : Gx) : Rl (List D × (Sto → Bool)) It := fun W n H p J => ∃ P Gd Y, Src G J p.1 P Gd Y ∧ P W n H
def rdI (G : Gx) (C : Call) (Wx : WX) (it : I) : TI := fun σ H R => rd G Wx (SrcOk G) (fun base ρ st => evI C base it ρ st) σ H R
theorem src_seq {J : It} {ds : List D} {xs : List V} {Gd : Hp → Prop} {S : Wd → Hp → Prop} (w : Walk J xs.length Gd (YAt xs)) (hg : ∀ W H, S W H → Gd H)
    (hk : ∀ {bd : Nat → Nat} {base : Nat} {W W' : Wd} {H H' : Hp} {st st' : Sto}, RS G bd base W H st → Post G bd base W H st W' H' st' → S W H → S W' H')
    (hc : ∀ {W : Wd} {H : Hp} {st : Sto} {D : Addr} {xs : List V} {ho : HO}, Own G W H st D xs → S W H → S W (upd H D ho)) (hl : xs.length = ds.length) :
    Src G J ds (fun W n H => S W H ∧ DVs G W n H ds xs) Gd (YAt xs) := by
  refine ⟨by rw [← hl]; exact w, fun W n H p => hg W H p.1, fun r p q => ⟨hk r p q.1, p.dvs r q.2⟩, fun o q => ⟨hc o q.1, o.chgs q.2⟩, fun {_ _ W H H' st i x d} r q hi hy => ?_⟩
  obtain ⟨e, hx⟩ := hy
  subst e
  obtain ⟨v, hv, dv⟩ := q.2.get hi
  rw [hx] at hv
  cases hv
  exact ⟨Post.refl r, dv⟩
theorem src_lst {a : Addr} {ds : List D} {xs : List V} {K : PySem.W.Frag} (hl : xs.length = ds.length) : Src G (Itl K a) ds (fun W n H => (W.F a ∧ H a = some (.lst xs)) ∧ DVs G W n H ds xs) (fun H => SqL K H a xs) (YAt xs) :=
  src_seq walk_list (fun W H s => SqL.of s.2) (fun r p s => ⟨p.ext.F _ s.1, F.keep p.ext r s.1 s.2⟩) (fun o s => ⟨s.1, by rw [upd_ne fun z => o.nF (by rw [← z]; exact s.1)]; exact s.2⟩) hl
theorem src_tup {a : Addr} {ds : List D} {xs : List V} (hl : xs.length = ds.length) : Src G (Itt G.K a) ds (fun W n H => SqT G.K H a xs ∧ DVs G W n H ds xs) (fun H => SqT G.K H a xs) (YAt xs) :=
  src_seq (S := fun _ H => SqT G.K H a xs) walk_tup (fun W H s => s) (fun r p s => SqT.keep p.ext r s) (fun {W H st D xs' ho} o s => by
    rcases s with (s | ⟨u, s⟩) | s
    · exact .inl (.inl (by rw [upd_ne fun z => by rw [z, o.at_] at s; cases s]; exact s))
    · exact .inl (.inr ⟨u, by rw [upd_ne fun z => by rw [z, o.at_] at s; cases s]; exact s⟩)
    · exact .inr s) hl
theorem src_frz {a : Addr} {ds : List D} {xs : List V} (hl : xs.length = ds.length) : Src G (Itl G.K a) ds (fun W n H => FzL G.K W H a xs ∧ DVs G W n H ds xs) (fun H => SqL G.K H a xs) (YAt xs) :=
  src_seq (S := fun W H => FzL G.K W H a xs) walk_list (fun W H s => s.sq) (fun r p s => by
    rcases s with ⟨hs | ⟨o, hs⟩, q⟩ | hs
    · exact .inl ⟨.inl (F.keep p.ext r q hs), p.ext.F _ q⟩
    · exact .inl ⟨.inr ⟨o, F.keep p.ext r q hs⟩, p.ext.F _ q⟩
    · exact .inr hs) (fun {W H st D xs' ho} o s => by
    rcases s with ⟨hs | ⟨u, hs⟩, q⟩ | hs
    · exact .inl ⟨.inl (by rw [upd_ne fun z => o.nF (by rw [← z]; exact q)]; exact hs), q⟩
    · exact .inl ⟨.inr ⟨u, by rw [upd_ne fun z => o.nF (by rw [← z]; exact q)]; exact hs⟩, q⟩
    · exact .inr hs) hl
theorem src_fn {J : It} {ds : List D} {f : Nat → V} (w : Walk J ds.length (fun _ => True) (YFn f)) (hf : ∀ (i : Nat) d, ds[i]? = some d → ∀ W n H, DV G W n H d (f i)) : Src G J ds (fun _ _ _ => True) (fun _ => True) (YFn f) := by
  refine ⟨w, fun _ _ _ _ => trivial, fun _ _ _ => trivial, fun _ _ => trivial, fun {_ _ W H H' st i x d} r _ hi hy => ?_⟩
  obtain ⟨e, hx⟩ := hy
  subst e hx
  exact ⟨Post.refl r, hf i d hi _ _ _⟩
theorem src_str {s : List Nat} : Src G (Its ⟨s.toArray⟩) (s.map fun c => D.str [c]) (fun _ _ _ => True) (fun _ => True) (fun i H v H' => H' = H ∧ ∃ c, (⟨s.toArray⟩ : Str).cps[i]? = some c ∧ v = .str ⟨#[c]⟩) := by
  have hw := walk_str (z := ⟨s.toArray⟩)
  refine ⟨by rw [List.length_map]; simpa using hw, fun _ _ _ _ => trivial, fun _ _ _ => trivial, fun _ _ => trivial, fun {_ _ W H H' st i x d} r _ hi hy => ?_⟩
  obtain ⟨e, c, hc, hx⟩ := hy
  subst e hx
  refine ⟨Post.refl r, ?_⟩
  rw [List.getElem?_map] at hi
  have hc' : s[i]? = some c := by simpa using hc
  rw [hc'] at hi
  cases hi
  rfl
theorem pi_end {X : Cx} {tg : Expr} {pins : List (Addr × Obj)} {σ : L2.St} {H : Hp} {s : Shared} {J : It} {R : It → Hp → Prop} {o : Obj} {tn : Nat → Heap → Prop} (I : Inv X pins σ H s) (T : Turn X.prog X.w X.K tg J [s.heap.objs.size] s.heap.objs.size tn) (st : tn 0 (s.heap.push o)) (q : R J H) :
    PIE X pins σ tg R (.ref s.heap.objs.size) { s with heap := s.heap.push o } := by
  refine ⟨s.heap.objs.size, [s.heap.objs.size], tn, J, H, rfl, I.kept (t' := s.toks) fun b o e => Heap.get?_push_of_some _ e, T, st, fun b hb => ?_, q⟩
  have e : b = s.heap.objs.size := by simpa using hb
  subst e
  exact I.fpOk (Nat.le_refl _) (I.hok.fresh (Nat.le_refl _))
/-- a list, a tuple, a text -/
theorem i_val (o : Xok G T N C lv Wx sc X) {e : E} {p tg : Expr} (h : PE X p (rdE G C Wx e)) : PI X tg p (rdI G C Wx (.val e)) := by
  refine ⟨fun pins s σ H R I q => ?_⟩
  refine thn (h.run pins s σ H _ I (rd.bind (rel := DV G) q)) fun v s1 ⟨x, H1, I1, r1, q1⟩ => ?_
  obtain ⟨W, bd, base, ρ, st, d, r, en, dv, a⟩ := q1
  have fin : ∀ {ds : List D} {J : It}, Ans (SrcOk G) G bd base Wx σ W H1 st (.ok (ds, fun _ => true) st) R → SrcOk G W st.length H1 (ds, fun _ => true) J → R J H1 := fun a hj => a _ W H1 (Post.refl r) hj
  cases d with
  | lst ds =>
    obtain ⟨p', xs, rfl, f, h1, h2⟩ := dv
    cases r1
    obtain ⟨its, rv, pl, hz⟩ := I1.list (SqL.of h1)
    refine wpAny_pyIter_list pl.isList ?_
    exact pi_end I1 (turn_list p' _) ⟨_, Heap.get?_push_size _ rfl, rfl, rfl⟩ (fin a ⟨_, _, _, src_lst h2.len, ⟨f, h1⟩, h2⟩)
  | tup ds =>
    obtain ⟨p', xs, rfl, h1, h2⟩ := dv
    cases r1
    have h1' : SqT X.K H1 p' xs := by rw [o.K]; exact h1
    obtain ⟨its, rv, pl, hz⟩ := I1.tuple h1'
    refine wpAny_pyIter_tuple (show s1.heap.IsTuple p' its.toArray from pl) ?_
    refine pi_end I1 (turn_tuple p' _) ⟨_, Heap.get?_push_size _ rfl, rfl, rfl⟩ (fin a ?_)
    rw [o.K]
    exact ⟨_, _, _, src_tup h2.len, h1, h2⟩
  | frz ds =>
    obtain ⟨p', xs, rfl, h1, h2⟩ := dv
    cases r1
    have h1' : SqL X.K H1 p' xs := by rw [o.K]; exact h1.sq
    obtain ⟨its, rv, pl, hz⟩ := I1.list h1'
    refine wpAny_pyIter_list pl.isList ?_
    refine pi_end I1 (turn_list p' _) ⟨_, Heap.get?_push_size _ rfl, rfl, rfl⟩ (fin a ?_)
    rw [o.K]
    exact ⟨_, _, _, src_frz h2.len, h1, h2⟩
  | str z =>
    have ex : x = .str ⟨z.toArray⟩ := dv
    subst ex
    obtain ⟨t, rfl⟩ := r1
    have j := fin a ⟨_, _, _, src_str, trivial⟩
    cases ha : (⟨z.toArray⟩ : Str).cps.all (· < 128)
    · exact wpAny_pyIter_wide ha (pi_one (tk := s1.toks) I1 _ (turn_str _ ⟨z.toArray⟩ t "str_iterator" (.inr rfl)) ⟨_, Heap.get?_push_size _ rfl, rfl, rfl⟩ j)
    · exact wpAny_pyIter_ascii ha (pi_one (tk := s1.toks) I1 _ (turn_str _ ⟨z.toArray⟩ t "str_ascii_iterator" (.inl rfl)) ⟨_, Heap.get?_push_size _ rfl, rfl, rfl⟩ j)
  | _ => exact a.elim
theorem pi_weak {X : Cx} {tg e : Expr} {t t' : TI} (h : PI X tg e t) (w : ∀ σ H R, t' σ H R → t σ H R) : PI X tg e t' := ⟨fun pins s σ H R I q => h.run pins s σ H R I (w σ H R q)⟩
theorem src_rng {a : Int} {m : Nat} : Src G (Itr a m) ((List.range m).map fun (i : Nat) => D.int (a + (i : Int))) (fun _ _ _ => True) (fun _ => True) (YFn fun k => .int (a + (k : Int))) := by
  refine src_fn ?_ ?_
  · rw [List.length_map, List.length_range]; exact walk_range
  · intro k d hk W n H
    rw [List.getElem?_map] at hk
    cases e : (List.range m)[k]? with
    | none => rw [e] at hk; cases hk
    | some j =>
      rw [e] at hk
      have : j = k := by
        obtain ⟨h1, h2⟩ := List.getElem?_eq_some_iff.mp e
        simpa using h2.symm
      subst this
      cases hk
      rfl
theorem src_rng0 {m : Nat} : Src G (Itr 0 m) ((List.range m).map fun (i : Nat) => D.int (i : Int)) (fun _ _ _ => True) (fun _ => True) (YFn fun k => .int (0 + (k : Int))) := by
  have e : ((List.range m).map fun (i : Nat) => D.int (i : Int)) = (List.range m).map fun (i : Nat) => D.int (0 + (i : Int)) := by
    congr 1; funext i; rw [Int.zero_add]
  rw [e]
  exact src_rng
theorem i_rng1 (o : Xok G T N C lv Wx sc X) {a : E} {x : Str} {pa tg : Expr} {p pos : Pos} (h1 : glB sc x = true) (h2 : x = ("range" : Str)) (ha : PE X pa (rdE G C Wx a)) (ns : noStar pa = true) : PI X tg (.Call (.Name x p) [pa] [] pos) (rdI G C Wx (.rng1 a)) := by
  obtain ⟨g, hd⟩ := glB_ok o h1
  have hm : X.mg x = none := by rw [o.mg, h2]; exact o.g.bi _ (by decide)
  subst h2
  have hs : starEach [pa] X.env = [(false, eval pa X.env)] := star_cons ns
  refine pi_weak (pi_range1 g hm (pa_cons ha pa_nil hs) hs) fun σ H R q => ?_
  obtain ⟨W, bd, base, ρ, st, r, en, q⟩ := rd.bind (rel := DV G) q
  refine ⟨W, bd, base, ρ, st, r, en, q.mono ?_⟩
  rintro v H1 ⟨W1, bd1, base1, ρ1, st1, d, r1, en1, dv1, q1⟩
  obtain ⟨xs, hx, q1⟩ := Ans.opt q1
  cases d with
  | int i =>
    have hx' : (if decide (i < 2 ^ 40) && decide (-(2 ^ 40) < i) then some ((List.range i.toNat).map fun (k : Nat) => D.int (k : Int)) else none) = some xs := hx
    split at hx'
    · rename_i hz
      obtain ⟨z1, z2⟩ := and2 hz
      have z1 := of_decide_eq_true z1
      have z2 := of_decide_eq_true z2
      cases hx'
      exact ⟨i, by rw [show v = V.int i from dv1], by omega, by omega, q1 _ W1 H1 (Post.refl r1) ⟨_, _, _, src_rng0, trivial⟩⟩
    · cases hx'
  | _ => cases hx
theorem i_rng2 (o : Xok G T N C lv Wx sc X) {a b : E} {x : Str} {pa pb tg : Expr} {p pos : Pos} (h1 : glB sc x = true) (h2 : x = ("range" : Str)) (ha : PE X pa (rdE G C Wx a)) (hb : PE X pb (rdE G C Wx b)) (ns : noStar pa = true) (nb : noStar pb = true) :
    PI X tg (.Call (.Name x p) [pa, pb] [] pos) (rdI G C Wx (.rng2 a b)) := by
  obtain ⟨g, hd⟩ := glB_ok o h1
  have hm : X.mg x = none := by rw [o.mg, h2]; exact o.g.bi _ (by decide)
  subst h2
  have hs : starEach [pa, pb] X.env = [(false, eval pa X.env), (false, eval pb X.env)] := by rw [star_cons ns, star_cons nb]; rfl
  have hs2 : starEach [pb] X.env = [(false, eval pb X.env)] := star_cons nb
  refine pi_weak (pi_range2 g hm (pa_cons ha (pa_cons hb pa_nil hs2) (star_cons ns)) hs hs2) fun σ H R q => ?_
  obtain ⟨W, bd, base, ρ, st, r, en, q⟩ := rd_two q
  refine ⟨W, bd, base, ρ, st, r, en, q.mono ?_⟩
  rintro v H1 ⟨W, bd, base, ρ, st, r, en, q⟩
  refine ⟨W, bd, base, ρ, st, r, en, q.mono ?_⟩
  rintro w H2 ⟨W1, bd1, base1, ρ1, st1, d, e, r1, en1, d1, d2, q1⟩
  obtain ⟨xs, hx, q1⟩ := Ans.opt q1
  cases d with
  | int i => cases e with
    | int j =>
      have hx' : (if decide (j < 2 ^ 40) && (decide (-(2 ^ 40) < j) && (decide (i < 2 ^ 40) && decide (-(2 ^ 40) < i))) then some ((List.range (j - i).toNat).map fun (k : Nat) => D.int (i + (k : Int))) else none) = some xs := hx
      split at hx'
      · rename_i hz
        obtain ⟨z1, hz⟩ := and2 hz
        obtain ⟨z2, hz⟩ := and2 hz
        obtain ⟨z3, z4⟩ := and2 hz
        have z1 := of_decide_eq_true z1
        have z2 := of_decide_eq_true z2
        have z3 := of_decide_eq_true z3
        have z4 := of_decide_eq_true z4
        cases hx'
        exact ⟨i, j, by rw [show v = V.int i from d1, show w = V.int j from d2], ⟨by omega, by omega, by omega, by omega⟩, q1 _ W1 H2 (Post.refl r1) ⟨_, _, _, src_rng, trivial⟩⟩
      · cases hx'
    | _ => cases hx
  | _ => cases hx
/-- pairs of two lists, of two tuples -/
theorem src_zip {J : It} {ds es : List D} {xs ys : List V} {Gd : Hp → Prop} {S : Wd → Hp → Prop} (w : Walk J (min xs.length ys.length) Gd (YPair (fun i => xs[i]?) (fun i => ys[i]?))) (hg : ∀ W H, S W H → Gd H)
    (hk : ∀ {bd : Nat → Nat} {base : Nat} {W W' : Wd} {H H' : Hp} {st st' : Sto}, RS G bd base W H st → Post G bd base W H st W' H' st' → S W H → S W' H')
    (hc : ∀ {W : Wd} {H : Hp} {st : Sto} {D : Addr} {xs : List V} {ho : HO}, Own G W H st D xs → S W H → S W (upd H D ho)) (h1 : xs.length = ds.length) (h2 : ys.length = es.length) :
    Src G J (ds.zipWith (fun d e => D.tup [d, e]) es) (fun W n H => S W H ∧ DVs G W n H ds xs ∧ DVs G W n H es ys) Gd (YPair (fun i => xs[i]?) (fun i => ys[i]?)) := by
  refine ⟨by rw [List.length_zipWith, ← h1, ← h2]; exact w, fun W n H p => hg W H p.1, fun r p q => ⟨hk r p q.1, p.dvs r q.2.1, p.dvs r q.2.2⟩, fun o q => ⟨hc o q.1, o.chgs q.2.1, o.chgs q.2.2⟩, fun {bd base W H H' st i x d} r q hi hy => ?_⟩
  obtain ⟨T, u, v, e1, e2, e3, e4, e5⟩ := hy
  subst e1 e3
  rw [List.getElem?_zipWith] at hi
  cases a1 : ds[i]? with
  | none => rw [a1] at hi; cases hi
  | some a =>
    cases a2 : es[i]? with
    | none => rw [a1, a2] at hi; cases hi
    | some b =>
      rw [a1, a2] at hi
      cases hi
      obtain ⟨u', hu, du⟩ := q.2.1.get a1
      obtain ⟨v', hv, dv⟩ := q.2.2.get a2
      dsimp only at e4 e5
      rw [hu] at e4; cases e4
      rw [hv] at e5; cases e5
      obtain ⟨ex, rs⟩ := alloc_any r e2 (.tup [u, v])
      exact ⟨⟨ex, rs⟩, T, _, rfl, SqT.of upd_same, DVs.keep ex r (Nat.le_refl _) (Nat.le_refl _) ⟨_, _, rfl, du, _, _, rfl, dv, rfl⟩⟩
theorem i_zip (o : Xok G T N C lv Wx sc X) {a b : E} {x : Str} {pa pb : Expr} {p pos tpos : Pos} {elts : List Expr} {kk : Nat} (h1 : glB sc x = true) (h2 : x = ("zip" : Str)) (ha : PE X pa (rdE G C Wx a)) (hb : PE X pb (rdE G C Wx b)) (ns : noStar pa = true) (nb : noStar pb = true) :
    PI X (.Tuple elts kk tpos) (.Call (.Name x p) [pa, pb] [] pos) (rdI G C Wx (.zip a b)) := by
  obtain ⟨g, hd⟩ := glB_ok o h1
  have hm : X.mg x = none := by rw [o.mg, h2]; exact o.g.bi _ (by decide)
  subst h2
  have hs : starEach [pa, pb] X.env = (false, eval pa X.env) :: starEach [pb] X.env := star_cons ns
  have hs2 : starEach [pb] X.env = [(false, eval pb X.env)] := star_cons nb
  refine pi_weak (RZ.pi_zipA g hm (pa_cons ha (pa_cons hb pa_nil hs2) hs) hs (by rw [hs2]; rfl)) fun σ H R q => ?_
  obtain ⟨W, bd, base, ρ, st, r, en, q⟩ := rd_two q
  refine ⟨W, bd, base, ρ, st, r, en, q.mono ?_⟩
  rintro v H1 ⟨W, bd, base, ρ, st, r, en, q⟩
  refine ⟨W, bd, base, ρ, st, r, en, q.mono ?_⟩
  rintro w H2 ⟨W1, bd1, base1, ρ1, st1, d, e, r1, en1, d1, d2, q1⟩
  cases d with
  | lst ds => cases e with
    | lst es =>
      obtain ⟨a1, xs, rfl, f1, g1, k1⟩ := d1
      obtain ⟨a2, ys, rfl, f2, g2, k2⟩ := d2
      refine ⟨a1, a2, xs, ys, rfl, .inl ⟨SqL.of g1, SqL.of g2, q1 _ W1 H2 (Post.refl r1) ⟨_, _, _, src_zip (S := fun W H => (W.F a1 ∧ H a1 = some (.lst xs)) ∧ (W.F a2 ∧ H a2 = some (.lst ys))) (walk_zip rfl) (fun W H s => ⟨SqL.of s.1.2, SqL.of s.2.2⟩) (fun r p s => ⟨⟨p.ext.F _ s.1.1, F.keep p.ext r s.1.1 s.1.2⟩, ⟨p.ext.F _ s.2.1, F.keep p.ext r s.2.1 s.2.2⟩⟩)
        (fun o s => ⟨⟨s.1.1, by rw [upd_ne fun z => o.nF (by rw [← z]; exact s.1.1)]; exact s.1.2⟩, ⟨s.2.1, by rw [upd_ne fun z => o.nF (by rw [← z]; exact s.2.1)]; exact s.2.2⟩⟩) k1.len k2.len, ⟨⟨f1, g1⟩, ⟨f2, g2⟩⟩, k1, k2⟩⟩⟩
    | _ => exact q1.elim
  | tup ds => cases e with
    | tup es =>
      obtain ⟨a1, xs, rfl, g1, k1⟩ := d1
      obtain ⟨a2, ys, rfl, g2, k2⟩ := d2
      have chg : ∀ {W : Wd} {H : Hp} {st : Sto} {D a : Addr} {xs' xs : List V} {ho : HO}, Own G W H st D xs' → SqT G.K H a xs → SqT G.K (upd H D ho) a xs := fun o s => by
        rcases s with (s | ⟨u, s⟩) | s
        · exact .inl (.inl (by rw [upd_ne fun z => by rw [z, o.at_] at s; cases s]; exact s))
        · exact .inl (.inr ⟨u, by rw [upd_ne fun z => by rw [z, o.at_] at s; cases s]; exact s⟩)
        · exact .inr s
      refine ⟨a1, a2, xs, ys, rfl, .inr ⟨by rw [o.K]; exact g1, by rw [o.K]; exact g2, q1 _ W1 H2 (Post.refl r1) ⟨_, _, _, src_zip (S := fun W H => SqT G.K H a1 xs ∧ SqT G.K H a2 ys) (Gd := fun H => SqT G.K H a1 xs ∧ SqT G.K H a2 ys) ?_ (fun W H s => s) (fun r p s => ⟨SqT.keep p.ext r s.1, SqT.keep p.ext r s.2⟩)
        (fun o s => ⟨chg o s.1, chg o s.2⟩) k1.len k2.len, ⟨g1, g2⟩, k1, k2⟩⟩⟩
      rw [o.K]
      refine ⟨fun i _ hi q => ?_, fun _ q => ⟨xs, ys, q.1, q.2, by omega⟩, fun i H v H' _ q y => ?_⟩
      · have h1 : i < xs.length := by omega
        have h2 : i < ys.length := by omega
        exact ⟨xs, ys, xs[i], ys[i], q.1, q.2, by simp [h1], by simp [h2]⟩
      · obtain ⟨T, x, z, h1, h2, h3, h4, h5⟩ := y
        exact ⟨T, x, z, h1, h2, h3, h4 xs q.1, h5 ys q.2⟩
    | _ => exact q1.elim
  | _ => exact q1.elim
/-! ### comprehensions -/
/-- nothing leaves a comprehension's block -/
abbrev wx0 : WX := fun _ _ _ _ => False
theorem blk_ok (o : Xok G T N C lv Wx sc X) (hh : T.hot = false) {s : Shared} {H : Hp} {scope : Scope} {Cc : Addr} {cl : List (Str × Addr)} {fp : List Addr} : Xok G T N C lv wx0 (relS scope sc) (X.blk s H scope (compEnvC scope cl Cc X.env) fp) :=
  ⟨o.prog, o.w, o.K, o.mg, o.base, o.calm, o.room, o.un, o.hN, o.nd, by show relabel scope X.env = relS scope sc; rw [← o.hsc]; rfl, takesN, o.g, o.calls, o.ar, o.l2, o.kp, o.pn0, fun q hq => (by rw [o.pn0 hh] at hq; cases hq), o.hots, fun h => (by rw [hh] at h; cases h)⟩
def rdIf (G : Gx) (C : Call) (c : Option E) : TT := fun σ H Q => rd G wx0 eqRl (fun base ρ st => evT C base c ρ st) σ H Q
theorem s_if0 {X : Cx} : PTs X [] (rdIf G C none) := ⟨fun pins s σ H Q I q => pts_nil.run pins s σ H Q I (rd_here (rel := eqRl) q fun _ _ => rfl)⟩
theorem s_if1 {X : Cx} {e : E} {p : Expr} (h : PT X p (rdT G C wx0 e)) : PTs X [p] (rdIf G C (some e)) := pts_one h
theorem ownB_ok (o : Xok G T N C lv Wx sc X) (hh : T.hot = false) {scope : Scope} {own : List Nat} {i : Nat} {x : Str} {pos : Pos} {s : Shared} {H : Hp} {Cc : Addr} {cl : List (Str × Addr)} {fp : List Addr} (h : ownB N scope (relS scope sc) own i x = true) :
    PG (X.blk s H scope (compEnvC scope cl Cc X.env) fp) (.Name x pos) (gName i) ∧ i ∈ own := by
  obtain ⟨h1, h2⟩ := and2 h
  obtain ⟨h2, h3⟩ := and2 h2
  have o' := blk_ok (s := s) (H := H) (scope := scope) (Cc := Cc) (cl := cl) (fp := fp) o hh
  have hi : N[i]? = some x := by
    split at h1
    · rename_i e
      rw [e, of_decide_eq_true h1]
    · cases h1
  refine ⟨?_, of_decide_eq_true h3⟩
  have hx : L2.Loc (relS scope sc) x ∧ ((scope.names.lookup x == some .cell) = true ∨ (relS scope sc).names.lookup x = some .local) := by
    unfold locC at h2
    split at h2
    · rename_i e
      exact ⟨.inl e, .inr e⟩
    · rename_i e
      split at h2
      · rename_i e2
        exact ⟨.inr e, .inl (by rw [e2]; rfl)⟩
      · cases h2
    · cases h2
  refine pg_name (X := X.blk s H scope (compEnvC scope cl Cc X.env) fp) (by rw [o'.hN]; exact o.nd) (by rw [o'.hN]; exact hi) (by rw [o'.hsc]; exact hx.1) ?_
  rcases hx.2 with z | z
  · exact .inl z
  · exact .inr (by rw [o'.hsc]; exact z)
theorem each_len {es : List Expr} {env : Env} {is : List Nat} {scope rel : Scope} {own : List Nat} (h : chkTns N scope rel own is es = true) : (assignEach es env).length = is.length ∧ (assignEach es env).findIdx? (·.1) = none := by
  induction es generalizing is with
  | nil => cases is with
    | nil => exact ⟨rfl, rfl⟩
    | cons _ _ => cases h
  | cons e es ih =>
    cases is with
    | nil => cases h
    | cons i is =>
      cases e with
      | Name x pos =>
        obtain ⟨_, h2⟩ := and2 (show (ownB N scope rel own i x && chkTns N scope rel own is es) = true from h)
        obtain ⟨h3, h4⟩ := ih h2
        have e1 : assignEach (.Name x pos :: es) env = (false, assign (.Name x pos) env) :: assignEach es env := rfl
        rw [e1]
        refine ⟨by rw [List.length_cons, List.length_cons, h3], ?_⟩
        rw [List.findIdx?_cons, h4]; rfl
      | _ => cases h
theorem tns_ok (o : Xok G T N C lv Wx sc X) (hh : T.hot = false) {scope : Scope} {own : List Nat} {s : Shared} {H : Hp} {Cc : Addr} {cl : List (Str × Addr)} {fp : List Addr} : ∀ {is : List Nat} {ps : List Expr}, chkTns N scope (relS scope sc) own is ps = true →
    PGs (X.blk s H scope (compEnvC scope cl Cc X.env) fp) ps (gNames is) ∧ ∀ i ∈ is, i ∈ own
  | [], [], _ => ⟨pgs_nil, fun _ h => by cases h⟩
  | [], _ :: _, h => by cases h
  | _ :: _, [], h => by cases h
  | i :: is, p :: ps, h => by
    cases p with
    | Name x pos =>
      obtain ⟨h1, h2⟩ := and2 (show (ownB N scope (relS scope sc) own i x && chkTns N scope (relS scope sc) own is ps) = true from h)
      obtain ⟨a1, a2⟩ := ownB_ok (pos := pos) (s := s) (H := H) (Cc := Cc) (cl := cl) (fp := fp) o hh h1
      obtain ⟨b1, b2⟩ := tns_ok o hh h2
      refine ⟨pgs_cons a1 b1 rfl, fun j hj => ?_⟩
      rcases List.mem_cons.mp hj with rfl | hj
      · exact a2
      · exact b2 j hj
    | _ => cases h
theorem tn_pg (o : Xok G T N C lv Wx sc X) (hh : T.hot = false) {scope : Scope} {own : List Nat} {t : Tn} {tg : Expr} {s : Shared} {H : Hp} {Cc : Addr} {cl : List (Str × Addr)} {fp : List Addr} (h : chkTn N scope (relS scope sc) own t tg = true) :
    PG (X.blk s H scope (compEnvC scope cl Cc X.env) fp) tg (rdTn X.K t) ∧ ∀ i ∈ tnOf t, i ∈ own := by
  cases t with
  | nm i => cases tg with
    | Name x pos =>
      obtain ⟨a1, a2⟩ := ownB_ok (pos := pos) (s := s) (H := H) (Cc := Cc) (cl := cl) (fp := fp) o hh h
      exact ⟨a1, fun j hj => by rw [show j = i by simpa [tnOf] using hj]; exact a2⟩
    | _ => cases h
  | tup is => cases tg with
    | Tuple ps k pos =>
      have h' : chkTns N scope (relS scope sc) own is ps = true := h
      obtain ⟨a1, a2⟩ := tns_ok (s := s) (H := H) (Cc := Cc) (cl := cl) (fp := fp) o hh h'
      obtain ⟨l1, l2⟩ := each_len (env := (X.blk s H scope (compEnvC scope cl Cc X.env) fp).env) h'
      exact ⟨pg_tup (X := X.blk s H scope (compEnvC scope cl Cc X.env) fp) (o.calm hh) a1 l1 l2, a2⟩
    | _ => cases h
theorem tn_sub {scope rel : Scope} {own : List Nat} {t : Tn} {tg : Expr} (h : chkTn N scope rel own t tg = true) : ∀ i ∈ tnOf t, i ∈ own := by
  have one : ∀ {i : Nat} {x : Str}, ownB N scope rel own i x = true → i ∈ own := fun h => of_decide_eq_true (and2 (and2 h).2).2
  have many : ∀ {is : List Nat} {ps : List Expr}, chkTns N scope rel own is ps = true → ∀ i ∈ is, i ∈ own := by
    intro is
    induction is with
    | nil => intro _ _ i h; cases h
    | cons i is ih =>
      intro ps h
      cases ps with
      | nil => cases h
      | cons p ps => cases p with
        | Name x pos =>
          obtain ⟨h1, h2⟩ := and2 (show (ownB N scope rel own i x && chkTns N scope rel own is ps) = true from h)
          intro j hj
          rcases List.mem_cons.mp hj with rfl | hj
          · exact one h1
          · exact ih h2 j hj
        | _ => cases h
  cases t with
  | nm i => cases tg with
    | Name x pos => exact fun j hj => by rw [show j = i by simpa [tnOf] using hj]; exact one h
    | _ => cases h
  | tup is => cases tg with
    | Tuple ps k pos => exact many h
    | _ => cases h
/-- one turn -/
def turnF (C : Call) (base : Nat) (own : List Nat) (t : Tn) (c : Option E) (e : E) (ρ : En) (x : D) (st : Sto) : R (Option D) := match putN t x (wipeE ρ own) with
  | some ρ' => (evT C base c ρ' st).bind fun k st => if k then (evE C base e ρ' st).bind fun y st => .ok (some y) st else .ok none st
  | none => .bad
/-- the walk of a comprehension whose items are known -/
theorem comp_core (o : Xok G T N C lv Wx sc X) {bx : Bool} {own : List Nat} {t : Tn} {c : Option E} {e : E} {J : It} {items : List Rf.D} {keep : Sto → Bool} {P : Wd → Nat → Hp → Prop} {Gd : Hp → Prop} {Y : Nat → Hp → V → Hp → Prop} {ρ : En} {H1 : Hp} {Q : VK}
    (hsub : ∀ i ∈ tnOf t, i ∈ own) (src : Src G J items P Gd Y) (r : RS G bd base W H1 st) (en : EnR G W st.length H1 ρ σ) (hP : P W st.length H1)
    (q : Ans (DV G) G bd base Wx σ W H1 st (match compD (turnF C base own t c e ρ) keep items st with
      | .ok ys st => mkL bx ys st
      | _ => .bad) Q) (D : Addr) (hD : H1 D = none) :
    ∃ Wv : Nat → Nat → Hp → Prop, (∃ m, Wv 0 m (upd H1 D (.lst []))) ∧ ∀ i m H, Wv i m H →
      (J.stop i H ∧ Q (.ref D) H) ∨ (J.go i H ∧ ∃ Nx : Hp → Prop, (∀ H', Nx H' → ∃ m', m' < m ∧ Wv (i + 1) m' H') ∧ ∀ x H', J.yld i H x H' → rdTn X.K t x (L2.wipe σ own) H' fun σ2 H2 => L2.wipe σ2 own = L2.wipe σ own ∧ rdIf G C c σ2 H2 fun b H3 =>
        if b = true then rdE G C wx0 e σ2 H3 fun y H4 => ∃ acc, H4 D = some (.lst acc) ∧ acc.length < sizeLine ∧ Nx (upd H4 D (.lst (acc ++ [y]))) else Nx H3) := by
  cases e0 : compD (turnF C base own t c e ρ) keep items st with
  | exc _ _ => rw [e0] at q; exact q.elim
  | bad => rw [e0] at q; exact q.elim
  | ok ys stf =>
  rw [e0] at q
  have qL : Ans (DV G) G bd base Wx σ W H1 st (mkL bx ys stf) Q := q
  have hlen : ys.length ≤ SL := by
    unfold mkL at qL
    split at qL
    · assumption
    · exact qL.elim
  obtain ⟨ex0, rs0⟩ := alloc_any r hD (.lst [])
  have own0 : Own G W (upd H1 D (.lst [])) st D [] := by
    refine ⟨upd_same, fun k hk z => ?_, fun z => ?_⟩
    · obtain ⟨u, h1, _⟩ := r.some hk
      rw [z, hD] at h1; cases h1
    · obtain ⟨u, h1⟩ := r.fH _ z
      rw [hD] at h1; cases h1
  refine lc_it src.walk (fun i H' => ∃ (W' : Wd) (st' : Sto) (acc : List Rf.D) (xs : List V) (ys' : List Rf.D), Post G bd base W H1 st W' H' st' ∧ Own G W' H' st' D xs ∧ DVs G W' st'.length H' acc xs ∧ P W' st'.length H' ∧ EnR G W' st'.length H' ρ σ ∧
    compD (turnF C base own t c e ρ) keep (items.drop i) st' = .ok ys' stf ∧ ys = acc ++ ys') ?_ ?_ ?_ ?_
  · exact ⟨W, st, [], [], ys, ⟨ex0, rs0⟩, own0, rfl, src.keep r ⟨ex0, rs0⟩ hP, en.post ⟨ex0, rs0⟩ r, by rw [List.drop_zero]; exact e0, rfl⟩
  · rintro i H' _ ⟨W', st', acc, xs, ys', p, w, hd, hp, en', _⟩
    exact src.good _ _ _ hp
  · rintro i x H2 H3 hlt ⟨W', st', acc, xs, ys', p, w, hd, hp, en', e1, e2⟩ hy
    have hx : items[i]? = some items[i] := List.getElem?_eq_getElem hlt
    obtain ⟨p2, dx⟩ := src.item p.rs hp hx hy
    rw [List.drop_eq_getElem_cons hlt] at e1
    have e1' : (if keep st' then (match turnF C base own t c e ρ items[i] st' with
      | .ok y st => (match compD (turnF C base own t c e ρ) keep (items.drop (i + 1)) st with
        | .ok ys st => .ok (match y with | some y => y :: ys | none => ys) st
        | _ => .bad)
      | _ => .bad) else R.bad) = .ok ys' stf := e1
    split at e1'
    rotate_left
    · cases e1'
    cases e3 : turnF C base own t c e ρ items[i] st' with
    | exc _ _ => rw [e3] at e1'; cases e1'
    | bad => rw [e3] at e1'; cases e1'
    | ok oy st1 =>
    rw [e3] at e1'
    dsimp only at e1'
    cases e4 : compD (turnF C base own t c e ρ) keep (items.drop (i + 1)) st1 with
    | exc _ _ => rw [e4] at e1'; cases e1'
    | bad => rw [e4] at e1'; cases e1'
    | ok ys2 st2 =>
    rw [e4] at e1'
    dsimp only at e1'
    injection e1' with e5 e6
    subst e6
    unfold turnF at e3
    cases e7 : putN t items[i] (wipeE ρ own) with
    | none => rw [e7] at e3; cases e3
    | some ρ' =>
    rw [e7] at e3
    dsimp only at e3
    refine tn_ok o.K (vs := own) e7 dx ((en'.post p2 p.rs).wipe own) fun σ2 en2 hw => ⟨?_, ?_⟩
    · rw [hw hsub]
      have : ∀ (vs ws : List Nat) (σ : L2.St), (∀ v ∈ vs, v ∈ ws) → L2.wipe (L2.wipe σ vs) ws = L2.wipe σ ws := by
        intro vs
        induction vs with
        | nil => intro ws σ _; rfl
        | cons v vs ih =>
          intro ws σ hv
          show L2.wipe ((L2.wipe σ vs).set v none) ws = _
          rw [wipe_set (hv v List.mem_cons_self)]
          exact ih ws σ fun u hu => hv u (List.mem_cons_of_mem _ hu)
      exact this own own σ fun _ h => h
    · cases e8 : evT C base c ρ' st' with
      | exc _ _ => rw [e8] at e3; cases e3
      | bad => rw [e8] at e3; cases e3
      | ok k stc =>
      rw [e8] at e3
      have e3' : (if k then (evE C base e ρ' stc).bind fun y st => .ok (some y) st else R.ok none stc) = .ok oy st1 := e3
      refine ⟨W', bd, base, ρ', st', p2.rs, en2, ?_⟩
      dsimp only
      rw [e8]
      intro k' W3 H4 p3 hk
      have hk' : k = k' := hk
      subst hk'
      cases k with
      | false =>
        rw [if_neg Bool.false_ne_true] at e3' ⊢
        injection e3' with e9 e10
        subst e9 e10
        have w3 := (w.post p2).post p3
        refine ⟨W3, stc, acc, xs, ys2, (p.trans p2).trans p3, w3, p3.dvs p2.rs (p2.dvs p.rs hd), src.keep p2.rs p3 (src.keep p.rs p2 hp), (en'.post p2 p.rs).post p3 p2.rs, e4, ?_⟩
        rw [e2, ← e5]
      | true =>
        rw [if_pos rfl] at e3' ⊢
        cases e9 : evE C base e ρ' stc with
        | exc _ _ => rw [e9] at e3'; cases e3'
        | bad => rw [e9] at e3'; cases e3'
        | ok y sty =>
        rw [e9] at e3'
        injection e3' with e10 e11
        subst e10 e11
        refine ⟨W3, bd, base, ρ', stc, p3.rs, en2.post p3 p2.rs, ?_⟩
        dsimp only
        rw [e9]
        intro v W4 H5 p4 dy
        have pa := ((p.trans p2).trans p3).trans p4
        have w4 := ((w.post p2).post p3).post p4
        have hd4 := p4.dvs p3.rs (p3.dvs p2.rs (p2.dvs p.rs hd))
        refine ⟨xs, w4.at_, ?_, ?_⟩
        · rw [hd4.len, ← SL_eq]
          rw [e2, ← e5] at hlen
          simp only [List.length_append, List.length_cons] at hlen
          omega
        · obtain ⟨pw, ww⟩ := w4.write (ys := xs ++ [v]) pa hD
          refine ⟨W4, sty, acc ++ [y], xs ++ [v], ys2, pw, ww, w4.chgs (DVs.app hd4 ⟨v, [], rfl, dy, rfl⟩), src.chg w4 (src.keep p3.rs p4 (src.keep p2.rs p3 (src.keep p.rs p2 hp))), ?_, e4, ?_⟩
          · have en4 := ((en'.post p2 p.rs).post p3 p2.rs).post p4 p3.rs
            exact w4.en en4
          · rw [e2, ← e5, List.append_assoc]; rfl
  · rintro H' ⟨W', st', acc, xs, ys', p, w, hd, hp, en', e1, e2⟩
    rw [List.drop_length] at e1
    have e1' : (if keep st' then R.ok ([] : List Rf.D) st' else .bad) = .ok ys' stf := e1
    split at e1'
    · injection e1' with e3 e4
      subst e3 e4
      rw [List.append_nil] at e2
      subst e2
      unfold mkL at qL
      rw [if_pos hlen] at qL
      cases bx with
      | true =>
        refine qL (.ref D) _ H' (w.adopt_ob p hD hd) ⟨?_, by simp⟩
        show V.ref D = V.ref (if st'.length = st'.length then D else _)
        rw [if_pos rfl]
      | false =>
        exact qL (.ref D) _ H' (w.adopt_frz p hD) ⟨D, xs, rfl, .inr rfl, w.at_, DVs.wm (W := W') (W' := ⟨W'.m, fun a => W'.F a ∨ a = D⟩) (fun _ h => .inl h) (fun _ _ => rfl) (Nat.le_refl _) hd⟩
    · cases e1'
theorem comp_rd (o : Xok G T N C lv Wx sc X) {bx : Bool} {own : List Nat} {t : Tn} {it : I} {c : Option E} {e : E} {Q : VK} (hsub : ∀ i ∈ tnOf t, i ∈ own) (q : rdE G C Wx (.comp bx own t it c e) σ H Q) : tLc (rdI G C Wx it) (rdTn X.K t) (rdIf G C c) (rdE G C wx0 e) own σ H Q := by
  have q' : rd G Wx (DV G) (fun base ρ st => (evI C base it ρ st).bind fun p st => match compD (turnF C base own t c e ρ) p.2 p.1 st with
    | .ok ys st => mkL bx ys st
    | _ => .bad) σ H Q := q
  obtain ⟨W, bd, base, ρ, st, r, en, q⟩ := rd.bind (rel := SrcOk G) q'
  refine ⟨W, bd, base, ρ, st, r, en, q.mono ?_⟩
  rintro J H1 ⟨W, bd, base, ρ, st, d, r, en, ⟨P, Gd, Y, src, hP⟩, q⟩ D hD
  exact comp_core o hsub src r en hP q D hD
theorem s_comp (o : Xok G T N C lv Wx sc X) (hh : T.hot = false) {bx : Bool} {own : List Nat} {t : Tn} {it : I} {c : Option E} {e : E} {pe tg pit : Expr} {ifs : List Expr} {scope : Scope} {pos : Pos} (hb : blkC N sc scope (own.map fun i => (N.getD i (Str.ofString ""), i)) = true)
    (hi : PI X tg pit (rdI G C Wx it)) (hset : noSet pit = true) (ht : chkTn N scope (relS scope sc) own t tg = true)
    (hc : ∀ X', Xok G T N C lv wx0 (relS scope sc) X' → PTs X' ifs (rdIf G C c)) (he : ∀ X', Xok G T N C lv wx0 (relS scope sc) X' → PE X' pe (rdE G C wx0 e)) :
    PE X (.ListComp pe [⟨tg, pit, ifs, 0⟩] scope pos) (rdE G C Wx (.comp bx own t it c e)) := by
  have hown : (own.map fun i => (N.getD i (Str.ofString ""), i)).map (·.2) = own := by rw [List.map_map]; exact List.map_id' _
  have hsub : ∀ i ∈ tnOf t, i ∈ own := tn_sub ht
  have bk : BlkOk X.N X.env.scope scope (own.map fun i => (N.getD i (Str.ofString ""), i)) := by rw [o.hN, o.hsc]; exact blkOk_by hb
  have P0 := pe_lc (pos := pos) (o.calm hh) (by rw [o.hN]; exact o.nd) hi bk (fun s H Cc cl fp => (tn_pg (s := s) (H := H) (Cc := Cc) (cl := cl) (fp := fp) o hh ht).1) (fun s H Cc cl fp => hc _ (blk_ok o hh)) (fun s H Cc cl fp => he _ (blk_ok o hh)) (fun x => by cases pit <;> first | rfl | cases hset)
  rw [hown] at P0
  exact PE.weak P0 fun σ H Q q => comp_rd o hsub q
/-! ### locked dicts -/
theorem PE.or {X : Cx} {e : Expr} {t u : TE} (h : PE X e t) (g : PE X e u) : PE X e (fun σ H Q => t σ H Q ∨ u σ H Q) := ⟨fun pins s σ H Q I q => q.elim (h.run pins s σ H Q I) (g.run pins s σ H Q I)⟩
/-- only dicts have changed, and to a reader not even these -/
structure Rdk (W : Wd) (H H' : Hp) : Prop where
  n : ∀ a u, H a = some u → (∀ kvs, u ≠ .dK kvs) → (∀ o kvs, u ≠ .frz o (.dK kvs)) → H' a = some u
  d : ∀ a kvs, W.F a → Rd H a (.dK kvs) → Rd H' a (.dK kvs)
mutual
theorem DV.rdk (h0 : Rdk W H H') : ∀ {d : D} {v : V}, DV G W n H d v → DV G W n H' d v
  | .non, _, h => h
  | .bl _, _, h => h
  | .int _, _, h => h
  | .str _, _, h => h
  | .tup ds, v, h => by
    obtain ⟨a, xs, e1, hs, hd⟩ := h
    refine ⟨a, xs, e1, ?_, DVs.rdk h0 hd⟩
    rcases hs with (hs | ⟨o, hs⟩) | hs
    · exact .inl (.inl (h0.n _ _ hs (by simp) (by simp)))
    · exact .inl (.inr ⟨o, h0.n _ _ hs (by simp) (by simp)⟩)
    · exact .inr hs
  | .lst ds, v, h => by
    obtain ⟨a, xs, e1, f, hH, hd⟩ := h
    exact ⟨a, xs, e1, f, h0.n _ _ hH (by simp) (by simp), DVs.rdk h0 hd⟩
  | .frz ds, v, h => by
    obtain ⟨a, xs, e1, hs, hd⟩ := h
    refine ⟨a, xs, e1, ?_, DVs.rdk h0 hd⟩
    rcases hs with ⟨hs | ⟨o, hs⟩, q⟩ | hs
    · exact .inl ⟨.inl (h0.n _ _ hs (by simp) (by simp)), q⟩
    · exact .inl ⟨.inr ⟨o, h0.n _ _ hs (by simp) (by simp)⟩, q⟩
    · exact .inr hs
  | .dct ks vs, v, h => by
    obtain ⟨a, kvs, e1, f, hR, hk, hd⟩ := h
    exact ⟨a, kvs, e1, f, h0.d _ _ f hR, hk, DVs.rdk h0 hd⟩
  | .ref k, v, h => h
  | .fn f, v, h => h
  | .met k f, v, h => by
    obtain ⟨p, e1, hH, hk, f⟩ := h
    exact ⟨p, e1, h0.n _ _ hH (by simp) (by simp), hk, f⟩
  | .exc _ _, _, h => h.elim
  | .exv c ds, v, h => by
    obtain ⟨vs, h1, h2⟩ := h
    exact ⟨vs, h1.map (fun _ f => f) fun a o f ⟨φ, x⟩ e => h0.n a o e (by rw [x]; simp) (by rw [x]; simp), DVs.rdk h0 h2⟩
theorem DVs.rdk (h0 : Rdk W H H') : ∀ {ds : List D} {xs : List V}, DVs G W n H ds xs → DVs G W n H' ds xs
  | [], _, h => h
  | d :: ds, xs, h => by
    obtain ⟨y, ys, e1, h1, h2⟩ := h
    exact ⟨y, ys, e1, DV.rdk h0 h1, DVs.rdk h0 h2⟩
end
theorem obR.rdk {k : Nat} {ob : Ob} (h0 : Rdk W H H') (hk : ob ≠ .dead → H' (W.m k) = H (W.m k)) (h : obR G W H n k ob) : obR G W H' n k ob := by
  cases ob with
  | lst ds =>
    obtain ⟨xs, h1, h2⟩ := h
    exact ⟨xs, (hk (by simp)).trans h1, DVs.rdk h0 h2⟩
  | dct ks vs =>
    obtain ⟨xs, h1, h2, h3⟩ := h
    exact ⟨xs, (hk (by simp)).trans h1, h2, DVs.rdk h0 h3⟩
  | ins c fs =>
    obtain ⟨dx, gs, h1, h2, h3⟩ := h
    exact ⟨dx, gs, (hk (by simp)).trans h1, h2, DVs.rdk h0 h3⟩
  | dead => trivial
theorem rdk_lock {a : Addr} {od : Obj} {kvs : List (Key × V)} (h : H a = some (.dK kvs)) : Rdk W H (upd H a (.frz od (.dK kvs))) := by
  refine ⟨fun b u e h1 h2 => ?_, fun b ks f e => ?_⟩
  · rw [upd_ne (fun z => by rw [z, h] at e; cases e; exact h1 _ rfl)]; exact e
  · by_cases q : b = a
    · subst q
      rcases e with e | ⟨o, e⟩
      · rw [h] at e; cases e
        exact .inr ⟨od, upd_same⟩
      · rw [h] at e; cases e
    · rcases e with e | ⟨o, e⟩
      · exact .inl (by rw [upd_ne q]; exact e)
      · exact .inr ⟨o, by rw [upd_ne q]; exact e⟩
theorem rdk_unlock {a : Addr} {od : Obj} {kvs : List (Key × V)} (h : H a = some (.frz od (.dK kvs))) : Rdk W H (upd H a (.dK kvs)) := by
  refine ⟨fun b u e h1 h2 => ?_, fun b ks f e => ?_⟩
  · rw [upd_ne (fun z => by rw [z, h] at e; cases e; exact h2 _ _ rfl)]; exact e
  · by_cases q : b = a
    · subst q
      rcases e with e | ⟨o, e⟩
      · rw [h] at e; cases e
      · rw [h] at e; cases e
        exact .inl upd_same
    · rcases e with e | ⟨o, e⟩
      · exact .inl (by rw [upd_ne q]; exact e)
      · exact .inr ⟨o, by rw [upd_ne q]; exact e⟩
theorem RS.rdk {a : Addr} {u : HO} (r : RS G bd base W H st) (h0 : Rdk W H (upd H a u)) (f : W.F a) : RS G bd base W (upd H a u) st := by
  refine ⟨fun k ob e => obR.rdk h0 (fun nd => upd_ne fun z => r.fF k (live_of e nd) (by rw [z]; exact f)) (r.obj k ob e), r.inj, r.fF, fun b h => ?_, r.bdl, r.bl⟩
  by_cases q : b = a
  · exact ⟨u, by rw [q]; exact upd_same⟩
  · obtain ⟨o, e⟩ := r.fH b h
    exact ⟨o, by rw [upd_ne q]; exact e⟩
theorem EnR.rdk {ρ : En} (h0 : Rdk W H H') (en : EnR G W n H ρ σ) : EnR G W n H' ρ σ := EnR.map (fun h => DV.rdk h0 h) (fun h => DVs.rdk h0 h) (fun _ h => h) (fun a fs f e => h0.n _ _ e (by simp) (by simp)) en
theorem post_lock {a : Addr} {od : Obj} {kvs : List (Key × V)} (r : RS G bd base W H st) (f : W.F a) (h : H a = some (.dK kvs)) (p : Post G bd base W (upd H a (.frz od (.dK kvs))) st W' H' st') :
    H' a = some (.frz od (.dK kvs)) ∧ Post G bd base W H st W' (upd H' a (.dK kvs)) st' := by
  have r1 := r.rdk (rdk_lock (W := W) (od := od) h) f
  have ha : H' a = some (.frz od (.dK kvs)) := F.keep p.ext r1 f upd_same
  have f' := p.ext.F a f
  refine ⟨ha, ⟨fun b o e hk => ?_, p.ext.F, p.ext.m, p.ext.dd, fun k hk hl => ?_, fun b e => ?_, p.ext.len, fun b hb => ?_⟩, p.rs.rdk (rdk_unlock ha) f'⟩
  · by_cases q : b = a
    · subst q
      rw [h] at e; cases e
      exact upd_same
    · rw [upd_ne q]
      exact p.ext.fr b o (by rw [upd_ne q]; exact e) hk
  · have z := p.ext.nw k hk hl
    by_cases q : W'.m k = a
    · exact absurd f' (by rw [← q]; exact p.rs.fF k hl)
    · rw [upd_ne q] at z; exact z
  · by_cases q : b = a
    · rw [q, upd_same]; simp
    · rw [upd_ne q]
      exact p.ext.tr b (by rw [upd_ne q]; exact e)
  · rcases p.ext.nF b hb with z | z | z
    · exact .inl z
    · by_cases q : b = a
      · rw [q] at hb ⊢; exact .inl f
      · rw [upd_ne q] at z; exact .inr (.inl z)
    · exact .inr (.inr z)
theorem ans_lock {a : Addr} {od : Obj} {kvs : List (Key × V)} {rr : R Rf.D} {Q : VK} (r : RS G bd base W H st) (f : W.F a) (h : H a = some (.dK kvs)) (hx : ∀ d st, rr ≠ .exc d st) (q : Ans (DV G) G bd base Wx σ W H st rr Q) :
    Ans (DV G) G bd base Wx σ W (upd H a (.frz od (.dK kvs))) st rr fun v H' => H' a = some (.frz od (.dK kvs)) ∧ Q v (upd H' a (.dK kvs)) := by
  cases rr with
  | ok d st' =>
    intro v W' H' p dv
    obtain ⟨ha, p2⟩ := post_lock r f h p
    exact ⟨ha, q v W' _ p2 (DV.rdk (rdk_unlock ha) dv)⟩
  | exc d st' => exact absurd rfl (hx d st')
  | bad => exact q
theorem kV_ok (k : Ky) : DV G W n H (ofKey k) (kV (kyR k)) := by cases k <;> rfl
theorem src_keys {a : Addr} {od : Obj} {kvs : List (Key × V)} {ks : List Ky} (hk : kvs.map (·.1) = ks.map kyR) : Src G (Itk a od kvs) (ks.map ofKey) (fun W n H => W.F a ∧ H a = some (.frz od (.dK kvs))) (fun H => H a = some (.frz od (.dK kvs))) (fun i H x H' => H' = H ∧ ∃ k v, kvs[i]? = some (k, v) ∧ x = kV k) := by
  have hl : kvs.length = (ks.map ofKey).length := by
    have := congrArg List.length hk
    simpa using this
  refine ⟨by rw [← hl]; exact walk_keys, fun W n H p => p.2, fun r p s => ⟨p.ext.F _ s.1, F.keep p.ext r s.1 s.2⟩, fun o s => ⟨s.1, by rw [upd_ne fun z => o.nF (by rw [← z]; exact s.1)]; exact s.2⟩, fun {_ _ W H H' st i x d} r s hi hy => ?_⟩
  obtain ⟨e, k, v, e1, e2⟩ := hy
  subst e e2
  refine ⟨Post.refl r, ?_⟩
  rw [List.getElem?_map] at hi
  cases q : ks[i]? with
  | none => rw [q] at hi; cases hi
  | some ky =>
    rw [q] at hi
    cases hi
    have z := congrArg (fun l => l[i]?) hk
    simp only [List.getElem?_map, e1, q, Option.map_some, Option.some.injEq] at z
    rw [z]
    exact kV_ok ky
theorem compk_rd (o : Xok G T N C lv Wx sc X) {bx : Bool} {own : List Nat} {t : Tn} {i : Nat} {c : Option E} {e : E} {Q : VK} (hsub : ∀ i ∈ tnOf t, i ∈ own) (q : rdE G C Wx (.comp bx own t (.keys i) c e) σ H Q) :
    tLockE (tLc (iKeys (tVar i)) (rdTn X.K t) (rdIf G C c) (rdE G C wx0 e) own) σ H Q ∨ tLc (iKeys (tVar i)) (rdTn X.K t) (rdIf G C c) (rdE G C wx0 e) own σ H Q := by
  obtain ⟨W, bd, base, ρ, st, r, en, q⟩ := q
  have q' : Ans (DV G) G bd base Wx σ W H st ((show R (List Rf.D × (Sto → Bool)) from match getV ρ i with
    | some (.dct ks _) => R.ok (ks.map ofKey, fun (_ : Sto) => true) st
    | _ => .bad).bind fun (p : List Rf.D × (Sto → Bool)) st => match compD (turnF C base own t c e ρ) p.2 p.1 st with
    | .ok ys st => mkL bx ys st
    | _ => .bad) Q := q
  cases eg : getV ρ i with
  | none => rw [eg] at q'; exact q'.elim
  | some d => cases d with
    | dct ks vs =>
      rw [eg] at q'
      have q2 : Ans (DV G) G bd base Wx σ W H st (match compD (turnF C base own t c e ρ) (fun _ => true) (ks.map ofKey) st with
        | .ok ys st => mkL bx ys st
        | _ => .bad) Q := q'
      obtain ⟨v, hv, dv⟩ := en.2 i _ (getV_ok eg).1
      obtain ⟨a, kvs, rfl, f, hR, hk, hd⟩ := dv
      rcases hR with hR | ⟨o', hR⟩
      · refine .inl ⟨a, .dK kvs, hR, trivial, fun od => ⟨.ref a, hv, a, od, rfl, .inl ⟨kvs, upd_same, fun D hD => ?_⟩⟩⟩
        have h0 := rdk_lock (W := W) (od := od) hR
        refine comp_core o hsub (src_keys hk) (r.rdk h0 f) (en.rdk h0) ⟨f, upd_same⟩ (ans_lock r f hR (fun d st' z => ?_) q2) D hD
        cases e1 : compD (turnF C base own t c e ρ) (fun _ => true) (ks.map ofKey) st with
        | ok ys st2 =>
          rw [e1] at z
          have z' : mkL bx ys st2 = .exc d st' := z
          unfold mkL at z'
          split at z'
          · cases bx <;> cases z'
          · cases z'
        | exc _ _ => rw [e1] at z; cases z
        | bad => rw [e1] at z; cases z
      · exact .inr ⟨.ref a, hv, a, o', rfl, .inl ⟨kvs, hR, fun D hD => comp_core o hsub (src_keys hk) r en ⟨f, hR⟩ q2 D hD⟩⟩
    | _ => rw [eg] at q'; exact q'.elim
theorem s_compk (o : Xok G T N C lv Wx sc X) (hh : T.hot = false) {bx : Bool} {own : List Nat} {t : Tn} {i : Nat} {y : Str} {c : Option E} {e : E} {pe tg : Expr} {ifs : List Expr} {scope : Scope} {pos p0 : Pos} (hb : blkC N sc scope (own.map fun i => (N.getD i (Str.ofString ""), i)) = true)
    (hv : varB N sc i y = true) (ht : chkTn N scope (relS scope sc) own t tg = true)
    (hc : ∀ X', Xok G T N C lv wx0 (relS scope sc) X' → PTs X' ifs (rdIf G C c)) (he : ∀ X', Xok G T N C lv wx0 (relS scope sc) X' → PE X' pe (rdE G C wx0 e)) :
    PE X (.ListComp pe [⟨tg, .Name y p0, ifs, 0⟩] scope pos) (rdE G C Wx (.comp bx own t (.keys i) c e)) := by
  obtain ⟨h1, h2, h3, h4⟩ := varB_ok o hv
  have hown : (own.map fun i => (N.getD i (Str.ofString ""), i)).map (·.2) = own := by rw [List.map_map]; exact List.map_id' _
  have hsub : ∀ i ∈ tnOf t, i ∈ own := tn_sub ht
  have bk : BlkOk X.N X.env.scope scope (own.map fun i => (N.getD i (Str.ofString ""), i)) := by rw [o.hN, o.hsc]; exact blkOk_by hb
  have P0 := pe_lc (pos := pos) (o.calm hh) (by rw [o.hN]; exact o.nd) (pi_keys (tg := tg) (pe_var (pos := p0) h1 h2 h3 h4)) bk (fun s H Cc cl fp => (tn_pg (s := s) (H := H) (Cc := Cc) (cl := cl) (fp := fp) o hh ht).1) (fun s H Cc cl fp => hc _ (blk_ok o hh)) (fun s H Cc cl fp => he _ (blk_ok o hh)) (fun x => rfl)
  rw [hown] at P0
  exact PE.weak (PE.or (pe_lock P0) P0) fun σ H Q q => compk_rd o hsub q
/-! ### two clauses -/
def turn2F (C : Call) (base : Nat) (own own2 : List Nat) (t : Tn) (c : Option E) (t2 : Tn) (it2 : I) (c2 : Option E) (e : E) (ρ : En) (x : D) (st : Sto) : R (List D) := match putN t x (wipeE ρ own) with
  | some ρ' => (evT C base c ρ' st).bind fun k st => if k then (evI C base it2 ρ' st).bind fun p2 st => compD (turnF C base own2 t2 c2 e ρ') p2.2 p2.1 st else .ok [] st
  | none => .bad
theorem wipe_self (own : List Nat) (σ : L2.St) : L2.wipe (L2.wipe σ own) own = L2.wipe σ own := by
  have : ∀ (vs ws : List Nat) (σ : L2.St), (∀ v ∈ vs, v ∈ ws) → L2.wipe (L2.wipe σ vs) ws = L2.wipe σ ws := by
    intro vs
    induction vs with
    | nil => intro ws σ _; rfl
    | cons v vs ih =>
      intro ws σ hv
      show L2.wipe ((L2.wipe σ vs).set v none) ws = _
      rw [wipe_set (hv v List.mem_cons_self)]
      exact ih ws σ fun u hu => hv u (List.mem_cons_of_mem _ hu)
  exact this own own σ fun _ h => h
theorem comp2_core (o : Xok G T N C lv Wx sc X) {bx : Bool} {own own2 : List Nat} {t t2 : Tn} {c c2 : Option E} {it2 : I} {e : E} {J : It} {items : List Rf.D} {keep : Sto → Bool} {P : Wd → Nat → Hp → Prop} {Gd : Hp → Prop} {Y : Nat → Hp → V → Hp → Prop} {ρ : En} {H1 : Hp} {Q : VK}
    (hsub : ∀ i ∈ tnOf t, i ∈ own) (hsub2 : ∀ i ∈ tnOf t2, i ∈ own2) (src : Src G J items P Gd Y) (r : RS G bd base W H1 st) (en : EnR G W st.length H1 ρ σ) (hP : P W st.length H1)
    (q : Ans (DV G) G bd base Wx σ W H1 st (match compDD (turn2F C base own own2 t c t2 it2 c2 e ρ) keep items st with
      | .ok ys st => mkL bx ys st
      | _ => .bad) Q) (D : Addr) (hD : H1 D = none) :
    ∃ Wv : Nat → Nat → Hp → Prop, (∃ m, Wv 0 m (upd H1 D (.lst []))) ∧ ∀ i m H, Wv i m H →
      (J.stop i H ∧ Q (.ref D) H) ∨ (J.go i H ∧ ∃ Nx : Hp → Prop, (∀ H', Nx H' → ∃ m', m' < m ∧ Wv (i + 1) m' H') ∧ ∀ x H', J.yld i H x H' → rdTn X.K t x (L2.wipe σ own) H' fun σ2 H2 => L2.wipe σ2 own = L2.wipe σ own ∧ rdIf G C c σ2 H2 fun b H3 =>
        if b = true then rdI G C wx0 it2 σ2 H3 fun J1 H4 => ∃ W1 : Nat → Nat → Hp → Prop, (∃ m, W1 0 m H4) ∧ ∀ j k H, W1 j k H →
          (J1.stop j H ∧ Nx H) ∨ (J1.go j H ∧ ∃ Nx1 : Hp → Prop, (∀ H', Nx1 H' → ∃ k', k' < k ∧ W1 (j + 1) k' H') ∧ ∀ x H', J1.yld j H x H' → rdTn X.K t2 x (L2.wipe σ2 own2) H' fun σ3 H5 => L2.wipe σ3 own2 = L2.wipe σ2 own2 ∧ rdIf G C c2 σ3 H5 fun b H6 =>
            if b = true then rdE G C wx0 e σ3 H6 fun y H7 => ∃ acc, H7 D = some (.lst acc) ∧ acc.length < sizeLine ∧ Nx1 (upd H7 D (.lst (acc ++ [y]))) else Nx1 H6)
        else Nx H3) := by
  cases e0 : compDD (turn2F C base own own2 t c t2 it2 c2 e ρ) keep items st with
  | exc _ _ => rw [e0] at q; exact q.elim
  | bad => rw [e0] at q; exact q.elim
  | ok ys stf =>
  rw [e0] at q
  have qL : Ans (DV G) G bd base Wx σ W H1 st (mkL bx ys stf) Q := q
  have hlen : ys.length ≤ SL := by
    unfold mkL at qL
    split at qL
    · assumption
    · exact qL.elim
  obtain ⟨ex0, rs0⟩ := alloc_any r hD (.lst [])
  have own0 : Own G W (upd H1 D (.lst [])) st D [] := by
    refine ⟨upd_same, fun k hk z => ?_, fun z => ?_⟩
    · obtain ⟨u, h1, _⟩ := r.some hk
      rw [z, hD] at h1; cases h1
    · obtain ⟨u, h1⟩ := r.fH _ z
      rw [hD] at h1; cases h1
  refine ⟨fun i m H' => m = items.length - i ∧ i ≤ items.length ∧ ∃ (W' : Wd) (st' : Sto) (acc : List Rf.D) (xs : List V) (ys' : List Rf.D), Post G bd base W H1 st W' H' st' ∧ Own G W' H' st' D xs ∧ DVs G W' st'.length H' acc xs ∧ P W' st'.length H' ∧ EnR G W' st'.length H' ρ σ ∧
    compDD (turn2F C base own own2 t c t2 it2 c2 e ρ) keep (items.drop i) st' = .ok ys' stf ∧ ys = acc ++ ys', ⟨_, rfl, Nat.zero_le _, W, st, [], [], ys, ⟨ex0, rs0⟩, own0, rfl, src.keep r ⟨ex0, rs0⟩ hP, en.post ⟨ex0, rs0⟩ r, by rw [List.drop_zero]; exact e0, rfl⟩, ?_⟩
  rintro i m H2 ⟨rfl, hi, W', st', acc, xs, ys', p, w, hd, hp, en', e1, e2⟩
  have gd := src.good _ _ _ hp
  by_cases hlt : i < items.length
  rotate_left
  · have e : i = items.length := by omega
    subst e
    refine .inl ⟨src.walk.stops H2 gd, ?_⟩
    rw [List.drop_length] at e1
    have e1' : (if keep st' then R.ok ([] : List Rf.D) st' else .bad) = .ok ys' stf := e1
    split at e1'
    · injection e1' with e3 e4
      subst e3 e4
      rw [List.append_nil] at e2
      subst e2
      unfold mkL at qL
      rw [if_pos hlen] at qL
      cases bx with
      | true =>
        refine qL (.ref D) _ H2 (w.adopt_ob p hD hd) ⟨?_, by simp⟩
        show V.ref D = V.ref (if st'.length = st'.length then D else _)
        rw [if_pos rfl]
      | false =>
        exact qL (.ref D) _ H2 (w.adopt_frz p hD) ⟨D, xs, rfl, .inr rfl, w.at_, DVs.wm (W := W') (W' := ⟨W'.m, fun a => W'.F a ∨ a = D⟩) (fun _ h => .inl h) (fun _ _ => rfl) (Nat.le_refl _) hd⟩
    · cases e1'
  refine .inr ⟨src.walk.goes i H2 hlt gd, fun H' => ∃ (W' : Wd) (st' : Sto) (acc : List Rf.D) (xs : List V) (ys' : List Rf.D), Post G bd base W H1 st W' H' st' ∧ Own G W' H' st' D xs ∧ DVs G W' st'.length H' acc xs ∧ P W' st'.length H' ∧ EnR G W' st'.length H' ρ σ ∧
    compDD (turn2F C base own own2 t c t2 it2 c2 e ρ) keep (items.drop (i + 1)) st' = .ok ys' stf ∧ ys = acc ++ ys', fun H' z => ⟨items.length - (i + 1), by omega, rfl, hlt, z⟩, fun x H3 hy => ?_⟩
  have hy := src.walk.yields i H2 x H3 hlt gd hy
  have hx : items[i]? = some items[i] := List.getElem?_eq_getElem hlt
  obtain ⟨p2, dx⟩ := src.item p.rs hp hx hy
  rw [List.drop_eq_getElem_cons hlt] at e1
  have e1' : (if keep st' then (match turn2F C base own own2 t c t2 it2 c2 e ρ items[i] st' with
    | .ok y st => (match compDD (turn2F C base own own2 t c t2 it2 c2 e ρ) keep (items.drop (i + 1)) st with
      | .ok ys st => .ok (y ++ ys) st
      | _ => .bad)
    | _ => .bad) else R.bad) = .ok ys' stf := e1
  split at e1'
  rotate_left
  · cases e1'
  cases e3 : turn2F C base own own2 t c t2 it2 c2 e ρ items[i] st' with
  | exc _ _ => rw [e3] at e1'; cases e1'
  | bad => rw [e3] at e1'; cases e1'
  | ok oy st1 =>
  rw [e3] at e1'
  dsimp only at e1'
  cases e4 : compDD (turn2F C base own own2 t c t2 it2 c2 e ρ) keep (items.drop (i + 1)) st1 with
  | exc _ _ => rw [e4] at e1'; cases e1'
  | bad => rw [e4] at e1'; cases e1'
  | ok ys2 st2 =>
  rw [e4] at e1'
  dsimp only at e1'
  injection e1' with e5 e6
  subst e6
  unfold turn2F at e3
  cases e7 : putN t items[i] (wipeE ρ own) with
  | none => rw [e7] at e3; cases e3
  | some ρ' =>
  rw [e7] at e3
  dsimp only at e3
  refine tn_ok o.K (vs := own) e7 dx ((en'.post p2 p.rs).wipe own) fun σ2 en2 hw => ⟨by rw [hw hsub]; exact wipe_self own σ, ?_⟩
  cases e8 : evT C base c ρ' st' with
  | exc _ _ => rw [e8] at e3; cases e3
  | bad => rw [e8] at e3; cases e3
  | ok k stc =>
  rw [e8] at e3
  have e3' : (if k then (evI C base it2 ρ' stc).bind fun p2 st => compD (turnF C base own2 t2 c2 e ρ') p2.2 p2.1 st else R.ok [] stc) = .ok oy st1 := e3
  refine ⟨W', bd, base, ρ', st', p2.rs, en2, ?_⟩
  dsimp only
  rw [e8]
  intro k' W3 H4 p3 hk
  have hk' : k = k' := hk
  subst hk'
  cases k with
  | false =>
    rw [if_neg Bool.false_ne_true] at e3' ⊢
    injection e3' with e9 e10
    subst e9 e10
    exact ⟨W3, stc, acc, xs, ys2, (p.trans p2).trans p3, (w.post p2).post p3, p3.dvs p2.rs (p2.dvs p.rs hd), src.keep p2.rs p3 (src.keep p.rs p2 hp), (en'.post p2 p.rs).post p3 p2.rs, e4, by rw [e2, ← e5]; rfl⟩
  | true =>
    rw [if_pos rfl] at e3' ⊢
    cases e9 : evI C base it2 ρ' stc with
    | exc _ _ => rw [e9] at e3'; cases e3'
    | bad => rw [e9] at e3'; cases e3'
    | ok pp2 sti =>
    rw [e9] at e3'
    obtain ⟨items2, keep2⟩ := pp2
    have e3'' : compD (turnF C base own2 t2 c2 e ρ') keep2 items2 sti = .ok oy st1 := e3'
    refine ⟨W3, bd, base, ρ', stc, p3.rs, en2.post p3 p2.rs, ?_⟩
    dsimp only
    rw [e9]
    intro J1 W4 H5 p4 ⟨P1, Gd1, Y1, src1, hP1⟩
    have pa := ((p.trans p2).trans p3).trans p4
    have r3 := p3.rs
    -- the second clause's loop
    refine ⟨fun j k H' => k = items2.length - j ∧ j ≤ items2.length ∧ ∃ (W' : Wd) (st' : Sto) (acc' : List Rf.D) (xs : List V) (ys1 : List Rf.D), Post G bd base W H1 st W' H' st' ∧ Own G W' H' st' D xs ∧ DVs G W' st'.length H' acc' xs ∧ P W' st'.length H' ∧ EnR G W' st'.length H' ρ σ ∧ P1 W' st'.length H' ∧ EnR G W' st'.length H' ρ' σ2 ∧
      compD (turnF C base own2 t2 c2 e ρ') keep2 (items2.drop j) st' = .ok ys1 st1 ∧ ys = acc' ++ (ys1 ++ ys2), ⟨_, rfl, Nat.zero_le _, W4, sti, acc, xs, oy, pa, ((w.post p2).post p3).post p4, p4.dvs r3 (p3.dvs p2.rs (p2.dvs p.rs hd)), src.keep r3 p4 (src.keep p2.rs p3 (src.keep p.rs p2 hp)), ((en'.post p2 p.rs).post p3 p2.rs).post p4 r3, hP1, (en2.post p3 p2.rs).post p4 r3, by rw [List.drop_zero]; exact e3'', by rw [e2, ← e5]⟩, ?_⟩
    rintro j k H6 ⟨rfl, hj, W', st', acc', xs, ys1, p, w, hd, hp, en', hp1, en2', e1, e2⟩
    have gd1 := src1.good _ _ _ hp1
    by_cases hlt1 : j < items2.length
    rotate_left
    · have e : j = items2.length := by omega
      subst e
      refine .inl ⟨src1.walk.stops H6 gd1, ?_⟩
      rw [List.drop_length] at e1
      have e1' : (if keep2 st' then R.ok ([] : List Rf.D) st' else .bad) = .ok ys1 st1 := e1
      split at e1'
      · injection e1' with e3 e4'
        subst e3 e4'
        exact ⟨W', st', acc', xs, ys2, p, w, hd, hp, en', e4, by rw [e2]; rfl⟩
      · cases e1'
    refine .inr ⟨src1.walk.goes j H6 hlt1 gd1, fun H' => ∃ (W' : Wd) (st' : Sto) (acc' : List Rf.D) (xs : List V) (ys1 : List Rf.D), Post G bd base W H1 st W' H' st' ∧ Own G W' H' st' D xs ∧ DVs G W' st'.length H' acc' xs ∧ P W' st'.length H' ∧ EnR G W' st'.length H' ρ σ ∧ P1 W' st'.length H' ∧ EnR G W' st'.length H' ρ' σ2 ∧
      compD (turnF C base own2 t2 c2 e ρ') keep2 (items2.drop (j + 1)) st' = .ok ys1 st1 ∧ ys = acc' ++ (ys1 ++ ys2), fun H' z => ⟨items2.length - (j + 1), by omega, rfl, hlt1, z⟩, fun x H7 hy => ?_⟩
    have hy := src1.walk.yields j H6 x H7 hlt1 gd1 hy
    have hx : items2[j]? = some items2[j] := List.getElem?_eq_getElem hlt1
    obtain ⟨p2, dx⟩ := src1.item p.rs hp1 hx hy
    rw [List.drop_eq_getElem_cons hlt1] at e1
    have e1' : (if keep2 st' then (match turnF C base own2 t2 c2 e ρ' items2[j] st' with
      | .ok y st => (match compD (turnF C base own2 t2 c2 e ρ') keep2 (items2.drop (j + 1)) st with
        | .ok ys st => .ok (match y with | some y => y :: ys | none => ys) st
        | _ => .bad)
      | _ => .bad) else R.bad) = .ok ys1 st1 := e1
    split at e1'
    rotate_left
    · cases e1'
    cases f3 : turnF C base own2 t2 c2 e ρ' items2[j] st' with
    | exc _ _ => rw [f3] at e1'; cases e1'
    | bad => rw [f3] at e1'; cases e1'
    | ok oy1 sta =>
    rw [f3] at e1'
    dsimp only at e1'
    cases e4' : compD (turnF C base own2 t2 c2 e ρ') keep2 (items2.drop (j + 1)) sta with
    | exc _ _ => rw [e4'] at e1'; cases e1'
    | bad => rw [e4'] at e1'; cases e1'
    | ok ys3 stb =>
    rw [e4'] at e1'
    dsimp only at e1'
    injection e1' with e5' e6'
    subst e6'
    unfold turnF at f3
    cases e7' : putN t2 items2[j] (wipeE ρ' own2) with
    | none => rw [e7'] at f3; cases f3
    | some ρ2 =>
    rw [e7'] at f3
    dsimp only at f3
    refine tn_ok o.K (vs := own2) e7' dx ((en2'.post p2 p.rs).wipe own2) fun σ3 en3 hw3 => ⟨by rw [hw3 hsub2]; exact wipe_self own2 σ2, ?_⟩
    cases e8' : evT C base c2 ρ2 st' with
    | exc _ _ => rw [e8'] at f3; cases f3
    | bad => rw [e8'] at f3; cases f3
    | ok k2 std =>
    rw [e8'] at f3
    have f3' : (if k2 then (evE C base e ρ2 std).bind fun y st => .ok (some y) st else R.ok none std) = .ok oy1 sta := f3
    refine ⟨W', bd, base, ρ2, st', p2.rs, en3, ?_⟩
    dsimp only
    rw [e8']
    intro k' W5 H8 p5 hk
    have hk' : k2 = k' := hk
    subst hk'
    cases k2 with
    | false =>
      rw [if_neg Bool.false_ne_true] at f3' ⊢
      injection f3' with e9 e10
      subst e9 e10
      exact ⟨W5, std, acc', xs, ys3, (p.trans p2).trans p5, (w.post p2).post p5, p5.dvs p2.rs (p2.dvs p.rs hd), src.keep p2.rs p5 (src.keep p.rs p2 hp), (en'.post p2 p.rs).post p5 p2.rs, src1.keep p2.rs p5 (src1.keep p.rs p2 hp1), (en2'.post p2 p.rs).post p5 p2.rs, e4', by rw [e2, ← e5']⟩
    | true =>
      rw [if_pos rfl] at f3' ⊢
      cases e9' : evE C base e ρ2 std with
      | exc _ _ => rw [e9'] at f3'; cases f3'
      | bad => rw [e9'] at f3'; cases f3'
      | ok y sty =>
      rw [e9'] at f3'
      injection f3' with e10 e11
      subst e10 e11
      refine ⟨W5, bd, base, ρ2, std, p5.rs, en3.post p5 p2.rs, ?_⟩
      dsimp only
      rw [e9']
      intro v W6 H9 p6 dy
      have pb := ((p.trans p2).trans p5).trans p6
      have w6 := ((w.post p2).post p5).post p6
      have hd6 := p6.dvs p5.rs (p5.dvs p2.rs (p2.dvs p.rs hd))
      refine ⟨xs, w6.at_, ?_, ?_⟩
      · rw [hd6.len, ← SL_eq]
        rw [e2, ← e5'] at hlen
        simp only [List.length_append, List.length_cons] at hlen
        omega
      · obtain ⟨pw, ww⟩ := w6.write (ys := xs ++ [v]) pb hD
        have chgE : ∀ {ρ : En} {σ : L2.St}, EnR G W6 sty.length H9 ρ σ → EnR G W6 sty.length (upd H9 D (.lst (xs ++ [v]))) ρ σ := fun en4 => w6.en en4
        refine ⟨W6, sty, acc' ++ [y], xs ++ [v], ys3, pw, ww, w6.chgs (DVs.app hd6 ⟨v, [], rfl, dy, rfl⟩), src.chg w6 (src.keep p5.rs p6 (src.keep p2.rs p5 (src.keep p.rs p2 hp))), chgE (((en'.post p2 p.rs).post p5 p2.rs).post p6 p5.rs), src1.chg w6 (src1.keep p5.rs p6 (src1.keep p2.rs p5 (src1.keep p.rs p2 hp1))), chgE (((en2'.post p2 p.rs).post p5 p2.rs).post p6 p5.rs), e4', ?_⟩
        rw [e2, ← e5', List.append_assoc]; rfl
theorem s_comp2 (o : Xok G T N C lv Wx sc X) (hh : T.hot = false) {bx : Bool} {own own2 : List Nat} {t t2 : Tn} {it it2 : I} {c c2 : Option E} {e : E} {pe tg pit tg2 pit2 : Expr} {ifs ifs2 : List Expr} {scope : Scope} {pos : Pos} (hb : blkC N sc scope (own.map fun i => (N.getD i (Str.ofString ""), i)) = true)
    (ho : (own2.all fun i => decide (i ∈ own)) = true) (hi : PI X tg pit (rdI G C Wx it)) (hset : noSet pit = true) (ht : chkTn N scope (relS scope sc) own t tg = true)
    (hc : ∀ X', Xok G T N C lv wx0 (relS scope sc) X' → PTs X' ifs (rdIf G C c)) (hi2 : ∀ X', Xok G T N C lv wx0 (relS scope sc) X' → PI X' tg2 pit2 (rdI G C wx0 it2)) (hset2 : noSet pit2 = true) (ht2 : chkTn N scope (relS scope sc) own2 t2 tg2 = true)
    (hc2 : ∀ X', Xok G T N C lv wx0 (relS scope sc) X' → PTs X' ifs2 (rdIf G C c2)) (he : ∀ X', Xok G T N C lv wx0 (relS scope sc) X' → PE X' pe (rdE G C wx0 e)) :
    PE X (.ListComp pe [⟨tg, pit, ifs, 0⟩, ⟨tg2, pit2, ifs2, 0⟩] scope pos) (rdE G C Wx (.comp2 bx own own2 t it c t2 it2 c2 e)) := by
  have hown : (own.map fun i => (N.getD i (Str.ofString ""), i)).map (·.2) = own := by rw [List.map_map]; exact List.map_id' _
  have hsub : ∀ i ∈ tnOf t, i ∈ own := tn_sub ht
  have hsub2 : ∀ i ∈ tnOf t2, i ∈ own2 := tn_sub ht2
  have bk : BlkOk X.N X.env.scope scope (own.map fun i => (N.getD i (Str.ofString ""), i)) := by rw [o.hN, o.hsc]; exact blkOk_by hb
  have P0 := pe_lc2 (pos := pos) (vs1 := own2) (o.calm hh) (by rw [o.hN]; exact o.nd) hi bk (by rw [hown]; exact fun i hi => of_decide_eq_true (List.all_eq_true.mp ho i hi)) (fun s H Cc cl fp => (tn_pg (s := s) (H := H) (Cc := Cc) (cl := cl) (fp := fp) o hh ht).1) (fun s H Cc cl fp => hc _ (blk_ok o hh))
    (fun s H Cc cl fp => hi2 _ (blk_ok o hh)) (fun s H Cc cl fp => (tn_pg (s := s) (H := H) (Cc := Cc) (cl := cl) (fp := fp) o hh ht2).1) (fun s H Cc cl fp => hc2 _ (blk_ok o hh)) (fun s H Cc cl fp => he _ (blk_ok o hh)) (fun x => by cases pit <;> first | rfl | cases hset) (fun env x => by cases pit2 <;> first | rfl | cases hset2)
  rw [hown] at P0
  refine PE.weak P0 fun σ H Q q => ?_
  have q' : rd G Wx (DV G) (fun base ρ st => (evI C base it ρ st).bind fun p st => match compDD (turn2F C base own own2 t c t2 it2 c2 e ρ) p.2 p.1 st with
    | .ok ys st => mkL bx ys st
    | _ => .bad) σ H Q := q
  obtain ⟨W, bd, base, ρ, st, r, en, q⟩ := rd.bind (rel := SrcOk G) q'
  refine ⟨W, bd, base, ρ, st, r, en, q.mono ?_⟩
  rintro J H1 ⟨W, bd, base, ρ, st, d, r, en, ⟨P, Gd, Y, src, hP⟩, q⟩ D hD
  exact comp2_core o hsub hsub2 src r en hP q D hD
end
end Rf

/-! enumerate over lists and tuples -/
namespace PySem
open Sem (wp)
/-- the object that enumerate makes, at its start -/
abbrev enumObj (src : Addr) : Obj := { cls := .type "enumerate", data := .fields #[.none, .bool false, .ref src, rawInt 0, .none, .none] }
theorem meets_enu1 {val : Value} {itr : Obj} {Hp0 : Heap → Prop} (bg : Begins val itr Hp0) : Meets (Builtin.«enumerate.__new__» ⟨[.type "enumerate", val], []⟩) (fun _ Rt t => Hp0 t.heap ∧
      Rt (.ok (.ret (.ref (t.heap.push itr).objs.size))) { t with heap := (t.heap.push itr).push (enumObj t.heap.objs.size) }) :=
  .of_wp fun pg wd ar Rt t both => by
    obtain ⟨hh, gg, dd, tt, oo⟩ := t
    obtain ⟨pre, post⟩ := both
    have hsub := sub_enumerate
    have begun : ∀ {ar2 : Around} {Ex : Value → Shared → Prop} {Qx : Value → Shared → Prop}, Qx (.ref hh.objs.size) ⟨hh.push itr, gg, dd, tt, oo⟩ → wpAny (model pg wd) ar2 (pyIter val) Qx Ex ⟨hh, gg, dd, tt, oo⟩ :=
      fun qx => bg.iter pg wd _ _ ⟨hh, gg, dd, tt, oo⟩ _ pre qx
    wp_walk using begun
    refine wpAny_stack_any fun _stk => wpAny_pure ?_
    split
    · rename_i cl _ _ _ _ _
      by_cases known : (cl == Value.type "enumerate") = true
      · rw [known]
        wp_walk using begun
        exact ⟨_, rfl, post⟩
      · have no : (cl == Value.type "enumerate") = false := by simpa using known
        rw [no]
        wp_walk using begun
        exact ⟨_, rfl, post⟩
    · wp_walk using begun
      exact ⟨_, rfl, post⟩
theorem enum_begins1 {prog : Program} {w : World} {A : Around} {E : Value → Shared → Prop} {t : Shared} {val : Value} {itr : Obj} {Hp0 : Heap → Prop} {Q : Value → Shared → Prop} (bg : Begins val itr Hp0) (pre : Hp0 t.heap)
    (post : ∀ hn, IsEnum hn (t.heap.objs.size + 1) t.heap.objs.size 0 .none → hn.get? t.heap.objs.size = some itr → hn.objs.size = t.heap.objs.size + 2 →
      (∀ x ob, t.heap.get? x = some ob → hn.get? x = some ob) → Q (.ref (t.heap.objs.size + 1)) { t with heap := hn }) :
    wpAny (model prog w) A (call (.type "enumerate") [val]) Q E t := by
  have one : (t.heap.push itr).objs.size = t.heap.objs.size + 1 := Heap.size_push ..
  have made : IsEnum ((t.heap.push itr).push (enumObj t.heap.objs.size)) (t.heap.objs.size + 1) t.heap.objs.size 0 .none := one ▸ Heap.get?_push_size (t.heap.push itr) (o := enumObj t.heap.objs.size) rfl
  have there : ((t.heap.push itr).push (enumObj t.heap.objs.size)).get? t.heap.objs.size = some itr := Heap.get?_push_of_some _ (Heap.get?_push_size _ bg.free)
  have long : ((t.heap.push itr).push (enumObj t.heap.objs.size)).objs.size = t.heap.objs.size + 2 := by rw [Heap.size_push, one]
  have old : ∀ x ob, t.heap.get? x = some ob → ((t.heap.push itr).push (enumObj t.heap.objs.size)).get? x = some ob := fun _ _ q => Heap.get?_push_of_some _ (Heap.get?_push_of_some _ q)
  refine callType_new F.called_enumerate (by decide) (F.typeCall_enumerate_1 _) (F.newCall_enumerate_1 _)
    (fun ob => F.args_object_init_2 ob _) F.entry_enumerate_new (meets_enu1 bg) ⟨pre, ?_⟩
  show _ ∧ _
  rw [one]
  exact ⟨⟨_, made, rfl⟩, post _ made there long old⟩
end PySem
namespace Rf
open PySem PySem.Spec PyProof.Rows L2
/-- the tuple at a, each item in a new pair -/
def IteT (K : PySem.W.Frag) (a : Addr) : It :=
  ⟨fun i H => ∃ (xs : List V) (x : V), SqT K H a xs ∧ xs[i]? = some x, fun i H v H' => ∃ T x, v = .ref T ∧ H T = none ∧ H' = upd H T (.tup [.int (i : Nat), x]) ∧ ∀ xs, SqT K H a xs → xs[i]? = some x, fun i H => ∃ xs : List V, SqT K H a xs ∧ xs.length = i⟩
theorem two_mem {b e it : Addr} (h : b ∈ [e, it]) : b = e ∨ b = it := by
  rcases List.mem_cons.mp h with h | h
  · exact .inl h
  · exact .inr (List.mem_singleton.mp h)
/-- what is a tuple is no iterator over one -/
theorem tup_ne {h : Heap} {a b : Addr} {xs : Array Value} {i : Nat} {src : Addr} (ht : h.IsTuple a xs) (hb : h.IsTupleIter b src i) : a ≠ b := by
  rintro rfl
  obtain ⟨o1, q1, c1, _⟩ := hb
  obtain ⟨o2, q2, c2, _⟩ := ht
  rw [q1] at q2
  cases q2
  rw [c1] at c2
  injection c2 with c3
  exact absurd c3 (by decide)
theorem tup_nee {h : Heap} {a e src : Addr} {xs : Array Value} {n : Int} {old : Value} (ht : h.IsTuple a xs) (he : IsEnum h e src n old) : a ≠ e := by
  rintro rfl
  obtain ⟨o2, q2, c2, _⟩ := ht
  have q1 : h.get? a = some _ := he
  rw [q1] at q2
  cases q2
  injection c2 with c3
  exact absurd c3 (by decide)
theorem turn_enumT {P : Program} {w : World} {K : PySem.W.Frag} {elts : List Expr} {kk : Nat} {tpos : Pos} (a e it : Addr) :
    Turn P w K (.Tuple elts kk tpos) (IteT K a) [e, it] e (fun i h => (∃ old, IsEnum h e it ((i : Nat) : Int) old) ∧ h.IsTupleIter it a i ∧ e ≠ it) where
  mem := List.mem_cons_self
  obj := fun i h at_ b hb => by
    obtain ⟨⟨prev, en⟩, ⟨ob, got, _, dat⟩, _⟩ := at_
    rcases two_mem hb with rfl | rfl
    · exact ⟨_, en, (fun _ no => nomatch no)⟩
    · exact ⟨ob, got, (fun _ no => by rw [dat] at no; cases no)⟩
  keep := fun i h h' at_ same => by
    obtain ⟨⟨prev, en⟩, iter, apart⟩ := at_
    exact ⟨⟨prev, same e (List.mem_cons_self) _ en⟩, iter.at (fun ob got => same it (by simp) ob got), apart⟩
  item := by
    intro X eP ew eK hc i pins s σ H E I away at_ due
    subst eP; subst ew; subst eK
    obtain ⟨⟨prev, en⟩, iter, apart⟩ := at_
    obtain ⟨xs, x, sq, ix⟩ := due
    obtain ⟨its, rel, tp, _⟩ := I.tuple sq
    obtain ⟨u, iu, ru⟩ := rel.get ix
    have le : e < s.heap.objs.size := Heap.lt_size en
    have li : it < s.heap.objs.size := let ⟨_, got, _⟩ := iter; Heap.lt_size got
    have nit : a ≠ it := tup_ne tp iter
    have nen : a ≠ e := tup_nee tp en
    have short : i < its.toArray.size := by
      have z := (List.getElem?_eq_some_iff.mp iu).1
      simpa using z
    refine wpAny_pyNext_enum_itemD (Draws.tuple (A := X.A.in1) (I.ok.hd hc) it a nit its.toArray) en ⟨iter, tp⟩ short apart (by simp [apart]; exact fun z => nen z.symm) fun got h1 tk isx ow st1 new1 size1 rest1 => ?_
    have same : got = u := by
      have z : its.toArray[i]? = some got := isx
      rw [← Array.getElem?_toList, show its.toArray.toList = its from rfl, iu] at z
      injection z with z
      exact z.symm
    subst same
    refine ⟨_, rfl, wpAny_letOwnedTupleGo_enum (s := { s with heap := h1, toks := tk + 1 }) ow fun h2 en2 part => ?_⟩
    have pair : h2.get? s.heap.objs.size = some { cls := .type "tuple", data := .seq #[.int i tk, got] } := (part.2 _ (Nat.ne_of_gt le)).trans new1
    have obj2 : ObjOk X.prog X.w (upd H s.heap.objs.size (.tup [.int (i : Nat), x])) h2 s.heap.objs.size (.tup [.int (i : Nat), x]) := by
      refine ⟨?_, [.int i tk, got], .cons ⟨_, rfl⟩ (.cons ru .nil), ⟨_, pair, rfl, _, rfl⟩⟩
      show 2 ≤ sizeLine
      decide
    have inv : Inv X pins σ (upd H s.heap.objs.size (.tup [.int (i : Nat), x])) { s with heap := h2, toks := tk + 1 } := by
      refine I.turnedNew (ch := [e, it]) (fun b ob out q => ?_) away (Nat.le_refl _) obj2
      have ne : b ≠ e := fun z => out (by simp [z])
      have ni : b ≠ it := fun z => out (by simp [z])
      exact (part.2 b ne).trans (rest1 b ob ne ni q)
    refine ⟨.ref s.heap.objs.size, _, inv, rfl, ⟨_, x, rfl, I.hok.fresh (Nat.le_refl _), rfl, fun ys sy => ?_⟩, ⟨⟨got, ?_⟩, st1.1.at fun ob q => (part.2 it (Ne.symm apart)).trans q, apart⟩, fun b hb => ?_⟩
    · rw [I.tuple_inj sy sq]
      exact ix
    · have up : ((i + 1 : Nat) : Int) = ((i : Nat) : Int) + 1 := Int.natCast_add i 1
      rw [up]
      exact en2
    · have low : b < s.heap.objs.size := by
        rcases two_mem hb with rfl | rfl
        · exact le
        · exact li
      have far := (away b hb).1
      rwa [← upd_ne (H := H) (Nat.ne_of_lt low)] at far
  done := by
    intro X eP ew eK hc i pins s σ H E I away at_ due
    subst eP; subst ew; subst eK
    obtain ⟨⟨prev, en⟩, iter, apart⟩ := at_
    obtain ⟨xs, sq, all⟩ := due
    obtain ⟨its, rel, tp, _⟩ := I.tuple sq
    have nit : a ≠ it := tup_ne tp iter
    have whole : i = its.toArray.size := by
      rw [← all, rel.length]
      simp
    obtain ⟨g0, g1, _, g3, g4, g5⟩ := away it (by simp)
    refine wpAny_pyNext_enum_endD (Draws.tuple (A := X.A.in1) (I.ok.hd hc) it a nit its.toArray) en ⟨whole ▸ iter, tp⟩ fun h1 rest1 => ⟨rfl, ?_⟩
    exact I.turned (t' := s.toks) (fun b ob out q => rest1 b ob out q) g0 g1 g3 g4 g5
  self := fun A i s Q E at_ q => let ⟨⟨_, en⟩, _⟩ := at_; wpAny_pyIter_enum en q
def iEnumT (K : PySem.W.Frag) (ta : TA) : TI := fun σ H R => ta σ H fun vs H1 => ∃ a xs, vs = [.ref a] ∧ ((SqL K H1 a xs ∧ R (Ite K a) H1) ∨ (SqT K H1 a xs ∧ R (IteT K a) H1))
theorem two_up {b n : Nat} (h : b ∈ [n + 1, n]) : n ≤ b := by
  rcases two_mem h with rfl | rfl
  · exact Nat.le_succ _
  · exact Nat.le_refl _
theorem pi_enumT {X : Cx} {e : Expr} {ta : TA} {p pos tpos : Pos} {elts : List Expr} {kk : Nat} (hg : Gl X "enumerate") (hm : X.mg "enumerate" = none) (ha : PA X [e] ta) (hs : starEach [e] X.env = [(false, eval e X.env)]) :
    PI X (.Tuple elts kk tpos) (.Call (.Name "enumerate" p) [e] [] pos) (iEnumT X.K ta) := by
  refine ⟨fun pins s σ H R I due => Call_ (ld_blt I hg hm boot_enumerate (PyProof.Rows.callWith_type1 (thn (ha.run pos pins s σ H _ I due) ?_) hs rfl))⟩
  rintro us s1 ⟨vs, H1, I1, rel, a, xs, rfl, due1⟩
  cases rel with
  | cons r rr =>
    cases rr
    cases r
    rcases due1 with ⟨sq, q⟩ | ⟨sq, q⟩
    · obtain ⟨its, _, isl, _⟩ := I1.list sq
      refine call_enumerate_list isl.isList fun h1 en iter _ kept => wpAny_pyIter_enum en ?_
      have inv := I1.kept (h' := h1) (t' := s1.toks) kept
      exact ⟨s1.heap.objs.size + 1, [s1.heap.objs.size + 1, s1.heap.objs.size], _, _, H1, rfl, inv,
        turn_enum a (s1.heap.objs.size + 1) s1.heap.objs.size, ⟨⟨.none, en⟩, iter, Nat.succ_ne_self _⟩, fun b hb => I1.fpOk (two_up hb) (I1.hok.fresh (two_up hb)), q⟩
    · obtain ⟨its, _, ist, _⟩ := I1.tuple sq
      refine enum_begins1 (begins_tuple a its.toArray) ist fun h1 en iter _ kept => wpAny_pyIter_enum en ?_
      have inv := I1.kept (h' := h1) (t' := s1.toks) kept
      exact ⟨s1.heap.objs.size + 1, [s1.heap.objs.size + 1, s1.heap.objs.size], _, _, H1, rfl, inv,
        turn_enumT a (s1.heap.objs.size + 1) s1.heap.objs.size, ⟨⟨.none, en⟩, ⟨_, iter, rfl, rfl⟩, Nat.succ_ne_self _⟩, fun b hb => I1.fpOk (two_up hb) (I1.hok.fresh (two_up hb)), q⟩
section
variable {G : Gx} {T : Tx} {N : List Str} {C : Call} {lv : Nat} {Wx : WX} {sc : Scope} {X : Cx} {σ : L2.St} {H H' : Hp} {W W' W0 : Wd} {n : Nat} {bd : Nat → Nat} {base : Nat} {st st' st0 : Sto} {H0 : Hp}
theorem enuL_get {ds : List D} {i : Nat} {d : D} (e : (enuL ds)[i]? = some d) : ∃ x, ds[i]? = some x ∧ d = .tup [.int i, x] := by
  unfold enuL at e
  rw [List.getElem?_mapIdx] at e
  cases q : ds[i]? with
  | none => rw [q] at e; cases e
  | some x => rw [q] at e; cases e; exact ⟨x, rfl, rfl⟩
theorem enuL_len (ds : List D) : (enuL ds).length = ds.length := by simp [enuL]
theorem src_enu {J : It} {ds : List D} {xs : List V} {Gd : Hp → Prop} {S : Wd → Hp → Prop} (w : Walk J (enuL ds).length Gd (fun i H v H' => ∃ T x, v = .ref T ∧ H T = none ∧ H' = upd H T (.tup [.int (i : Nat), x]) ∧ xs[i]? = some x)) (hg : ∀ W H, S W H → Gd H)
    (hk : ∀ {bd : Nat → Nat} {base : Nat} {W W' : Wd} {H H' : Hp} {st st' : Sto}, RS G bd base W H st → Post G bd base W H st W' H' st' → S W H → S W' H')
    (hc : ∀ {W : Wd} {H : Hp} {st : Sto} {D : Addr} {xs : List V} {ho : HO}, Own G W H st D xs → S W H → S W (upd H D ho)) :
    Src G J (enuL ds) (fun W n H => S W H ∧ DVs G W n H ds xs) Gd (fun i H v H' => ∃ T x, v = .ref T ∧ H T = none ∧ H' = upd H T (.tup [.int (i : Nat), x]) ∧ xs[i]? = some x) where
  walk := w
  good := fun W n H q => hg W H q.1
  keep := fun r p q => ⟨hk r p q.1, p.dvs r q.2⟩
  chg := fun o q => ⟨hc o q.1, o.chgs q.2⟩
  item := fun {bd base W H H' st i x d} r q e y => by
    obtain ⟨T, u, rfl, e2, rfl, e4⟩ := y
    obtain ⟨z, e5, rfl⟩ := enuL_get e
    obtain ⟨v, hv, dv⟩ := q.2.get e5
    rw [hv] at e4; cases e4
    obtain ⟨ex, rs⟩ := alloc_any r e2 (.tup [.int (i : Nat), u])
    exact ⟨⟨ex, rs⟩, T, _, rfl, SqT.of upd_same, DVs.keep ex r (Nat.le_refl _) (Nat.le_refl _) ⟨_, _, rfl, rfl, _, _, rfl, dv, rfl⟩⟩
theorem i_enu (o : Xok G T N C lv Wx sc X) {e : E} {x : Str} {pa : Expr} {p pos tpos : Pos} {elts : List Expr} {kk : Nat} (h1 : glB sc x = true) (h2 : x = ("enumerate" : Str)) (he : PE X pa (rdE G C Wx e)) (ns : noStar pa = true) :
    PI X (.Tuple elts kk tpos) (.Call (.Name x p) [pa] [] pos) (rdI G C Wx (.enu e)) := by
  obtain ⟨g, hd⟩ := glB_ok o h1
  have hm : X.mg x = none := by rw [o.mg, h2]; exact o.g.bi _ (by decide)
  subst h2
  have hs : starEach [pa] X.env = [(false, eval pa X.env)] := star_cons ns
  refine pi_weak (pi_enumT g hm (pa_cons he pa_nil hs) hs) fun σ H R q => ?_
  obtain ⟨W, bd, base, ρ, st, r, en, q⟩ := rd.bind (rel := DV G) q
  refine ⟨W, bd, base, ρ, st, r, en, q.mono ?_⟩
  rintro v H1 ⟨W1, bd1, base1, ρ1, st1, d, r1, en1, d1, q1⟩
  cases d with
  | lst ds =>
    obtain ⟨a, xs, rfl, f1, g1, k1⟩ := d1
    refine ⟨a, xs, rfl, .inl ⟨SqL.of g1, q1 _ W1 H1 (Post.refl r1) ⟨_, fun H => SqL X.K H a xs, _, src_enu (xs := xs) (S := fun W H => W.F a ∧ H a = some (.lst xs)) ?_ (fun W H s => SqL.of s.2) (fun r p s => ⟨p.ext.F _ s.1, F.keep p.ext r s.1 s.2⟩)
      (fun o s => ⟨s.1, by rw [upd_ne fun z => o.nF (by rw [← z]; exact s.1)]; exact s.2⟩), ⟨f1, g1⟩, k1⟩⟩⟩
    have hl : (enuL ds).length = xs.length := by rw [enuL_len, k1.len]
    refine ⟨fun i _ hi q => ⟨xs, xs[i]'(by omega), q, by simp⟩, fun _ q => ⟨xs, q, by omega⟩, fun i H v H' _ q y => ?_⟩
    obtain ⟨T, x, z1, z2, z3, z4⟩ := y
    exact ⟨T, x, z1, z2, z3, z4 xs q⟩
  | frz ds =>
    obtain ⟨a, xs, rfl, g1, k1⟩ := d1
    have chg : ∀ {W : Wd} {H : Hp} {st : Sto} {D : Addr} {xs' : List V} {ho : HO}, Own G W H st D xs' → FzL G.K W H a xs → FzL G.K W (upd H D ho) a xs := fun o s => by
      rcases s with ⟨s | ⟨u, s⟩, f⟩ | s
      · exact .inl ⟨.inl (by rw [upd_ne fun z => o.nF (by rw [← z]; exact f)]; exact s), f⟩
      · exact .inl ⟨.inr ⟨u, by rw [upd_ne fun z => o.nF (by rw [← z]; exact f)]; exact s⟩, f⟩
      · exact .inr s
    have kp : ∀ {bd : Nat → Nat} {base : Nat} {W W' : Wd} {H H' : Hp} {st st' : Sto}, RS G bd base W H st → Post G bd base W H st W' H' st' → FzL G.K W H a xs → FzL G.K W' H' a xs := fun r p s => by
      rcases s with ⟨s | ⟨u, s⟩, f⟩ | s
      · exact .inl ⟨.inl (F.keep p.ext r f s), p.ext.F _ f⟩
      · exact .inl ⟨.inr ⟨u, F.keep p.ext r f s⟩, p.ext.F _ f⟩
      · exact .inr s
    refine ⟨a, xs, rfl, .inl ⟨by rw [o.K]; exact FzL.sq g1, q1 _ W1 H1 (Post.refl r1) ⟨_, fun H => SqL X.K H a xs, _, src_enu (xs := xs) (S := fun W H => FzL G.K W H a xs) ?_ (fun W H s => by rw [o.K]; exact FzL.sq s) kp chg, g1, k1⟩⟩⟩
    have hl : (enuL ds).length = xs.length := by rw [enuL_len, k1.len]
    refine ⟨fun i _ hi q => ⟨xs, xs[i]'(by omega), q, by simp⟩, fun _ q => ⟨xs, q, by omega⟩, fun i H v H' _ q y => ?_⟩
    obtain ⟨T, x, z1, z2, z3, z4⟩ := y
    exact ⟨T, x, z1, z2, z3, z4 xs q⟩
  | tup ds =>
    obtain ⟨a, xs, rfl, g1, k1⟩ := d1
    have chg : ∀ {W : Wd} {H : Hp} {st : Sto} {D : Addr} {xs' : List V} {ho : HO}, Own G W H st D xs' → SqT G.K H a xs → SqT G.K (upd H D ho) a xs := fun o s => by
      rcases s with (s | ⟨u, s⟩) | s
      · exact .inl (.inl (by rw [upd_ne fun z => by rw [z, o.at_] at s; cases s]; exact s))
      · exact .inl (.inr ⟨u, by rw [upd_ne fun z => by rw [z, o.at_] at s; cases s]; exact s⟩)
      · exact .inr s
    refine ⟨a, xs, rfl, .inr ⟨by rw [o.K]; exact g1, q1 _ W1 H1 (Post.refl r1) ⟨_, fun H => SqT X.K H a xs, _, src_enu (xs := xs) (S := fun W H => SqT G.K H a xs) ?_ (fun W H s => by rw [o.K]; exact s) (fun r p s => SqT.keep p.ext r s) chg, g1, k1⟩⟩⟩
    have hl : (enuL ds).length = xs.length := by rw [enuL_len, k1.len]
    refine ⟨fun i _ hi q => ⟨xs, xs[i]'(by omega), q, by simp⟩, fun _ q => ⟨xs, q, by omega⟩, fun i H v H' _ q y => ?_⟩
    obtain ⟨T, x, z1, z2, z3, z4⟩ := y
    exact ⟨T, x, z1, z2, z3, z4 xs q⟩
  | _ => exact q1.elim
theorem i_enul (o : Xok G T N C lv Wx sc X) {e : E} {x : Str} {pa : Expr} {p pos tpos : Pos} {elts : List Expr} {kk : Nat} (h1 : glB sc x = true) (h2 : x = ("enumerate" : Str)) (he : PE X pa (rdE G C Wx e)) (ns : noStar pa = true) :
    PI X (.Tuple elts kk tpos) (.Call (.Name x p) [pa] [] pos) (rdI G C Wx (.enul e)) := by
  refine pi_weak (i_enu o h1 h2 he ns) fun σ H R q => ?_
  obtain ⟨W, bd, base, ρ, st, r, en, q⟩ := q
  refine ⟨W, bd, base, ρ, st, r, en, ?_⟩
  have q' : Ans (SrcOk G) G bd base Wx σ W H st ((evE C base e ρ st).bind fun x st => (match x with
    | .lst ds => .ok (enuL ds, fun _ => true) st
    | _ => .bad)) R := q
  show Ans (SrcOk G) G bd base Wx σ W H st ((evE C base e ρ st).bind fun x st => (match x with
    | .lst ds => .ok (enuL ds, fun _ => true) st
    | .frz ds => .ok (enuL ds, fun _ => true) st
    | .tup ds => .ok (enuL ds, fun _ => true) st
    | _ => .bad)) R
  cases e1 : evE C base e ρ st with
  | ok d st1 =>
    rw [e1] at q'
    cases d with
    | lst ds => exact q'
    | _ => exact q'.elim
  | exc d st1 => rw [e1] at q'; exact q'
  | bad => rw [e1] at q'; exact q'.elim
end
end Rf

/-! The evaluator's comprehensions while an exception is handled. -/
namespace Rf
open PySem PySem.Spec PyProof.Rows L2
section
variable {G : Gx} {T : Tx} {N : List Str} {C : Call} {lv : Nat} {Wx : WX} {sc : Scope} {X : Cx} {σ : L2.St} {H H' : Hp} {W W' W0 : Wd} {n : Nat} {bd : Nat → Nat} {base : Nat} {st st' st0 : Sto} {H0 : Hp}
theorem Xok.hotc (o : Xok G T N C lv Wx sc X) (hh : T.hot = true) : L2H.HotC X := by
  obtain ⟨q, e, h, _⟩ := o.heat hh
  exact ⟨q.1, h, (o.pn q (by rw [e]; exact List.mem_cons_self)).1⟩
theorem blkH_ok (o : Xok G T N C lv Wx sc X) (hh : T.hot = true) {s : Shared} {H : Hp} {scope : Scope} {Cc : Addr} {cl : List (Str × Addr)} {fp : List Addr} : Xok G T N C lv wx0 (relS scope sc) (blkH X s H scope (compEnvC scope cl Cc X.env) fp) where
  prog := o.prog
  w := o.w
  K := o.K
  mg := o.mg
  base := o.base
  calm := fun h => by rw [hh] at h; cases h
  room := fun h => by rw [hh] at h; cases h
  un := o.un
  hN := o.hN
  nd := o.nd
  hsc := by show relabel scope X.env = relS scope sc; rw [← o.hsc]; rfl
  tk := takesN
  g := o.g
  calls := fun h => by rw [hh] at h; cases h
  ar := o.ar
  l2 := o.l2
  kp := o.kp
  pn0 := fun h => by rw [hh] at h; cases h
  pn := o.pn
  hots := o.hots
  heat := o.heat
theorem ownBH_ok (o : Xok G T N C lv Wx sc X) (hh : T.hot = true) {scope : Scope} {own : List Nat} {i : Nat} {x : Str} {pos : Pos} {s : Shared} {H : Hp} {Cc : Addr} {cl : List (Str × Addr)} {fp : List Addr} (h : ownB N scope (relS scope sc) own i x = true) :
    PG (blkH X s H scope (compEnvC scope cl Cc X.env) fp) (.Name x pos) (gName i) := by
  obtain ⟨h1, h2⟩ := and2 h
  obtain ⟨h2, h3⟩ := and2 h2
  have o' := blkH_ok (s := s) (H := H) (scope := scope) (Cc := Cc) (cl := cl) (fp := fp) o hh
  have hi : N[i]? = some x := by
    split at h1
    · rename_i e
      rw [e, of_decide_eq_true h1]
    · cases h1
  have hx : L2.Loc (relS scope sc) x ∧ ((scope.names.lookup x == some .cell) = true ∨ (relS scope sc).names.lookup x = some .local) := by
    unfold locC at h2
    split at h2
    · rename_i e
      exact ⟨.inl e, .inr e⟩
    · rename_i e
      split at h2
      · rename_i e2
        exact ⟨.inr e, .inl (by rw [e2]; rfl)⟩
      · cases h2
    · cases h2
  refine pg_name (X := blkH X s H scope (compEnvC scope cl Cc X.env) fp) (by rw [o'.hN]; exact o.nd) (by rw [o'.hN]; exact hi) (by rw [o'.hsc]; exact hx.1) ?_
  rcases hx.2 with z | z
  · exact .inl z
  · exact .inr (by rw [o'.hsc]; exact z)
theorem tnsH_ok (o : Xok G T N C lv Wx sc X) (hh : T.hot = true) {scope : Scope} {own : List Nat} {s : Shared} {H : Hp} {Cc : Addr} {cl : List (Str × Addr)} {fp : List Addr} : ∀ {is : List Nat} {ps : List Expr}, chkTns N scope (relS scope sc) own is ps = true →
    PGs (blkH X s H scope (compEnvC scope cl Cc X.env) fp) ps (gNames is)
  | [], [], _ => pgs_nil
  | [], _ :: _, h => by cases h
  | _ :: _, [], h => by cases h
  | i :: is, p :: ps, h => by
    cases p with
    | Name x pos =>
      obtain ⟨h1, h2⟩ := and2 (show (ownB N scope (relS scope sc) own i x && chkTns N scope (relS scope sc) own is ps) = true from h)
      exact pgs_cons (ownBH_ok o hh h1) (tnsH_ok o hh h2) rfl
    | _ => cases h
theorem tn_pgH (o : Xok G T N C lv Wx sc X) (hh : T.hot = true) {scope : Scope} {own : List Nat} {t : Tn} {tg : Expr} {s : Shared} {H : Hp} {Cc : Addr} {cl : List (Str × Addr)} {fp : List Addr} (h : chkTn N scope (relS scope sc) own t tg = true) :
    PG (blkH X s H scope (compEnvC scope cl Cc X.env) fp) tg (rdTn X.K t) := by
  cases t with
  | nm i => cases tg with
    | Name x pos => exact ownBH_ok o hh h
    | _ => cases h
  | tup is => cases tg with
    | Tuple ps k pos =>
      have h' : chkTns N scope (relS scope sc) own is ps = true := h
      obtain ⟨l1, l2⟩ := each_len (env := (blkH X s H scope (compEnvC scope cl Cc X.env) fp).env) h'
      exact pg_tupH (X := blkH X s H scope (compEnvC scope cl Cc X.env) fp) (HotC.blk (o.hotc hh)) (tnsH_ok o hh h') l1 l2
    | _ => cases h
theorem pih_weak {tg it : Expr} {wi wi' : TI} (h : L2H.PIH X tg it wi) (w : ∀ σ H R, wi' σ H R → wi σ H R) : L2H.PIH X tg it wi' := ⟨fun pins s σ H R I q => h.run pins s σ H R I (w σ H R q)⟩
theorem s_compH (o : Xok G T N C lv Wx sc X) (hh : T.hot = true) {bx : Bool} {own : List Nat} {t : Tn} {it : I} {c : Option E} {e : E} {pe tg pit : Expr} {ifs : List Expr} {scope : Scope} {pos : Pos} (hb : blkC N sc scope (own.map fun i => (N.getD i (Str.ofString ""), i)) = true)
    (hi : L2H.PIH X tg pit (rdI G C Wx it)) (hset : noSet pit = true) (ht : chkTn N scope (relS scope sc) own t tg = true)
    (hc : ∀ X', Xok G T N C lv wx0 (relS scope sc) X' → PTs X' ifs (rdIf G C c)) (he : ∀ X', Xok G T N C lv wx0 (relS scope sc) X' → PE X' pe (rdE G C wx0 e)) :
    PE X (.ListComp pe [⟨tg, pit, ifs, 0⟩] scope pos) (rdE G C Wx (.comp bx own t it c e)) := by
  have hown : (own.map fun i => (N.getD i (Str.ofString ""), i)).map (·.2) = own := by rw [List.map_map]; exact List.map_id' _
  have bk : BlkOk X.N X.env.scope scope (own.map fun i => (N.getD i (Str.ofString ""), i)) := by rw [o.hN, o.hsc]; exact blkOk_by hb
  have P0 := pe_lcH (pos := pos) (o.hotc hh) (by rw [o.hN]; exact o.nd) hi bk (fun s H Cc cl fp => tn_pgH (s := s) (H := H) (Cc := Cc) (cl := cl) (fp := fp) o hh ht) (fun s H Cc cl fp => hc _ (blkH_ok o hh)) (fun s H Cc cl fp => he _ (blkH_ok o hh)) (fun x => by cases pit <;> first | rfl | cases hset)
  rw [hown] at P0
  exact PE.weak P0 fun σ H Q q => comp_rd o (tn_sub ht) q
def iKeyH (td : TE) : TI := fun σ H R => td σ H fun x H1 => ∃ d o kvs, x = .ref d ∧ H1 d = some (.frz o (.dK kvs)) ∧ R (Itk d o kvs) H1
theorem compkH_rd (o : Xok G T N C lv Wx sc X) {bx : Bool} {own : List Nat} {t : Tn} {i : Nat} {c : Option E} {e : E} {Q : VK} (hsub : ∀ i ∈ tnOf t, i ∈ own) (q : rdE G C Wx (.comp bx own t (.keys i) c e) σ H Q) :
    tLockE (tLc (iKeyH (tVar i)) (rdTn X.K t) (rdIf G C c) (rdE G C wx0 e) own) σ H Q ∨ tLc (iKeyH (tVar i)) (rdTn X.K t) (rdIf G C c) (rdE G C wx0 e) own σ H Q := by
  obtain ⟨W, bd, base, ρ, st, r, en, q⟩ := q
  have q' : Ans (DV G) G bd base Wx σ W H st ((show R (List Rf.D × (Sto → Bool)) from match getV ρ i with
    | some (.dct ks _) => R.ok (ks.map ofKey, fun (_ : Sto) => true) st
    | _ => .bad).bind fun (p : List Rf.D × (Sto → Bool)) st => match compD (turnF C base own t c e ρ) p.2 p.1 st with
    | .ok ys st => mkL bx ys st
    | _ => .bad) Q := q
  cases eg : getV ρ i with
  | none => rw [eg] at q'; exact q'.elim
  | some d => cases d with
    | dct ks vs =>
      rw [eg] at q'
      have q2 : Ans (DV G) G bd base Wx σ W H st (match compD (turnF C base own t c e ρ) (fun _ => true) (ks.map ofKey) st with
        | .ok ys st => mkL bx ys st
        | _ => .bad) Q := q'
      obtain ⟨v, hv, dv⟩ := en.2 i _ (getV_ok eg).1
      obtain ⟨a, kvs, rfl, f, hR, hk, hd⟩ := dv
      rcases hR with hR | ⟨o', hR⟩
      · refine .inl ⟨a, .dK kvs, hR, trivial, fun od => ⟨.ref a, hv, a, od, kvs, rfl, upd_same, fun D hD => ?_⟩⟩
        have h0 := rdk_lock (W := W) (od := od) hR
        refine comp_core o hsub (src_keys hk) (r.rdk h0 f) (en.rdk h0) ⟨f, upd_same⟩ (ans_lock r f hR (fun d st' z => ?_) q2) D hD
        cases e1 : compD (turnF C base own t c e ρ) (fun _ => true) (ks.map ofKey) st with
        | ok ys st2 =>
          rw [e1] at z
          have z' : mkL bx ys st2 = .exc d st' := z
          unfold mkL at z'
          split at z'
          · cases bx <;> cases z'
          · cases z'
        | exc _ _ => rw [e1] at z; cases z
        | bad => rw [e1] at z; cases z
      · exact .inr ⟨.ref a, hv, a, o', kvs, rfl, hR, fun D hD => comp_core o hsub (src_keys hk) r en ⟨f, hR⟩ q2 D hD⟩
    | _ => rw [eg] at q'; exact q'.elim
theorem s_compkH (o : Xok G T N C lv Wx sc X) (hh : T.hot = true) {bx : Bool} {own : List Nat} {t : Tn} {i : Nat} {y : Str} {c : Option E} {e : E} {pe tg : Expr} {ifs : List Expr} {scope : Scope} {pos p0 : Pos} (hb : blkC N sc scope (own.map fun i => (N.getD i (Str.ofString ""), i)) = true)
    (hv : varB N sc i y = true) (ht : chkTn N scope (relS scope sc) own t tg = true)
    (hc : ∀ X', Xok G T N C lv wx0 (relS scope sc) X' → PTs X' ifs (rdIf G C c)) (he : ∀ X', Xok G T N C lv wx0 (relS scope sc) X' → PE X' pe (rdE G C wx0 e)) :
    PE X (.ListComp pe [⟨tg, .Name y p0, ifs, 0⟩] scope pos) (rdE G C Wx (.comp bx own t (.keys i) c e)) := by
  obtain ⟨h1, h2, h3, h4⟩ := varB_ok o hv
  have hown : (own.map fun i => (N.getD i (Str.ofString ""), i)).map (·.2) = own := by rw [List.map_map]; exact List.map_id' _
  have bk : BlkOk X.N X.env.scope scope (own.map fun i => (N.getD i (Str.ofString ""), i)) := by rw [o.hN, o.hsc]; exact blkOk_by hb
  have pk : L2H.PIH X tg (.Name y p0) (iKeyH (tVar i)) := pi_keyH (pe_var (pos := p0) h1 h2 h3 h4)
  have P0 := pe_lcH (pos := pos) (o.hotc hh) (by rw [o.hN]; exact o.nd) pk bk (fun s H Cc cl fp => tn_pgH (s := s) (H := H) (Cc := Cc) (cl := cl) (fp := fp) o hh ht) (fun s H Cc cl fp => hc _ (blkH_ok o hh)) (fun s H Cc cl fp => he _ (blkH_ok o hh)) (fun x => rfl)
  rw [hown] at P0
  exact PE.weak (PE.or (pe_lock P0) P0) fun σ H Q q => compkH_rd o (tn_sub ht) q
theorem i_enulH (o : Xok G T N C lv Wx sc X) {e : E} {x : Str} {pa : Expr} {p pos tpos : Pos} {elts : List Expr} {kk : Nat} (h1 : glB sc x = true) (h2 : x = ("enumerate" : Str)) (he : PE X pa (rdE G C Wx e)) (ns : noStar pa = true) :
    L2H.PIH X (.Tuple elts kk tpos) (.Call (.Name x p) [pa] [] pos) (rdI G C Wx (.enul e)) := by
  obtain ⟨g, hd⟩ := glB_ok o h1
  have hm : X.mg x = none := by rw [o.mg, h2]; exact o.g.bi _ (by decide)
  subst h2
  have hs : starEach [pa] X.env = [(false, eval pa X.env)] := star_cons ns
  refine pih_weak (pi_enuH g hm (pa_cons he pa_nil hs) hs) fun σ H R q => ?_
  obtain ⟨W, bd, base, ρ, st, r, en, q⟩ := rd.bind (rel := DV G) q
  refine ⟨W, bd, base, ρ, st, r, en, q.mono ?_⟩
  rintro v H1 ⟨W1, bd1, base1, ρ1, st1, d, r1, en1, d1, q1⟩
  cases d with
  | lst ds =>
    obtain ⟨a, xs, rfl, f1, g1, k1⟩ := d1
    have hl : (enuL ds).length = xs.length := by rw [enuL_len, k1.len]
    refine ⟨a, xs, rfl, SqL.of g1, q1 _ W1 H1 (Post.refl r1) ⟨_, fun H => SqL X.K H a xs, _, src_enu (xs := xs) (S := fun W H => W.F a ∧ H a = some (.lst xs)) (by rw [hl]; exact walk_enuH) (fun W H s => SqL.of s.2) (fun r p s => ⟨p.ext.F _ s.1, F.keep p.ext r s.1 s.2⟩)
      (fun o s => ⟨s.1, by rw [upd_ne fun z => o.nF (by rw [← z]; exact s.1)]; exact s.2⟩), ⟨f1, g1⟩, k1⟩⟩
  | _ => exact q1.elim
theorem i_zipH (o : Xok G T N C lv Wx sc X) {a b : E} {x : Str} {pa pb : Expr} {p pos tpos : Pos} {elts : List Expr} {kk : Nat} (h1 : glB sc x = true) (h2 : x = ("zip" : Str)) (ha : PE X pa (rdE G C Wx a)) (hb : PE X pb (rdE G C Wx b)) (ns : noStar pa = true) (nb : noStar pb = true) :
    L2H.PIH X (.Tuple elts kk tpos) (.Call (.Name x p) [pa, pb] [] pos) (rdI G C Wx (.zip a b)) := by
  obtain ⟨g, hd⟩ := glB_ok o h1
  have hm : X.mg x = none := by rw [o.mg, h2]; exact o.g.bi _ (by decide)
  subst h2
  have hs : starEach [pa, pb] X.env = (false, eval pa X.env) :: starEach [pb] X.env := star_cons ns
  have hs2 : starEach [pb] X.env = [(false, eval pb X.env)] := star_cons nb
  refine pih_weak (pi_zipH g hm (pa_cons ha (pa_cons hb pa_nil hs2) hs) hs (by rw [hs2]; rfl)) fun σ H R q => ?_
  obtain ⟨W, bd, base, ρ, st, r, en, q⟩ := rd_two q
  refine ⟨W, bd, base, ρ, st, r, en, q.mono ?_⟩
  rintro v H1 ⟨W, bd, base, ρ, st, r, en, q⟩
  refine ⟨W, bd, base, ρ, st, r, en, q.mono ?_⟩
  rintro w H2 ⟨W1, bd1, base1, ρ1, st1, d, e, r1, en1, d1, d2, q1⟩
  cases d with
  | lst ds => cases e with
    | lst es =>
      obtain ⟨a1, xs, rfl, f1, g1, k1⟩ := d1
      obtain ⟨a2, ys, rfl, f2, g2, k2⟩ := d2
      refine ⟨a1, a2, xs, ys, rfl, .inl ⟨SqL.of g1, SqL.of g2, q1 _ W1 H2 (Post.refl r1) ⟨_, _, _, src_zip (S := fun W H => (W.F a1 ∧ H a1 = some (.lst xs)) ∧ (W.F a2 ∧ H a2 = some (.lst ys))) (walk_zipH (κ := kLst X.K)) (fun W H s => ⟨SqL.of s.1.2, SqL.of s.2.2⟩)
        (fun r p s => ⟨⟨p.ext.F _ s.1.1, F.keep p.ext r s.1.1 s.1.2⟩, ⟨p.ext.F _ s.2.1, F.keep p.ext r s.2.1 s.2.2⟩⟩)
        (fun o s => ⟨⟨s.1.1, by rw [upd_ne fun z => o.nF (by rw [← z]; exact s.1.1)]; exact s.1.2⟩, ⟨s.2.1, by rw [upd_ne fun z => o.nF (by rw [← z]; exact s.2.1)]; exact s.2.2⟩⟩) k1.len k2.len, ⟨⟨f1, g1⟩, ⟨f2, g2⟩⟩, k1, k2⟩⟩⟩
    | _ => exact q1.elim
  | tup ds => cases e with
    | tup es =>
      obtain ⟨a1, xs, rfl, g1, k1⟩ := d1
      obtain ⟨a2, ys, rfl, g2, k2⟩ := d2
      have chg : ∀ {W : Wd} {H : Hp} {st : Sto} {D a : Addr} {xs' xs : List V} {ho : HO}, Own G W H st D xs' → SqT G.K H a xs → SqT G.K (upd H D ho) a xs := fun o s => by
        rcases s with (s | ⟨u, s⟩) | s
        · exact .inl (.inl (by rw [upd_ne fun z => by rw [z, o.at_] at s; cases s]; exact s))
        · exact .inl (.inr ⟨u, by rw [upd_ne fun z => by rw [z, o.at_] at s; cases s]; exact s⟩)
        · exact .inr s
      refine ⟨a1, a2, xs, ys, rfl, .inr ⟨by rw [o.K]; exact g1, by rw [o.K]; exact g2, q1 _ W1 H2 (Post.refl r1) ⟨_, _, _, src_zip (S := fun W H => SqT G.K H a1 xs ∧ SqT G.K H a2 ys) (walk_zipH (κ := kTup X.K)) (fun W H s => by rw [← o.K] at s; exact s) (fun r p s => ⟨SqT.keep p.ext r s.1, SqT.keep p.ext r s.2⟩)
        (fun o s => ⟨chg o s.1, chg o s.2⟩) k1.len k2.len, ⟨g1, g2⟩, k1, k2⟩⟩⟩
    | _ => exact q1.elim
  | _ => exact q1.elim
end
end Rf

/-! Displays of dicts. -/
namespace Rf
open PySem PySem.Spec PyProof.Rows L2
section
variable {G : Gx} {T : Tx} {N : List Str} {C : Call} {lv : Nat} {Wx : WX} {sc : Scope} {X : Cx} {σ : L2.St} {H H' : Hp} {W W' W0 : Wd} {n : Nat} {bd : Nat → Nat} {base : Nat} {st st' st0 : Sto} {H0 : Hp}
/-- an object at D, no tuple, that nobody knows but we -/
structure OwnO (G : Gx) (W : Wd) (H : Hp) (st : Sto) (D : Addr) (o : HO) : Prop where
  at_ : H D = some o
  nl : ∀ k, live st k → W.m k ≠ D
  nF : ¬ W.F D
  nt : ∀ xs, o ≠ .tup xs
  nz : ∀ ob xs, o ≠ .frz ob (.tup xs)
theorem OwnO.post {D : Addr} {o : HO} (w : OwnO G W H st D o) (p : Post G bd base W H st W' H' st') : OwnO G W' H' st' D o := by
  refine ⟨p.ext.fr _ _ w.at_ w.nl, fun k hk z => ?_, fun z => ?_, w.nt, w.nz⟩
  rotate_left
  · rcases p.ext.nF D z with q | q | ⟨k, hk, q⟩
    · exact w.nF q
    · rw [w.at_] at q; cases q
    · exact w.nl k hk q
  by_cases q : k < st.length
  · exact w.nl k (p.ext.dd k q hk) (by rw [← p.ext.m k q]; exact z)
  · have := p.ext.nw k (by omega) hk
    rw [z, w.at_] at this; cases this
theorem OwnO.keepT {D : Addr} {o o' : HO} (w : OwnO G W H st D o) {a : Addr} {xs : List V} (e : H a = some (.tup xs)) : upd H D o' a = some (.tup xs) := by
  rw [upd_ne fun z => by rw [z, w.at_] at e; cases e; exact w.nt _ rfl]; exact e
theorem OwnO.keepZ {D : Addr} {o o' : HO} (w : OwnO G W H st D o) {a : Addr} {ob : Obj} {xs : List V} (e : H a = some (.frz ob (.tup xs))) : upd H D o' a = some (.frz ob (.tup xs)) := by
  rw [upd_ne fun z => by rw [z, w.at_] at e; cases e; exact w.nz _ _ rfl]; exact e
theorem OwnO.chgs {D : Addr} {o o' : HO} (w : OwnO G W H st D o) {d : List Rf.D} {v : List V} (h : DVs G W n H d v) : DVs G W n (upd H D o') d v :=
  DVs.chg (fun a u f e => by rw [upd_ne (fun z : a = D => w.nF (by rw [← z]; exact f))]; exact e) (fun a ys e => w.keepT e) (fun a ob ys e => w.keepZ e) h
/-- it is written: seen from ahead of it, nothing has changed -/
theorem OwnO.write {D : Addr} {o o' : HO} (p : Post G bd base W0 H0 st0 W H st) (h0 : H0 D = none) (w : OwnO G W H st D o) (nt : ∀ xs, o' ≠ .tup xs) (nz : ∀ ob xs, o' ≠ .frz ob (.tup xs)) : Post G bd base W0 H0 st0 W (upd H D o') st ∧ OwnO G W (upd H D o') st D o' := by
  refine ⟨⟨⟨fun a o h hk => ?_, p.ext.F, p.ext.m, p.ext.dd, p.ext.nw, fun a h => ?_, p.ext.len, p.ext.nF⟩, ?_⟩, ⟨upd_same, w.nl, w.nF, nt, nz⟩⟩
  · rw [upd_ne (ne_of_none h h0)]; exact p.ext.fr a o h hk
  · by_cases q : a = D
    · rw [q, upd_same]; simp
    · rw [upd_ne q]; exact p.ext.tr a h
  · refine ⟨fun k ob e => ?_, p.rs.inj, p.rs.fF, fun a h => ?_, p.rs.bdl, p.rs.bl⟩
    · refine obR.chg (fun a u f e => ?_) (fun a ys e => w.keepT e) (fun a o ys e => w.keepZ e) (fun nd => ?_) (p.rs.obj k ob e)
      · rw [upd_ne (fun z : a = D => w.nF (by rw [← z]; exact f))]; exact e
      · exact upd_ne (w.nl k (live_of e nd))
    · obtain ⟨u, q⟩ := p.rs.fH a h
      exact ⟨u, by rw [upd_ne (fun z : a = D => w.nF (by rw [← z]; exact h))]; exact q⟩
theorem OwnO.adopt_frz {D : Addr} {o : HO} (p : Post G bd base W0 H0 st0 W H st) (h0 : H0 D = none) (w : OwnO G W H st D o) : Post G bd base W0 H0 st0 ⟨W.m, fun a => W.F a ∨ a = D⟩ H st := by
  refine ⟨⟨p.ext.fr, fun a h => .inl (p.ext.F a h), p.ext.m, p.ext.dd, p.ext.nw, p.ext.tr, p.ext.len, fun a h => ?_⟩, fun k ob e => obR.wm (fun _ h => .inl h) (fun _ _ => rfl) (Nat.le_refl _) rfl (p.rs.obj k ob e), p.rs.inj, fun k hk z => ?_, fun a h => ?_, p.rs.bdl, p.rs.bl⟩
  · rcases h with h | h
    · exact p.ext.nF a h
    · exact .inr (.inl (by rw [h]; exact h0))
  · rcases z with z | z
    · exact p.rs.fF k hk z
    · exact w.nl k hk z
  · rcases h with h | h
    · exact p.rs.fH a h
    · exact ⟨_, by rw [h]; exact w.at_⟩
theorem OwnO.adopt_ob {D : Addr} {o : HO} {ob : Ob} (p : Post G bd base W0 H0 st0 W H st) (h0 : H0 D = none) (w : OwnO G W H st D o) (hd : obR G (W.add st.length D) H (st.length + 1) st.length ob) : Post G bd base W0 H0 st0 (W.add st.length D) H (st ++ [ob]) := by
  have am : ∀ k, k < st.length → (W.add st.length D).m k = W.m k := fun k hk => if_neg (by omega)
  have an : (W.add st.length D).m st.length = D := if_pos rfl
  have r := p.rs
  refine ⟨⟨fun a o h hk => p.ext.fr a o h hk, p.ext.F, fun k hk => ?_, fun k hk h => ?_, fun k hk h => ?_, p.ext.tr, ?_, p.ext.nF⟩, fun k ob' e => ?_, fun j k hj hk z => ?_, fun k hk z => ?_, p.rs.fH, p.rs.bdl, ?_⟩
  · rw [am k (Nat.lt_of_lt_of_le hk p.ext.len)]; exact p.ext.m k hk
  · rcases live_app h with z | z
    · exact p.ext.dd k hk z.2
    · have := p.ext.len; omega
  · rcases live_app h with z | z
    · rw [am k z.1]; exact p.ext.nw k hk z.2
    · rw [z, an]; exact h0
  · rw [List.length_append]; have := p.ext.len; omega
  · rcases get_app e with ⟨q, z⟩ | ⟨q, z⟩
    · have z1 := r.obj k ob' z
      have hb : bdOf bd base st.length k ≤ st.length := bdOf_le r
      refine obR.wm (W := W) (W' := W.add st.length D) (fun _ h => h) (fun j hj => am j (by omega)) ?_ (am k q) z1
      unfold bdOf
      split <;> simp
    · subst q z
      have q : bdOf bd base (st ++ [ob']).length st.length = st.length + 1 := by
        unfold bdOf
        rw [if_neg (by have := r.bl; omega)]
        simp
      rw [q]
      exact hd
  · rcases live_app hj with ⟨qj, lj⟩ | qj <;> rcases live_app hk with ⟨qk, lk⟩ | qk
    · rw [am j qj, am k qk] at z; exact r.inj j k lj lk z
    · rw [am j qj, qk, an] at z; exact absurd z (w.nl j lj)
    · rw [am k qk, qj, an] at z; exact absurd z.symm (w.nl k lk)
    · omega
  · rcases live_app hk with ⟨q, l⟩ | q
    · rw [am k q] at z; exact r.fF k l z
    · rw [q, an] at z; exact w.nF z
  · rw [List.length_append]; have := r.bl; omega
/-- a new object that we know alone -/
theorem OwnO.new {D : Addr} {o : HO} (r : RS G bd base W H st) (h0 : H D = none) (nt : ∀ xs, o ≠ .tup xs) (nz : ∀ ob xs, o ≠ .frz ob (.tup xs)) : Post G bd base W H st W (upd H D o) st ∧ OwnO G W (upd H D o) st D o := by
  obtain ⟨ex0, rs0⟩ := alloc_any r h0 o
  refine ⟨⟨ex0, rs0⟩, upd_same, fun k hk z => ?_, fun z => ?_, nt, nz⟩
  · obtain ⟨u, h1, _⟩ := r.some hk
    rw [z, h0] at h1; cases h1
  · obtain ⟨u, h1⟩ := r.fH _ z
    rw [h0] at h1; cases h1
/-! ### {k: v, ..} -/
def prs (G : Gx) (C : Call) (Wx : WX) : List Ky → List E → List (TE × TE)
  | k :: kk, e :: es => (tC (kV (kyR k)), rdE G C Wx e) :: prs G C Wx kk es
  | _, _ => []
theorem pairs_ok : ∀ {kk : List Ky} {vs : List E} {σ : L2.St} {H : Hp} {Q : List (V × V) → Hp → Prop}, kk.length = vs.length → rdEs G C Wx vs σ H (fun ys H2 => Q (kk.zipWith (fun k y => (kV (kyR k), y)) ys) H2) → tPairs (prs G C Wx kk vs) σ H Q
  | [], [], σ, H, Q, _, q => by
    obtain ⟨W, bd, base, ρ, st, r, en, q⟩ := q
    exact q [] W H (Post.refl r) rfl
  | [], _ :: _, _, _, _, h, _ => by cases h
  | _ :: _, [], _, _, _, h, _ => by cases h
  | k :: kk, e :: es, σ, H, Q, hl, q => by
    show rdE G C Wx e σ H fun y H2 => tPairs (prs G C Wx kk es) σ H2 fun ps H3 => Q ((kV (kyR k), y) :: ps) H3
    obtain ⟨W, bd, base, ρ, st, r, en, q⟩ := rd.bind (rel := DV G) q
    refine ⟨W, bd, base, ρ, st, r, en, q.mono ?_⟩
    rintro x H1 ⟨W1, bd1, base1, ρ1, st1, d, r1, en1, dv1, q1⟩
    refine pairs_ok (by simpa using hl) ?_
    obtain ⟨W, bd, base, ρ, st, r, en, q⟩ := rd.bind2 (rel := DVs G) (rel0 := DV G) (f := fun base ρ st => evEs C base es ρ st) (g := fun base ρ xs st => .ok (d :: xs) st) r1 en1 (fun W H st P => P.dv r1 dv1) q1
    refine ⟨W, bd, base, ρ, st, r, en, q.mono ?_⟩
    rintro xs H2 ⟨W2, bd2, base2, ρ2, st2, ds, r2, en2, dv2, de, q2⟩
    exact q2 _ W2 H2 (Post.refl r2) ⟨x, xs, rfl, dv2, de⟩
theorem chkKeys_ok {X : Cx} {pos : Pos} : ∀ {ks : List E} {pks : List (Option Expr)} {vs : List E} {pvs : List Expr}, chkKeys ks pks = true → pks.length = pvs.length → vs.length = pvs.length → (∀ (i : Nat) e p, vs[i]? = some e → pvs[i]? = some p → PE X p (rdE G C Wx e)) →
    ∃ kk, cstKeys ks = some kk ∧ kk.length = vs.length ∧ pks.all (·.isSome) = true ∧ PPs X pos pks pvs (prs G C Wx kk vs)
  | [], [], vs, pvs, _, h1, h2, _ => by
    have e1 : pvs = [] := by simpa using h1.symm
    subst e1
    have e2 : vs = [] := by simpa using h2
    subst e2
    exact ⟨[], rfl, rfl, rfl, pps_nil⟩
  | [], _ :: _, _, _, h, _, _, _ => by unfold chkKeys at h; cases h
  | k :: ks, pks, vs, pvs, h, h1, h2, hv => by
    unfold chkKeys at h
    split at h
    · rename_i z; cases z
    · rename_i d ks' c j p pks' z1
      cases z1
      obtain ⟨g1, g2⟩ := and2 h
      obtain ⟨g2, g3⟩ := and2 g2
      cases pvs with
      | nil => cases h1
      | cons pv pvs =>
        cases vs with
        | nil => cases h2
        | cons v vs =>
          obtain ⟨kk, e1, e2, e3, e4⟩ := chkKeys_ok (X := X) (pos := pos) (vs := vs) (pvs := pvs) g3 (by simpa using h1) (by simpa using h2) fun i e p a b => hv (i + 1) e p (by simpa using a) (by simpa using b)
          cases ek : keyOf d with
          | none => rw [ek] at g2; cases g2
          | some k =>
            refine ⟨k :: kk, ?_, by simp [e2], by simpa using e3, pps_cons ?_ (hv 0 v pv rfl rfl) e4⟩
            · show (keyOf d).bind (fun k => (cstKeys ks).map (k :: ·)) = _
              rw [ek, e1]; rfl
            · cases c with
              | int i => cases d with
                | int i' =>
                  have e : i = i' := of_decide_eq_true g1
                  subst e
                  cases ek
                  exact pe_int
                | _ => cases g1
              | str i => cases d with
                | str i' =>
                  have e : i.cps.toList = i' := of_decide_eq_true g1
                  subst e
                  cases ek
                  have : (kV (kyR (.inr i.cps.toList))) = V.str i := by show V.str ⟨i.cps.toList.toArray⟩ = V.str i; simp
                  rw [this]
                  exact pe_str
                | _ => cases g1
              | none => cases d with
                | non => cases ek
                | _ => cases g1
              | bool b => cases d with
                | bl _ => cases ek
                | _ => cases g1
              | _ => cases d <;> cases g1
    · cases h
theorem putAll_ok : ∀ {kk : List Ky} {ds : List D} {ys : List V} {ks : List Ky} {vs : List D} {kvs : List (Key × V)}, DVs G W n H ds ys → kk.length = ds.length → kvs.map (·.1) = ks.map kyR → DVs G W n H vs (kvs.map (·.2)) →
    (mergeK kvs (kk.zipWith (fun k y => (kyR k, y)) ys)).map (·.1) = (putAll ks vs kk ds).1.map kyR ∧ DVs G W n H (putAll ks vs kk ds).2 ((mergeK kvs (kk.zipWith (fun k y => (kyR k, y)) ys)).map (·.2))
  | [], [], ys, ks, vs, kvs, hd, _, h1, h2 => by
    rw [show ys = [] from hd]
    exact ⟨h1, h2⟩
  | [], _ :: _, _, _, _, _, _, h, _, _ => by cases h
  | _ :: _, [], _, _, _, _, _, h, _, _ => by cases h
  | k :: kk, d :: ds, _, ks, vs, kvs, hd, hl, h1, h2 => by
    obtain ⟨y, ys, rfl, hd1, hd2⟩ := hd
    obtain ⟨a, b⟩ := dPut_ok (k := k) hd1 h1 h2
    exact putAll_ok (kk := kk) (ds := ds) hd2 (by simpa using hl) a b
theorem s_disp (o : Xok G T N C lv Wx sc X) {bx : Bool} {k : E} {ks vs : List E} {pk : Option Expr} {pks : List (Option Expr)} {pvs : List Expr} {pos : Pos} (hk : chkKeys (k :: ks) (pk :: pks) = true) (h15 : (pk :: pks).length ≤ 15) (hl : (pk :: pks).length = pvs.length) (hl2 : vs.length = pvs.length)
    (hv : ∀ (i : Nat) e p, vs[i]? = some e → pvs[i]? = some p → PE X p (rdE G C Wx e)) : PE X (.Dict (pk :: pks) pvs pos) (rdE G C Wx (.dct bx (k :: ks) vs)) := by
  obtain ⟨kk, e1, e2, e3, P⟩ := chkKeys_ok (G := G) (C := C) (Wx := Wx) (X := X) (pos := pos) hk hl hl2 hv
  refine PE.weak (pe_disp P e3 hl (by simp) h15) fun σ H Q q => ?_
  obtain ⟨W, bd, base, ρ, st, r, en, q⟩ := q
  have q' : Ans (DV G) G bd base Wx σ W H st ((opt (cstKeys (k :: ks)) st).bind fun kk st => (evEs C base vs ρ st).bind fun ds st => if kk.length = ds.length then (let r := putAll [] [] kk ds; mkD bx r.1 r.2 st) else .bad) Q := q
  rw [e1] at q'
  have q1 : Ans (DV G) G bd base Wx σ W H st ((evEs C base vs ρ st).bind fun ds st => if kk.length = ds.length then (let r := putAll [] [] kk ds; mkD bx r.1 r.2 st) else .bad) Q := q'
  intro p hp
  refine pairs_ok e2 ?_
  obtain ⟨P0, w0⟩ := OwnO.new (o := .dK []) r hp (by simp) (by simp)
  refine ⟨W, bd, base, ρ, st, P0.rs, en.post P0 r, ?_⟩
  dsimp only
  cases ee : evEs C base vs ρ st with
  | bad => rw [ee] at q1; exact q1.elim
  | exc d st' =>
    rw [ee] at q1
    exact fun cls dd W' H' p2 x => q1 cls dd W' H' (P0.trans p2) x
  | ok ds st2 =>
    rw [ee] at q1
    have q2 : Ans (DV G) G bd base Wx σ W H st (if kk.length = ds.length then mkD bx (putAll [] [] kk ds).1 (putAll [] [] kk ds).2 st2 else .bad) Q := q1
    split at q2
    rotate_left
    · exact q2.elim
    rename_i hlen
    intro ys W2 H2 P2 dv2
    have PP := P0.trans P2
    have w2 := w0.post P2
    refine ⟨w2.at_, kk.zipWith (fun k y => (kyR k, y)) ys, ?_, ?_, ?_⟩
    · rw [List.map_zipWith]
    · rw [List.length_zipWith]
      have : kk.length ≤ 15 := by
        rw [e2, hl2, ← hl]; exact h15
      omega
    obtain ⟨a, b⟩ := putAll_ok (kk := kk) (ks := []) (vs := []) (kvs := []) dv2 hlen rfl rfl
    obtain ⟨pw, ww⟩ := w2.write (o' := .dK (mergeK [] (kk.zipWith (fun k y => (kyR k, y)) ys))) PP hp (by simp) (by simp)
    have b' := w2.chgs (o' := .dK (mergeK [] (kk.zipWith (fun k y => (kyR k, y)) ys))) b
    unfold mkD at q2
    split at q2
    rotate_left
    · exact q2.elim
    cases bx with
    | true =>
      have am : ∀ k, k < st2.length → (W2.add st2.length p).m k = W2.m k := fun k hk => if_neg (by omega)
      have an : (W2.add st2.length p).m st2.length = p := if_pos rfl
      refine q2 (.ref p) _ _ (ww.adopt_ob pw hp ⟨_, by rw [an]; exact ww.at_, a, DVs.wm (W := W2) (W' := W2.add st2.length p) (fun _ h => h) am (Nat.le_succ _) b'⟩) ⟨by rw [an], by simp⟩
    | false =>
      exact q2 (.ref p) _ _ (ww.adopt_frz pw hp) ⟨p, _, rfl, .inr rfl, .inl ww.at_, a, DVs.wm (W := W2) (W' := ⟨W2.m, fun a => W2.F a ∨ a = p⟩) (fun _ h => .inl h) (fun _ _ => rfl) (Nat.le_refl _) b'⟩
end
end Rf

namespace Rf
open PySem PySem.Spec PyProof.Rows L2
section
variable {G : Gx} {T : Tx} {N : List Str} {C : Call} {lv : Nat}
structure Sm (G : Gx) (C : Call) (Wx : WX) (X : Cx) (e : E) (p : Expr) : Prop where
  pe : PE X p (rdE G C Wx e)
  pt : PT X p (rdT G C Wx e)
  pw : ∀ op ps pos, p = .BoolOp op ps pos → PW X p (rdT G C Wx e)
theorem Sm.of {Wx : WX} {sc : Scope} {X : Cx} (o : Xok G T N C lv Wx sc X) {e : E} {p : Expr} (h : PE X p (rdE G C Wx e)) (he : ∀ whole, isTrue p X.env whole = (do let v ← whole; standAt p.pos; holding [v] (truthy v))) (hb : ∀ op ps pos, p ≠ .BoolOp op ps pos) : Sm G C Wx X e p :=
  ⟨h, s_tst o h he, fun op ps pos z => absurd z (hb op ps pos)⟩
theorem chk_ix {sc : Scope} {e : E} {p : Expr} (h : chkE T N sc e p = true) : PlainIx p := by
  cases p with
  | Slice a b c d =>
    unfold chkE at h
    split at h <;> contradiction
  | _ => exact fun _ _ => rfl
theorem Sm.bool {Wx : WX} {sc : Scope} {X : Cx} (o : Xok G T N C lv Wx sc X) {op : BoolOp} {e : E} {p : Expr} {rest : List Expr} {pos : Pos} (h : Sm G C Wx X e (boolOpOf op p rest pos)) : PW X (.BoolOp op (p :: rest) pos) (rdT G C Wx e) := by
  cases rest with
  | nil => cases op with
    | And => exact pw_and1 h.pt
    | Or => exact pw_or1 h.pt
  | cons q r => exact h.pw _ _ _ rfl
theorem chkEs_nil {sc : Scope} {es : List E} (h : chkEs T N sc es [] = true) : es = [] := by
  cases es with
  | nil => rfl
  | cons e es => unfold chkEs at h; contradiction
theorem chk_keys {sc : Scope} {i : Nat} {tg p : Expr} (h : chkI T N sc (.keys i) tg p = true) : ∃ y p0, p = .Name y p0 ∧ varB N sc i y = true := by
  unfold chkI at h
  split at h <;> first | contradiction | skip
  rename_i z; cases z
  exact ⟨_, _, rfl, h⟩
theorem s_callA {Wx : WX} {sc : Scope} {X : Cx} (o : Xok G T N C lv Wx sc X) (hh : T.hot = false) {scp : Bool} {f : Nat} {x : Str} {es : List E} {ps : List Expr} {p0 pos : Pos} (h1 : glB sc x = true) (h2 : decide (T.fname f = some x) = true) (h3 : chkEs T N sc es ps = true) (h : PA X ps (rdEs G C Wx es)) :
    PE X (.Call (.Name x p0) ps [] pos) (rdE G C Wx (.call scp f es)) := by
  have ns := chkEs_star h3
  cases ps with
  | nil =>
    have : es = [] := chkEs_nil h3
    subst this
    exact s_call0 o hh h1 (of_decide_eq_true h2)
  | cons p ps => exact s_call o hh h1 (of_decide_eq_true h2) h ns
theorem s_callkA {Wx : WX} {sc : Scope} {X : Cx} (o : Xok G T N C lv Wx sc X) (hh : T.hot = false) {scp : Bool} {f : Nat} {x : Str} {perm : List Nat} {es ks : List E} {ps : List Expr} {kws : List Keyword} {p0 pos : Pos} (h1 : glB sc x = true) (h2 : decide (T.fname f = some x) = true)
    (h3 : (T.kbs.any fun q => decide (q = (f, es.length, perm, q.2.2.2)) && decide (kws.map (·.arg) = q.2.2.2.map some)) = true) (h4 : chkEs T N sc es ps = true) (h : PA X ps (rdEs G C Wx es)) (hk : KwOk G C Wx X ks kws) (hl : ks.length = kws.length) :
    PE X (.Call (.Name x p0) ps kws pos) (rdE G C Wx (.callk scp f perm es ks)) := by
  obtain ⟨q, hq, h3⟩ := List.any_eq_true.mp h3
  obtain ⟨h6, h7⟩ := and2 h3
  have e6 := of_decide_eq_true h6
  have e7 := of_decide_eq_true h7
  have ns := chkEs_star h4
  have hl' : ks.length = q.2.2.2.length := by
    have := congrArg List.length e7
    rw [List.length_map, List.length_map] at this
    rw [hl, this]
  rw [e6] at hq
  cases ps with
  | nil =>
    have : es = [] := chkEs_nil h4
    subst this
    exact s_callk0 o hh h1 (of_decide_eq_true h2) hq e7 (s_kw hk) hl'
  | cons p ps => exact s_callk o hh h1 (of_decide_eq_true h2) hq e7 h ns (s_kw hk) hl'
theorem s_biA {Wx : WX} {sc : Scope} {X : Cx} (o : Xok G T N C lv Wx sc X) (hh : T.hot = false) {b : Bi} {bx : Bool} {x : Str} {es : List E} {ps : List Expr} {p0 pos : Pos} (h1 : glB sc x = true) (h2 : decide (biName b = x) = true) (h3 : (!ps.isEmpty) = true) (h4 : chkEs T N sc es ps = true) (h : PA X ps (rdEs G C Wx es)) :
    PE X (.Call (.Name x p0) ps [] pos) (rdE G C Wx (.bi b bx es)) := by
  have ns := chkEs_star h4
  cases ps with
  | nil => cases h3
  | cons p ps => exact s_bi o hh h1 (of_decide_eq_true h2) h ns
theorem s_callHA {Wx : WX} {sc : Scope} {X : Cx} (o : Xok G T N C lv Wx sc X) (hh : T.hot = true) {scp : Bool} {f : Nat} (hf : f ∈ T.hots) {x : Str} {es : List E} {ps : List Expr} {p0 pos : Pos} (h1 : glB sc x = true) (h2 : decide (T.fname f = some x) = true) (h0 : (!ps.isEmpty) = true) (h3 : chkEs T N sc es ps = true) (h : PA X ps (rdEs G C Wx es)) :
    PE X (.Call (.Name x p0) ps [] pos) (rdE G C Wx (.call scp f es)) := by
  have ns := chkEs_star h3
  cases ps with
  | nil => cases h0
  | cons p ps => exact s_callH o hh hf h1 (of_decide_eq_true h2) h ns
theorem s_biHA {Wx : WX} {sc : Scope} {X : Cx} (o : Xok G T N C lv Wx sc X) (hh : T.hot = true) {b : Bi} (hb : hotBi b = true) {bx : Bool} {x : Str} {es : List E} {ps : List Expr} {p0 pos : Pos} (h1 : glB sc x = true) (h2 : decide (biName b = x) = true) (h3 : (!ps.isEmpty) = true) (h4 : chkEs T N sc es ps = true) (h : PA X ps (rdEs G C Wx es)) :
    PE X (.Call (.Name x p0) ps [] pos) (rdE G C Wx (.bi b bx es)) := by
  have ns := chkEs_star h4
  cases ps with
  | nil => cases h3
  | cons p ps => exact s_biH o (o.hotc hh) hb h1 (of_decide_eq_true h2) h ns
theorem s_mkxA {Wx : WX} {sc : Scope} {X : Cx} (o : Xok G T N C lv Wx sc X) (hh : T.hot = false) {c : Nat} {x : Str} {es : List E} {ps : List Expr} {p0 pos : Pos} (h1 : glB sc x = true) (h2 : (match T.cls c with | some q => decide (x = q.1) && decide (es.length = q.2.length) | none => false) = true) (h4 : chkEs T N sc es ps = true) (h : PA X ps (rdEs G C Wx es)) :
    PE X (.Call (.Name x p0) ps [] pos) (rdE G C Wx (.mkx c es)) := by
  have ns := chkEs_star h4
  cases et : T.cls c with
  | none => rw [et] at h2; cases h2
  | some q =>
    rw [et] at h2
    obtain ⟨a1, a2⟩ := and2 h2
    obtain ⟨y, fl⟩ := q
    have e1 : x = y := of_decide_eq_true a1
    have e2 : es.length = fl.length := of_decide_eq_true a2
    subst e1
    cases ps with
    | nil =>
      have : es = [] := chkEs_nil h4
      subst this
      have : fl = [] := List.eq_nil_of_length_eq_zero e2.symm
      subst this
      exact s_mkx0 o h1 et
    | cons p ps => exact s_mkx o hh h1 et e2 (fun z => by subst z; unfold chkEs at h4; contradiction) h ns
theorem s_mkxkA {Wx : WX} {sc : Scope} {X : Cx} (o : Xok G T N C lv Wx sc X) (hh : T.hot = false) {c : Nat} {x : Str} {es : List E} {kws : List Keyword} {p0 pos : Pos} (h1 : glB sc x = true) (h2 : (match T.cls c with | some q => decide (x = q.1) && (decide (kws.map (·.arg) = q.2.map some) && !q.2.isEmpty) | none => false) = true) (hk : KwOk G C Wx X es kws) (hl : es.length = kws.length) :
    PE X (.Call (.Name x p0) [] kws pos) (rdE G C Wx (.mkxk c es)) := by
  cases et : T.cls c with
  | none => rw [et] at h2; cases h2
  | some q =>
    rw [et] at h2
    obtain ⟨a1, a2⟩ := and2 h2
    obtain ⟨a2, a3⟩ := and2 a2
    obtain ⟨y, fl⟩ := q
    have e1 : x = y := of_decide_eq_true a1
    have e2 : kws.map (·.arg) = fl.map some := of_decide_eq_true a2
    subst e1
    have e3 := congrArg List.length e2
    rw [List.length_map, List.length_map] at e3
    exact s_mkxk o hh h1 et (by omega) (fun z => by subst z; cases a3) e2 (s_kw hk)
theorem hot_or {T : Tx} {b : Bool} (h : (!T.hot || b) = true) : T.hot = false ∨ (T.hot = true ∧ b = true) := by
  cases e : T.hot with
  | false => exact .inl rfl
  | true => rw [e] at h; exact .inr ⟨rfl, h⟩
theorem hot_no {T : Tx} (h : (!T.hot) = true) : T.hot = false := by simpa using h
theorem s_callvA {Wx : WX} {sc : Scope} {X : Cx} (o : Xok G T N C lv Wx sc X) (hh : T.hot = false) {scp : Bool} {i : Nat} {x : Str} {es : List E} {ps : List Expr} {p0 pos : Pos} (h2 : varB N sc i x = true) (h3 : (!ps.isEmpty) = true) (h4 : chkEs T N sc es ps = true) (h : PA X ps (rdEs G C Wx es)) :
    PE X (.Call (.Name x p0) ps [] pos) (rdE G C Wx (.callv scp i es)) := by
  have ns := chkEs_star h4
  cases ps with
  | nil => cases h3
  | cons p ps => exact s_callv o hh h2 h ns
theorem noKeys_ok {it : I} (h : noKeys it = true) : ¬ ∃ i, it = .keys i := by
  rintro ⟨i, rfl⟩
  cases h
theorem noSet_of {sc : Scope} {it : I} {tg p : Expr} (h : chkI T N sc it tg p = true) (hk : noKeys it = true) : noSet p = true := by
  cases it with
  | val e => unfold chkI at h; exact chkE_noset h
  | keys i => cases hk
  | enu e =>
    unfold chkI at h
    split at h <;> first | contradiction | rfl
  | items e => unfold chkI at h; contradiction
  | _ =>
    unfold chkI at h
    split at h <;> first | contradiction | rfl
mutual
theorem simE : (e : E) → {p : Expr} → {Wx : WX} → {sc : Scope} → {X : Cx} → Xok G T N C lv Wx sc X → chkE T N sc e p = true → Sm G C Wx X e p
  | E.bad, p, Wx, sc, X, o, h => by
    unfold chkE at h
    have z : PE X p (rdE G C Wx .bad) := ⟨fun pins s σ H Q I ⟨W, bd, base, ρ, st, r, en, q⟩ => q.elim⟩
    refine ⟨z, ⟨fun pins s σ H Q I ⟨W, bd, base, ρ, st, r, en, q⟩ => q.elim⟩, fun op ps pos e => ⟨fun wh pins s σ H Q I ⟨W, bd, base, ρ, st, r, en, q⟩ => q.elim⟩⟩
  | E.cst d, p, Wx, sc, X, o, h => by
    unfold chkE at h
    split at h <;> first | contradiction | skip
    rename_i z; cases z
    exact .of o (s_cst o h) (fun _ => rfl) (by simp)
  | E.var i, p, Wx, sc, X, o, h => by
    unfold chkE at h
    split at h <;> first | contradiction | skip
    rename_i z; cases z
    exact .of o (s_var o h) (fun _ => rfl) (by simp)
  | E.glc x d, p, Wx, sc, X, o, h => by
    unfold chkE at h
    split at h <;> first | contradiction | skip
    rename_i z; cases z
    obtain ⟨h1, h2⟩ := and2 h
    obtain ⟨h2, h3⟩ := and2 h2
    cases of_decide_eq_true h1
    obtain ⟨q, hq, h3⟩ := List.any_eq_true.mp h3
    obtain ⟨h4, h5⟩ := and2 h3
    have e : q = (x, d) := Prod.ext (of_decide_eq_true h4) (sameD_ok h5)
    exact .of o (s_glc o h2 (e ▸ hq)) (fun _ => rfl) (by simp)
  | E.glf f, p, Wx, sc, X, o, h => by
    unfold chkE at h
    split at h <;> first | contradiction | skip
    rename_i z; cases z
    obtain ⟨h1, h2⟩ := and2 h
    exact .of o (s_glf o h1 (of_decide_eq_true h2)) (fun _ => rfl) (by simp)
  | E.bin op bx a b, p, Wx, sc, X, o, h => by
    unfold chkE at h
    split at h <;> first | contradiction | skip
    rename_i z; cases z
    obtain ⟨h1, h2⟩ := and2 h
    obtain ⟨h2, h3⟩ := and2 h2
    cases of_decide_eq_true h1
    exact .of o (s_bin o (simE a o h2).pe (simE b o h3).pe) (fun _ => rfl) (by simp)
  | E.neg a, p, Wx, sc, X, o, h => by
    unfold chkE at h
    split at h <;> first | contradiction | skip
    rename_i z; cases z
    exact .of o (s_neg o (simE a o h).pe) (fun _ => rfl) (by simp)
  | E.land a b, p, Wx, sc, X, o, h => by
    unfold chkE at h
    split at h <;> first | contradiction | skip
    rename_i z; cases z
    obtain ⟨h1, h2⟩ := and2 h
    have ia := simE a o h1
    have ib := simE b o h2
    have w := t_land ia.pt (Sm.bool o ib)
    exact ⟨s_land o ia.pe ib.pe, w.pt, fun _ _ _ z => by cases z; exact w⟩
  | E.lor a b, p, Wx, sc, X, o, h => by
    unfold chkE at h
    split at h <;> first | contradiction | skip
    rename_i z; cases z
    obtain ⟨h1, h2⟩ := and2 h
    have ia := simE a o h1
    have ib := simE b o h2
    have w := t_lor ia.pt (Sm.bool o ib)
    exact ⟨s_lor o ia.pe ib.pe, w.pt, fun _ _ _ z => by cases z; exact w⟩
  | E.lnot a, p, Wx, sc, X, o, h => by
    unfold chkE at h
    split at h <;> first | contradiction | skip
    rename_i z; cases z
    have ia := simE a o h
    exact ⟨s_lnot o ia.pe, t_lnot ia.pt, by simp⟩
  | E.ife c a b, p, Wx, sc, X, o, h => by
    unfold chkE at h
    split at h <;> first | contradiction | skip
    rename_i z; cases z
    obtain ⟨h1, h2⟩ := and2 h
    obtain ⟨h2, h3⟩ := and2 h2
    have ic := simE c o h1
    have ia := simE a o h2
    have ib := simE b o h3
    exact ⟨s_ife o ic.pt ia.pe ib.pe, t_ife ic.pt ia.pt ib.pt, by simp⟩
  | E.cmp op a b, p, Wx, sc, X, o, h => by
    unfold chkE at h
    split at h <;> first | contradiction | skip
    rename_i z; cases z
    obtain ⟨h1, h2⟩ := and2 h
    obtain ⟨h2, h3⟩ := and2 h2
    cases of_decide_eq_true h1
    have z := s_cmp o (op := op) (pos := ‹Pos›) (simE a o h2).pe (simE b o h3).pe (chkE_noset h3)
    exact ⟨z.1, z.2, by simp⟩
  | E.chain op op' a b c, p, Wx, sc, X, o, h => by
    unfold chkE at h
    split at h <;> first | contradiction | skip
    rename_i z; cases z
    obtain ⟨h1, h2⟩ := and2 h
    obtain ⟨h2, h3⟩ := and2 h2
    obtain ⟨h3, h4⟩ := and2 h3
    obtain ⟨h4, h5⟩ := and2 h4
    cases of_decide_eq_true h1
    cases of_decide_eq_true h2
    have z := s_chain o (op := op) (op' := op') (pos := ‹Pos›) (simE a o h3).pe (simE b o h4).pe (simE c o h5).pe (chkE_noset h5)
    exact ⟨z.1, z.2, by simp⟩
  | E.tup es, p, Wx, sc, X, o, h => by
    unfold chkE at h
    split at h <;> first | contradiction | skip
    rename_i z; cases z
    exact .of o (s_tup (simEs es o h)) (fun _ => rfl) (by simp)
  | E.lst bx es, p, Wx, sc, X, o, h => by
    unfold chkE at h
    split at h <;> first | contradiction | skip
    rename_i z; cases z
    exact .of o (s_lst (simEs es o h)) (fun _ => rfl) (by simp)
  | E.dct bx ks vs, p, Wx, sc, X, o, h => by
    unfold chkE at h
    split at h <;> first | contradiction | skip
    · rename_i z; cases z
      exact .of o s_dct (fun _ => rfl) (by simp)
    · rename_i z; cases z
      obtain ⟨h1, h⟩ := and2 h
      obtain ⟨h2, h⟩ := and2 h
      obtain ⟨h3, h4⟩ := and2 h
      have z := simAll _ o h4
      exact .of o (s_disp o h1 (of_decide_eq_true h2) (of_decide_eq_true h3) z.1 z.2) (fun _ => rfl) (by simp)
  | E.xf i tbl, p, Wx, sc, X, o, h => by
    unfold chkE at h
    split at h <;> first | contradiction | skip
    rename_i z; cases z
    obtain ⟨h2, h3⟩ := and2 h
    exact .of o (s_xf o h2 h3) (fun _ => rfl) (by simp)
  | E.sub a i, p, Wx, sc, X, o, h => by
    unfold chkE at h
    split at h <;> first | contradiction | skip
    rename_i z; cases z
    obtain ⟨h1, h2⟩ := and2 h
    exact .of o (s_sub o (simE a o h1).pe (simE i o h2).pe (chk_ix h2)) (fun _ => rfl) (by simp)
  | E.slc bx a lo hi, p, Wx, sc, X, o, h => by
    unfold chkE at h
    split at h <;> first | contradiction | skip
    rename_i z; cases z
    obtain ⟨h1, h2⟩ := and2 h
    obtain ⟨h2, h3⟩ := and2 h2
    exact .of o (s_slc o (simE a o h1).pe (simO lo o h2) (simO hi o h3)) (fun _ => rfl) (by simp)
  | E.fld a f, p, Wx, sc, X, o, h => by
    unfold chkE at h
    contradiction
  | E.callv k i es, p, Wx, sc, X, o, h => by
    unfold chkE at h
    split at h <;> first | contradiction | skip
    rename_i z; cases z
    obtain ⟨h1, h⟩ := and2 h
    obtain ⟨h2, h⟩ := and2 h
    obtain ⟨h3, h4⟩ := and2 h
    exact .of o (s_callvA o (hot_no h1) h2 h3 h4 (simEs es o h4)) (fun _ => rfl) (by simp)
  | E.meth k a f es, p, Wx, sc, X, o, h => by
    unfold chkE at h
    contradiction
  | E.mk c f es, p, Wx, sc, X, o, h => by
    unfold chkE at h
    contradiction
  | E.comp2 bx own own2 t it c t2 it2 c2 e, p, Wx, sc, X, o, h => by
    unfold chkE at h
    split at h <;> first | contradiction | skip
    rename_i z; cases z
    obtain ⟨g0, h⟩ := and2 h
    have hh := hot_no g0
    obtain ⟨g1, h⟩ := and2 h
    obtain ⟨g2, h⟩ := and2 h
    obtain ⟨g3, h⟩ := and2 h
    obtain ⟨g4, h⟩ := and2 h
    obtain ⟨g5, h⟩ := and2 h
    obtain ⟨g6, h⟩ := and2 h
    obtain ⟨g7, h⟩ := and2 h
    obtain ⟨g8, h⟩ := and2 h
    obtain ⟨g9, h⟩ := and2 h
    obtain ⟨g10, g11⟩ := and2 h
    have z := simI it o (noKeys_ok g4) g3
    exact .of o (s_comp2 o hh g1 g2 z.1 z.2 g5 (fun X' o' => simIf c o' g6) (fun X' o' => (simI it2 o' (noKeys_ok g8) g7).1) (noSet_of g7 g8) g9 (fun X' o' => simIf c2 o' g10) (fun X' o' => (simE e o' g11).pe)) (fun _ => rfl) (by simp)
  | E.call k f es, p, Wx, sc, X, o, h => by
    unfold chkE at h
    split at h <;> first | contradiction | skip
    rename_i z; cases z
    obtain ⟨h0, h⟩ := and2 h
    obtain ⟨h1, h2⟩ := and2 h
    obtain ⟨h2, h3⟩ := and2 h2
    rcases hot_or h0 with hh | ⟨hh, hf⟩
    · exact .of o (s_callA o hh h1 h2 h3 (simEs es o h3)) (fun _ => rfl) (by simp)
    · obtain ⟨hf, hn⟩ := and2 hf
      exact .of o (s_callHA o hh (of_decide_eq_true hf) h1 h2 hn h3 (simEs es o h3)) (fun _ => rfl) (by simp)
  | E.callx k f i es, p, Wx, sc, X, o, h => by
    unfold chkE at h
    split at h <;> first | contradiction | skip
    rename_i z; cases z
    obtain ⟨hh, h⟩ := and2 h
    obtain ⟨hf, h⟩ := and2 h
    obtain ⟨h1, h⟩ := and2 h
    obtain ⟨h2, h⟩ := and2 h
    obtain ⟨h3, h4⟩ := and2 h
    exact .of o (s_callx o hh (of_decide_eq_true hf) h1 (of_decide_eq_true h2) h3 (simEs es o h4) (chkEs_star h4)) (fun _ => rfl) (by simp)
  | E.mkx c es, p, Wx, sc, X, o, h => by
    unfold chkE at h
    split at h <;> first | contradiction | skip
    rename_i z; cases z
    obtain ⟨h0, h⟩ := and2 h
    obtain ⟨h1, h⟩ := and2 h
    obtain ⟨h2, h3⟩ := and2 h
    exact .of o (s_mkxA o (hot_no h0) h1 h2 h3 (simEs es o h3)) (fun _ => rfl) (by simp)
  | E.mkxk c es, p, Wx, sc, X, o, h => by
    unfold chkE at h
    split at h <;> first | contradiction | skip
    rename_i z; cases z
    obtain ⟨h0, h⟩ := and2 h
    obtain ⟨h1, h⟩ := and2 h
    obtain ⟨h2, h3⟩ := and2 h
    obtain ⟨hk, hl⟩ := simKw es o h3
    exact .of o (s_mkxkA o (hot_no h0) h1 h2 hk hl) (fun _ => rfl) (by simp)
  | E.isx i hc cs ns, p, Wx, sc, X, o, h => by
    unfold chkE at h
    split at h <;> first | contradiction | skip
    rename_i z; cases z
    obtain ⟨h1, h⟩ := and2 h
    obtain ⟨h2, h⟩ := and2 h
    obtain ⟨h3, h⟩ := and2 h
    obtain ⟨h4, h⟩ := and2 h
    obtain ⟨h5, h6⟩ := and2 h
    exact .of o (s_isx o h1 (of_decide_eq_true h2) h3 h4 (of_decide_eq_true h5) h6) (fun _ => rfl) (by simp)
  | E.callk k f perm es ks, p, Wx, sc, X, o, h => by
    unfold chkE at h
    split at h <;> first | contradiction | skip
    rename_i z; cases z
    obtain ⟨h0, h⟩ := and2 h
    obtain ⟨h1, h2⟩ := and2 h
    obtain ⟨h2, h3⟩ := and2 h2
    obtain ⟨h3, h4⟩ := and2 h3
    obtain ⟨h4, h5⟩ := and2 h4
    obtain ⟨hk, hl⟩ := simKw ks o h5
    exact .of o (s_callkA o (hot_no h0) h1 h2 h3 h4 (simEs es o h4) hk hl) (fun _ => rfl) (by simp)
  | E.bi b bx es, p, Wx, sc, X, o, h => by
    unfold chkE at h
    split at h <;> first | contradiction | skip
    rename_i z; cases z
    obtain ⟨h0, h⟩ := and2 h
    obtain ⟨h1, h2⟩ := and2 h
    obtain ⟨h2, h3⟩ := and2 h2
    obtain ⟨h3, h4⟩ := and2 h3
    rcases hot_or h0 with hh | ⟨hh, hb⟩
    · exact .of o (s_biA o hh h1 h2 h3 h4 (simEs es o h4)) (fun _ => rfl) (by simp)
    · exact .of o (s_biHA o hh hb h1 h2 h3 h4 (simEs es o h4)) (fun _ => rfl) (by simp)
  | E.maxd e i, p, Wx, sc, X, o, h => by
    unfold chkE at h
    split at h <;> first | contradiction | skip
    rename_i z; cases z
    obtain ⟨g0, h⟩ := and2 h
    obtain ⟨g1, k1⟩ := and2 h
    obtain ⟨g2, k2⟩ := and2 k1
    obtain ⟨g3, k3⟩ := and2 k2
    obtain ⟨g4, k4⟩ := and2 k3
    have e3 := of_decide_eq_true g3
    have e4 := of_decide_eq_true g4
    rw [e3, ← e4]
    exact .of o (s_maxd o (hot_no g0) g1 (of_decide_eq_true g2) (simE e o k4).pe (chkE_star k4)) (fun _ => rfl) (by simp)
  | E.isi ks e, p, Wx, sc, X, o, h => by
    unfold chkE at h
    split at h <;> first | contradiction | skip
    rename_i z; cases z
    obtain ⟨h1, h2⟩ := and2 h
    obtain ⟨h2, h3⟩ := and2 h2
    obtain ⟨h3, h4⟩ := and2 h3
    obtain ⟨h4, h5⟩ := and2 h4
    exact .of o (s_isi o h1 (of_decide_eq_true h2) h3 (of_decide_eq_true h4) (simE e o h5).pe (chkE_star h5)) (fun _ => rfl) (by simp)
  | E.comp bx own t it c e, p, Wx, sc, X, o, h => by
    unfold chkE at h
    split at h <;> first | contradiction | skip
    rename_i z; cases z
    obtain ⟨h0, h⟩ := and2 h
    obtain ⟨h1, h2⟩ := and2 h
    obtain ⟨h2, h3⟩ := and2 h2
    obtain ⟨h3, h4⟩ := and2 h3
    obtain ⟨h4, h5⟩ := and2 h4
    refine .of o ?_ (fun _ => rfl) (by simp)
    rcases hot_or h0 with hh | ⟨hh, hi⟩
    · by_cases hk : ∃ i, it = .keys i
      · obtain ⟨i, rfl⟩ := hk
        obtain ⟨y, p0, rfl, hv⟩ := chk_keys h2
        exact s_compk o hh h1 hv h3 (fun X' o' => simIf c o' h4) (fun X' o' => (simE e o' h5).pe)
      · have z := simI it o hk h2
        exact s_comp o hh h1 z.1 z.2 h3 (fun X' o' => simIf c o' h4) (fun X' o' => (simE e o' h5).pe)
    · by_cases hk : ∃ i, it = .keys i
      · obtain ⟨i, rfl⟩ := hk
        obtain ⟨y, p0, rfl, hv⟩ := chk_keys h2
        exact s_compkH o hh h1 hv h3 (fun X' o' => simIf c o' h4) (fun X' o' => (simE e o' h5).pe)
      · have z := simIH it o hk hi h2
        exact s_compH o hh h1 z.1 z.2 h3 (fun X' o' => simIf c o' h4) (fun X' o' => (simE e o' h5).pe)
  | .mt m bx a es, p, Wx, sc, X, o, h => by
    unfold chkE at h
    split at h <;> first | contradiction | skip
    · rename_i z; cases z
      obtain ⟨g1, k1⟩ := and2 h
      obtain ⟨g2, k2⟩ := and2 k1
      obtain ⟨g3, k3⟩ := and2 k2
      obtain ⟨g4, k4⟩ := and2 k3
      obtain ⟨g5, g6⟩ := and2 k4
      have e1 := of_decide_eq_true g1
      rw [e1]
      exact .of o (s_get2 o g2 (of_decide_eq_true g3) (simE _ o g4).pe (simE _ o g5).pe (simE _ o g6).pe (chkE_star g5) (chkE_star g6)) (fun _ => rfl) (by simp)
    · rename_i z; cases z
      obtain ⟨g1, k1⟩ := and2 h
      obtain ⟨g2, k2⟩ := and2 k1
      obtain ⟨g3, k3⟩ := and2 k2
      obtain ⟨g4, g5⟩ := and2 k3
      have e1 := of_decide_eq_true g1
      rw [e1]
      exact .of o (s_append o g2 (of_decide_eq_true g3) (simE _ o g4).pe (simE _ o g5).pe (chkE_star g5)) (fun _ => rfl) (by simp)
    · rename_i z; cases z
      obtain ⟨g1, k1⟩ := and2 h
      obtain ⟨g2, k2⟩ := and2 k1
      obtain ⟨g3, k3⟩ := and2 k2
      obtain ⟨g4, g5⟩ := and2 k3
      have e1 := of_decide_eq_true g1
      rw [e1]
      exact .of o (s_split o g2 (of_decide_eq_true g3) (simE _ o g4).pe (simE _ o g5).pe (chkE_star g5)) (fun _ => rfl) (by simp)
    · rename_i z; cases z
      obtain ⟨g1, k1⟩ := and2 h
      obtain ⟨g2, k2⟩ := and2 k1
      obtain ⟨g3, k3⟩ := and2 k2
      obtain ⟨g4, g5⟩ := and2 k3
      have e1 := of_decide_eq_true g1
      rw [e1]
      exact .of o (s_join o g2 (of_decide_eq_true g3) (simE _ o g4).pe (simE _ o g5).pe (chkE_star g5)) (fun _ => rfl) (by simp)
    · rename_i z; cases z
      obtain ⟨g1, k1⟩ := and2 h
      obtain ⟨g2, k2⟩ := and2 k1
      obtain ⟨g3, k3⟩ := and2 k2
      obtain ⟨g4, g5⟩ := and2 k3
      have e1 := of_decide_eq_true g1
      rw [e1]
      exact .of o (s_extend o g2 (of_decide_eq_true g3) (simE _ o g4).pe (simE _ o g5).pe (chkE_star g5)) (fun _ => rfl) (by simp)
    · rename_i z; cases z
      obtain ⟨g1, k1⟩ := and2 h
      obtain ⟨g2, k2⟩ := and2 k1
      obtain ⟨g3, k3⟩ := and2 k2
      obtain ⟨g4, g5⟩ := and2 k3
      have e1 := of_decide_eq_true g1
      rw [e1]
      exact .of o (s_pop1 o g2 (of_decide_eq_true g3) (simE _ o g4).pe (simE _ o g5).pe (chkE_star g5)) (fun _ => rfl) (by simp)
    · rename_i z; cases z
      obtain ⟨g1, k1⟩ := and2 h
      obtain ⟨g2, k2⟩ := and2 k1
      obtain ⟨g3, g4⟩ := and2 k2
      have e1 := of_decide_eq_true g1
      rw [e1]
      exact .of o (s_pop0 o g2 (of_decide_eq_true g3) (simE _ o g4).pe) (fun _ => rfl) (by simp)
theorem simEs : (es : List E) → {ps : List Expr} → {Wx : WX} → {sc : Scope} → {X : Cx} → Xok G T N C lv Wx sc X → chkEs T N sc es ps = true → PA X ps (rdEs G C Wx es)
  | [], [], Wx, sc, X, o, h => s_nil
  | [], _ :: _, Wx, sc, X, o, h => by unfold chkEs at h; contradiction
  | _ :: _, [], Wx, sc, X, o, h => by unfold chkEs at h; contradiction
  | e :: es, p :: ps, Wx, sc, X, o, h => by
    unfold chkEs at h
    obtain ⟨h1, h2⟩ := and2 h
    exact s_cons (simE e o h1).pe (simEs es o h2) (chkE_star h1)
theorem simAll : (es : List E) → {ps : List Expr} → {Wx : WX} → {sc : Scope} → {X : Cx} → Xok G T N C lv Wx sc X → chkEs T N sc es ps = true → es.length = ps.length ∧ ∀ (i : Nat) e p, es[i]? = some e → ps[i]? = some p → PE X p (rdE G C Wx e)
  | [], [], Wx, sc, X, o, h => ⟨rfl, fun i e p a => by simp at a⟩
  | [], _ :: _, Wx, sc, X, o, h => by unfold chkEs at h; contradiction
  | _ :: _, [], Wx, sc, X, o, h => by unfold chkEs at h; contradiction
  | e :: es, p :: ps, Wx, sc, X, o, h => by
    unfold chkEs at h
    obtain ⟨h1, h2⟩ := and2 h
    have a := (simE e o h1).pe
    obtain ⟨b1, b2⟩ := simAll es o h2
    refine ⟨by simp [b1], fun i e' p' x y => ?_⟩
    cases i with
    | zero =>
      simp at x y
      subst x y
      exact a
    | succ i => exact b2 i e' p' (by simpa using x) (by simpa using y)
theorem simKw : (es : List E) → {ps : List Keyword} → {Wx : WX} → {sc : Scope} → {X : Cx} → Xok G T N C lv Wx sc X → chkKw T N sc es ps = true → KwOk G C Wx X es ps ∧ es.length = ps.length
  | [], [], Wx, sc, X, o, h => ⟨.nil, rfl⟩
  | [], _ :: _, Wx, sc, X, o, h => by unfold chkKw at h; contradiction
  | _ :: _, [], Wx, sc, X, o, h => by unfold chkKw at h; contradiction
  | e :: es, ⟨nm, p, kp⟩ :: ps, Wx, sc, X, o, h => by
    unfold chkKw at h
    obtain ⟨h1, h2⟩ := and2 h
    obtain ⟨i1, i2⟩ := simKw es o h2
    exact ⟨.cons (simE e o h1).pe i1, by rw [List.length_cons, List.length_cons, i2]⟩
theorem simO : (oe : Option E) → {p : Option Expr} → {Wx : WX} → {sc : Scope} → {X : Cx} → Xok G T N C lv Wx sc X → chkO T N sc oe p = true → PO X p (rdO G C Wx oe)
  | none, none, Wx, sc, X, o, h => s_oNone
  | none, some _, Wx, sc, X, o, h => by unfold chkO at h; contradiction
  | some _, none, Wx, sc, X, o, h => by unfold chkO at h; contradiction
  | some e, some p, Wx, sc, X, o, h => by
    unfold chkO at h
    exact s_oSome (simE e o h).pe
theorem simIf : (oe : Option E) → {ps : List Expr} → {sc : Scope} → {X : Cx} → Xok G T N C lv wx0 sc X → chkIf T N sc oe ps = true → PTs X ps (rdIf G C oe)
  | none, [], sc, X, o, h => s_if0
  | none, _ :: _, sc, X, o, h => by unfold chkIf at h; contradiction
  | some _, [], sc, X, o, h => by unfold chkIf at h; contradiction
  | some _, _ :: _ :: _, sc, X, o, h => by unfold chkIf at h; contradiction
  | some e, [p], sc, X, o, h => by
    unfold chkIf at h
    exact s_if1 (simE e o h).pt
theorem simIH : (it : I) → {tg p : Expr} → {Wx : WX} → {sc : Scope} → {X : Cx} → Xok G T N C lv Wx sc X → (¬ ∃ i, it = .keys i) → hotI it = true → chkI T N sc it tg p = true → L2H.PIH X tg p (rdI G C Wx it) ∧ noSet p = true
  | .val e, tg, p, Wx, sc, X, o, hk, hi, h => by cases hi
  | .keys i, tg, p, Wx, sc, X, o, hk, hi, h => absurd ⟨i, rfl⟩ hk
  | .rng1 a, tg, p, Wx, sc, X, o, hk, hi, h => by cases hi
  | .rng2 a b, tg, p, Wx, sc, X, o, hk, hi, h => by cases hi
  | .zip a b, tg, p, Wx, sc, X, o, hk, hi, h => by
    unfold chkI at h
    split at h <;> first | contradiction | skip
    rename_i z; cases z
    obtain ⟨h1, h2⟩ := and2 h
    obtain ⟨h2, h3⟩ := and2 h2
    obtain ⟨h3, h4⟩ := and2 h3
    exact ⟨i_zipH o h1 (of_decide_eq_true h2) (simE a o h3).pe (simE b o h4).pe (chkE_star h3) (chkE_star h4), rfl⟩
  | .enu e, tg, p, Wx, sc, X, o, hk, hi, h => by cases hi
  | .enul e, tg, p, Wx, sc, X, o, hk, hi, h => by
    unfold chkI at h
    split at h <;> first | contradiction | skip
    rename_i z; cases z
    obtain ⟨h1, h2⟩ := and2 h
    obtain ⟨h2, h3⟩ := and2 h2
    exact ⟨i_enulH o h1 (of_decide_eq_true h2) (simE e o h3).pe (chkE_star h3), rfl⟩
  | .items e, tg, p, Wx, sc, X, o, hk, hi, h => by cases hi
theorem simI : (it : I) → {tg p : Expr} → {Wx : WX} → {sc : Scope} → {X : Cx} → Xok G T N C lv Wx sc X → (¬ ∃ i, it = .keys i) → chkI T N sc it tg p = true → PI X tg p (rdI G C Wx it) ∧ noSet p = true
  | .val e, tg, p, Wx, sc, X, o, hk, h => by
    unfold chkI at h
    exact ⟨i_val o (simE e o h).pe, chkE_noset h⟩
  | .keys i, tg, p, Wx, sc, X, o, hk, h => absurd ⟨i, rfl⟩ hk
  | .rng1 a, tg, p, Wx, sc, X, o, hk, h => by
    unfold chkI at h
    split at h <;> first | contradiction | skip
    rename_i z; cases z
    obtain ⟨h1, h2⟩ := and2 h
    obtain ⟨h2, h3⟩ := and2 h2
    exact ⟨i_rng1 o h1 (of_decide_eq_true h2) (simE a o h3).pe (chkE_star h3), rfl⟩
  | .rng2 a b, tg, p, Wx, sc, X, o, hk, h => by
    unfold chkI at h
    split at h <;> first | contradiction | skip
    rename_i z; cases z
    obtain ⟨h1, h2⟩ := and2 h
    obtain ⟨h2, h3⟩ := and2 h2
    obtain ⟨h3, h4⟩ := and2 h3
    exact ⟨i_rng2 o h1 (of_decide_eq_true h2) (simE a o h3).pe (simE b o h4).pe (chkE_star h3) (chkE_star h4), rfl⟩
  | .zip a b, tg, p, Wx, sc, X, o, hk, h => by
    unfold chkI at h
    split at h <;> first | contradiction | skip
    rename_i z; cases z
    obtain ⟨h1, h2⟩ := and2 h
    obtain ⟨h2, h3⟩ := and2 h2
    obtain ⟨h3, h4⟩ := and2 h3
    exact ⟨i_zip o h1 (of_decide_eq_true h2) (simE a o h3).pe (simE b o h4).pe (chkE_star h3) (chkE_star h4), rfl⟩
  | .enu e, tg, p, Wx, sc, X, o, hk, h => by
    unfold chkI at h
    split at h <;> first | contradiction | skip
    rename_i z; cases z
    obtain ⟨h1, h2⟩ := and2 h
    obtain ⟨h2, h3⟩ := and2 h2
    exact ⟨i_enu o h1 (of_decide_eq_true h2) (simE e o h3).pe (chkE_star h3), rfl⟩
  | .enul e, tg, p, Wx, sc, X, o, hk, h => by
    unfold chkI at h
    split at h <;> first | contradiction | skip
    rename_i z; cases z
    obtain ⟨h1, h2⟩ := and2 h
    obtain ⟨h2, h3⟩ := and2 h2
    exact ⟨i_enul o h1 (of_decide_eq_true h2) (simE e o h3).pe (chkE_star h3), rfl⟩
  | .items e, tg, p, Wx, sc, X, o, hk, h => by
    unfold chkI at h
    contradiction
end
end
end Rf

namespace Rf
open PySem PySem.Spec PyProof.Rows L2
/-! ### the same statement -/
def tgB (N : List Str) (sc : Scope) (i : Nat) (x : Str) : Bool := (match N[i]? with
  | some y => decide (y = x)
  | none => false) && locB sc x
def noComp : Expr → Bool
  | .ListComp _ _ _ _ => false
  | .SetComp _ _ _ _ => false
  | .DictComp _ _ _ _ _ => false
  | _ => true
/-- the stores stand in their order -/
def offLoc (sc : Scope) : Expr → Bool
  | .Name x _ => (match sc.names.lookup x with
    | some .local => false
    | _ => true)
  | _ => true
def swNo (sc : Scope) : Expr → Expr → Bool
  | .Tuple ts _ _, .Tuple vs _ _ => vs.all (foldedForSure 8) || ((decide (ts.length ≠ 2) && decide (ts.length ≠ 3)) || ts.any (offLoc sc))
  | .List _ _, .Tuple _ _ _ => false
  | _, _ => true
def isTgC : Expr → Bool
  | .Tuple _ _ _ => true
  | .Subscript _ _ _ => true
  | _ => false
section
variable (T : Tx) (N : List Str)
mutual
def chkTg : Scope → Tg → Expr → Bool
  | sc, .nm i, .Name x _ => tgB N sc i x
  | sc, .tup ts, .Tuple ps _ _ => chkTgs sc ts ps
  | sc, .sub o i, .Subscript po pi _ => chkE T N sc o po && chkE T N sc i pi
  | _, _, _ => false
def chkTgs : Scope → List Tg → List Expr → Bool
  | _, [], [] => true
  | sc, t :: ts, p :: ps => chkTg sc t p && chkTgs sc ts ps
  | _, _, _ => false
end
/-- name = [..], the name bound within the comprehension's own steps -/
def swT (sc : Scope) (y : Str) (py : Pos) : Expr → Bool
  | .ListComp _ [_] scope pos => (match sc.names.lookup y with | some .local => true | _ => false) && (py.line == pos.line && !(scope.names.any fun (n, k) => n == y && (k == .local || k == .cell)))
  | _ => false
def swF (sc : Scope) (y : Str) : Expr → Bool
  | .ListComp _ _ scope pos => (match sc.names.lookup y with | some .cell => true | _ => false)
  | p => noComp p
def isLoc (sc : Scope) (x : Str) : Bool := match sc.names.lookup x with | some .local => true | _ => false
def parB (sc : Scope) (i j : Nat) (x y : Str) (px py : Pos) (a b : Expr) : Bool :=
  tgB N sc i x && (tgB N sc j y && (isLoc sc x && (isLoc sc y && (px.line == py.line && (decide (i ≠ j) && (decide (x ≠ y) && (!(foldedForSure 8 a && foldedForSure 8 b) && !(constantsAlone 8 a && constantsAlone 8 b))))))))
def par3B (sc : Scope) (i j l : Nat) (x y z : Str) (px py pz : Pos) (a b c : Expr) : Bool :=
  tgB N sc i x && (tgB N sc j y && (tgB N sc l z && (isLoc sc x && (isLoc sc y && (isLoc sc z && (px.line == py.line && (px.line == pz.line && (decide (i ≠ j) && (decide (i ≠ l) && (decide (j ≠ l) && (decide (x ≠ y) && (decide (x ≠ z) && (decide (y ≠ z) &&
    (!(foldedForSure 8 a && (foldedForSure 8 b && foldedForSure 8 c)) && !(constantsAlone 8 a && (constantsAlone 8 b && constantsAlone 8 c))))))))))))))))
mutual
/-- an except suite: a few kinds of statements, hot -/
def chkH (i : Option Nat) : Scope → S → Stmt → Bool
  | sc, .ret e, .Return (some p) _ => chkE T N sc e p
  | sc, .asg (.nm j) e, .Assign [.Name x px] p _ => tgB N sc j x && (decide (i ≠ some j) && (chkE T N sc e p && swF sc x p))
  | sc, .ife c a b, .If pc pa pb _ => chkE T N sc c pc && (chkHs i sc a pa && chkHs i sc b pb)
  | _, .pass, .Pass _ => true
  | _, _, _ => false
def chkHs (i : Option Nat) : Scope → List S → List Stmt → Bool
  | _, [], [] => true
  | sc, s :: ss, p :: ps => chkH i sc s p && chkHs i sc ss ps
  | _, _, _ => false
end
def exmB (T : Tx) (h : Nat) (cs ns : List Nat) : Bool := (cs.all fun c => T.exms.any fun p => decide (p = (c, h, true))) && ns.all fun c => T.exms.any fun p => decide (p = (c, h, false))
def chkHd (sc : Scope) : List Hd → List ExceptHandler → Bool
  | [], [] => true
  | .mk h cs ns oi b :: hs, .ExceptHandler (some (.Name x _)) on pb _ :: ps => glB sc x && (decide (T.cnm h = some x) && (exmB T h cs ns && ((match oi, on with
    | none, none => true
    | some i, some y => (match N[i]? with
      | some z => decide (z = y)
      | none => false) && isLoc sc y
    | _, _ => false) && (!pb.isEmpty && (chkHs { T with hot := true } N oi sc b pb && chkHd sc hs ps)))))
  | _, _ => false
mutual
def chkS : Scope → S → Stmt → Bool
  | sc, .asg (.nm i) e, .Assign [.Name x px] p _ => tgB N sc i x && (chkE T N sc e p && (swF sc x p || swT sc x px p))
  | sc, .asg t e, .Assign [tg] p _ => isTgC tg && (chkTg T N sc t tg && (chkE T N sc e p && swNo sc tg p))
  | sc, .par [i, j] [a, b], .Assign [.Tuple [.Name x px, .Name y py] _ _] (.Tuple [pa, pb] _ _) _ => parB N sc i j x y px py pa pb && (chkE T N sc a pa && chkE T N sc b pb)
  | sc, .par [i, j, l] [a, b, c], .Assign [.Tuple [.Name x px, .Name y py, .Name z pz] _ _] (.Tuple [pa, pb, pc] _ _) _ => par3B N sc i j l x y z px py pz pa pb pc && (chkE T N sc a pa && (chkE T N sc b pb && chkE T N sc c pc))
  | sc, .tryS b hs, .Try pb ph [] [] _ => !ph.isEmpty && (chkSs sc b pb && chkHd T N sc hs ph)
  | sc, .expr e, .Expr p _ => chkE T N sc e p && noComp p
  | sc, .ret e, .Return (some p) _ => chkE T N sc e p
  | _, .retN, .Return none _ => true
  | sc, .ife c a b, .If pc pa pb _ => chkE T N sc c pc && (chkSs sc a pa && chkSs sc b pb)
  | sc, .forS t it b, .For tg pit pb [] _ => chkTn N sc sc (tnOf t) t tg && (chkI T N sc it tg pit && (noKeys it && chkSs sc b pb))
  | sc, .forK t i b, .For tg (.Name x _) pb [] _ => chkTn N sc sc (tnOf t) t tg && (varB N sc i x && chkSs sc b pb)
  | sc, .whl c b, .While pc pb [] _ => chkE T N sc c pc && chkSs sc b pb
  | _, .brk, .Break _ => true
  | _, .cnt, .Continue _ => true
  | _, .pass, .Pass _ => true
  | _, .never, _ => true
  | sc, .raise c es, .Raise (some (.Call (.Name x _) pes [] _)) none _ => glB sc x && ((match T.cls c with | some q => decide (x = q.1) && decide (es.length = q.2.length) | none => false) && chkEs T N sc es pes)
  | _, _, _ => false
def chkSs : Scope → List S → List Stmt → Bool
  | _, [], [] => true
  | sc, .freeze _ :: ss, ps => chkSs sc ss ps
  | sc, .freezeK _ _ :: ss, ps => chkSs sc ss ps
  | sc, s :: ss, p :: ps => chkS sc s p && chkSs sc ss ps
  | _, _, _ => false
end
end
/-! ### readings of statements -/
structure Xs (X : Cx) : Prop where
  owns : PassesOwn (model X.prog X.w) X.A X.env X.xe
  fn : ∀ x, X.fn x = true
  kind : X.env.scope.kind = .function
  stk : X.stack = X.env :: X.outer
  frm : X.env.frame = some X.env.locals
def AnsS (G : Gx) (bd : Nat → Nat) (base : Nat) (Wx : WX) (W : Wd) (H : Hp) (st : Sto) (r : Fl) (D : Ends) : Prop := match r with
  | .nx ρ' st' => ∀ (σ' : L2.St) (W' : Wd) (H' : Hp), Post G bd base W H st W' H' st' → EnR G W' st'.length H' ρ' σ' → D.nx σ' H'
  | .ret d st' => ∀ (v : V) (W' : Wd) (H' : Hp), Post G bd base W H st W' H' st' → DV G W' st'.length H' d v → D.rt v H'
  | .brk ρ' st' => ∀ (σ' : L2.St) (W' : Wd) (H' : Hp), Post G bd base W H st W' H' st' → EnR G W' st'.length H' ρ' σ' → D.bk σ' H'
  | .cnt ρ' st' => ∀ (σ' : L2.St) (W' : Wd) (H' : Hp), Post G bd base W H st W' H' st' → EnR G W' st'.length H' ρ' σ' → D.ct σ' H'
  | .exc d ρ' st' => ∀ (σ' : L2.St) (cls : Value) (dd : Option Addr) (W' : Wd) (H' : Hp), Post G bd base W H st W' H' st' → EnR G W' st'.length H' ρ' σ' → ExcR G W' H' d cls dd → Wx cls dd σ' H'
  | .bad => False
def rdS (G : Gx) (Wx : WX) (f : Nat → En → Sto → Fl) : TS := fun D σ H => ∃ W bd base ρ st, RS G bd base W H st ∧ EnR G W st.length H ρ σ ∧ AnsS G bd base Wx W H st (f base ρ st) D
def AnsG (G : Gx) (bd : Nat → Nat) (base : Nat) (W : Wd) (H : Hp) (st : Sto) (r : R En) (Q : L2.St → Hp → Prop) : Prop := match r with
  | .ok ρ' st' => ∀ (σ' : L2.St) (W' : Wd) (H' : Hp), Post G bd base W H st W' H' st' → EnR G W' st'.length H' ρ' σ' → Q σ' H'
  | _ => False
def rdTg (G : Gx) (C : Call) (t : Tg) : TG := fun v σ H Q => ∃ W bd base ρ st d, RS G bd base W H st ∧ EnR G W st.length H ρ σ ∧ DV G W st.length H d v ∧ AnsG G bd base W H st (asgR C base t d ρ st) Q
def rdTgs (G : Gx) (C : Call) (ts : List Tg) : TGs := fun vs σ H Q => ∃ W bd base ρ st ds, RS G bd base W H st ∧ EnR G W st.length H ρ σ ∧ DVs G W st.length H ds vs ∧ ds.length = ts.length ∧ AnsG G bd base W H st (asgRs C base ts ds ρ st) Q
section
variable {G : Gx} {T : Tx} {N : List Str} {C : Call} {lv : Nat} {Wx : WX} {sc : Scope} {X : Cx} {σ : L2.St} {H H' H1 : Hp} {W W' W1 : Wd} {n : Nat} {bd : Nat → Nat} {base : Nat} {st st' st1 : Sto} {ρ : En}
theorem AnsS.shift {r : Fl} {D : Ends} (p : Post G bd base W H st W1 H1 st1) (h : AnsS G bd base Wx W H st r D) : AnsS G bd base Wx W1 H1 st1 r D := by
  cases r with
  | nx ρ' st' => exact fun σ' W' H' q e => h σ' W' H' (p.trans q) e
  | ret d st' => exact fun v W' H' q e => h v W' H' (p.trans q) e
  | brk ρ' st' => exact fun σ' W' H' q e => h σ' W' H' (p.trans q) e
  | cnt ρ' st' => exact fun σ' W' H' q e => h σ' W' H' (p.trans q) e
  | exc d ρ' st' => exact fun σ' cls dd W' H' q e x => h σ' cls dd W' H' (p.trans q) e x
  | bad => exact h
theorem AnsG.shift {r : R En} {Q : L2.St → Hp → Prop} (p : Post G bd base W H st W1 H1 st1) (h : AnsG G bd base W H st r Q) : AnsG G bd base W1 H1 st1 r Q := by
  cases r with
  | ok ρ' st' => exact fun σ' W' H' q e => h σ' W' H' (p.trans q) e
  | exc d st' => exact h
  | bad => exact h
theorem AnsG.mono {r : R En} {Q Q' : L2.St → Hp → Prop} (h : AnsG G bd base W H st r Q) (hq : ∀ σ' H', Q σ' H' → Q' σ' H') : AnsG G bd base W H st r Q' := by
  cases r with
  | ok ρ' st' => exact fun σ' W' H' q e => hq _ _ (h σ' W' H' q e)
  | exc d st' => exact h
  | bad => exact h
/-- first r, then a target -/
theorem AnsG.bind {α β : Type} {rel : Rl α β} {r : R α} {f : α → Sto → R En} {Q : L2.St → Hp → Prop} (h : AnsG G bd base W H st (r.bind f) Q) :
    Ans rel G bd base Wx σ W H st r fun v H1 => ∃ (d : α) (st1 : Sto) (W1 : Wd), r = .ok d st1 ∧ Post G bd base W H st W1 H1 st1 ∧ rel W1 st1.length H1 d v ∧ AnsG G bd base W1 H1 st1 (f d st1) Q := by
  cases r with
  | ok d st' => exact fun v W' H' p dv => ⟨d, st', W', rfl, p, dv, AnsG.shift p h⟩
  | exc d st' => exact h.elim
  | bad => exact h.elim
theorem PG.weak {X : Cx} {e : Expr} {t t' : TG} (h : PG X e t) (w : ∀ v σ H Q, t' v σ H Q → t v σ H Q) : PG X e t' := ⟨fun pins s σ H v u Q I r q => h.run pins s σ H v u Q I r (w v σ H Q q)⟩
theorem PGs.weak {X : Cx} {e : List Expr} {t t' : TGs} (h : PGs X e t) (w : ∀ v σ H Q, t' v σ H Q → t v σ H Q) : PGs X e t' := ⟨fun pins s σ H v u Q I r q => h.run pins s σ H v u Q I r (w v σ H Q q)⟩
theorem PS.weak {X : Cx} {e : Stmt} {t t' : TS} (h : PS X e t) (w : ∀ D σ H, t' D σ H → t D σ H) : PS X e t' := ⟨fun pins s σ H D I q => h.run pins s σ H D I (w D σ H q)⟩
theorem PSs.weak {X : Cx} {e : List Stmt} {t t' : TS} (h : PSs X e t) (w : ∀ D σ H, t' D σ H → t D σ H) : PSs X e t' := ⟨fun pins s σ H D I q => h.run pins s σ H D I (w D σ H q)⟩
theorem PSet.or {X : Cx} {t u : TSet} (h : PSet X t) (g : PSet X u) : PSet X (fun o i v H Q => t o i v H Q ∨ u o i v H Q) := fun pins s σ H o i v ov iv u Q I r1 r2 r3 q => q.elim (h pins s σ H o i v ov iv u Q I r1 r2 r3) (g pins s σ H o i v ov iv u Q I r1 r2 r3)
theorem tgB_ok (o : Xok G T N C lv Wx sc X) {i : Nat} {x : Str} (h : tgB N sc i x = true) : X.N[i]? = some x ∧ L2.Loc X.env.scope x := by
  obtain ⟨h1, h2⟩ := and2 h
  refine ⟨?_, by rw [o.hsc]; exact locB_ok h2⟩
  rw [o.hN]
  split at h1
  · rename_i e; rw [e, of_decide_eq_true h1]
  · cases h1
theorem isLoc_ok {x : Str} (h : isLoc sc x = true) : sc.names.lookup x = some .local := by
  unfold isLoc at h
  split at h
  · assumption
  · cases h
/-! ### targets -/
theorem g_nm (o : Xok G T N C lv Wx sc X) (xs : Xs X) {i : Nat} {x : Str} {pos : Pos} (h : tgB N sc i x = true) : PG X (.Name x pos) (rdTg G C (.nm i)) := by
  obtain ⟨h1, h2⟩ := tgB_ok o h
  refine PG.weak (pg_name (by rw [o.hN]; exact o.nd) h1 h2 (.inl (xs.fn x))) fun v σ H Q ⟨W, bd, base, ρ, st, d, r, en, dv, q⟩ => ?_
  have q' : AnsG G bd base W H st (if i < ρ.length then .ok (ρ.set i (some d)) st else .bad) Q := q
  split at q'
  · exact q' _ W H (Post.refl r) (en.set dv)
  · exact q'.elim
theorem g_nil {X : Cx} : PGs X [] (rdTgs G C []) := by
  refine PGs.weak pgs_nil fun vs σ H Q ⟨W, bd, base, ρ, st, ds, r, en, dv, hl, q⟩ => ?_
  have e : ds = [] := by simpa using hl
  subst e
  exact ⟨dv, q _ W H (Post.refl r) en⟩
theorem g_cons {X : Cx} {t : Tg} {ts : List Tg} {p : Expr} {ps : List Expr} (h : PG X p (rdTg G C t)) (hs : PGs X ps (rdTgs G C ts)) (ns : noStar p = true) : PGs X (p :: ps) (rdTgs G C (t :: ts)) := by
  refine PGs.weak (pgs_cons h hs (by cases p <;> first | rfl | cases ns)) fun vs σ H Q ⟨W, bd, base, ρ, st, ds, r, en, dv, hl, q⟩ => ?_
  cases ds with
  | nil => cases hl
  | cons d ds =>
    obtain ⟨v, vr, rfl, d1, d2⟩ := dv
    refine ⟨v, vr, rfl, W, bd, base, ρ, st, d, r, en, d1, ?_⟩
    have q' : AnsG G bd base W H st ((asgR C base t d ρ st).bind fun ρ st => asgRs C base ts ds ρ st) Q := q
    cases e : asgR C base t d ρ st with
    | ok ρ' st' =>
      rw [e] at q'
      exact fun σ' W' H' p en' => ⟨W', bd, base, ρ', st', ds, p.rs, en', p.dvs r d2, by simpa using hl, AnsG.shift p q'⟩
    | exc _ _ => rw [e] at q'; exact q'.elim
    | bad => rw [e] at q'; exact q'.elim
theorem g_tup (o : Xok G T N C lv Wx sc X) (hh : T.hot = false) {ts : List Tg} {ps : List Expr} {k : Nat} {pos : Pos} (h : PGs X ps (rdTgs G C ts)) (hn : (assignEach ps X.env).length = ts.length) (hst : (assignEach ps X.env).findIdx? (·.1) = none) : PG X (.Tuple ps k pos) (rdTg G C (.tup ts)) := by
  refine PG.weak (pg_tup (o.calm hh) h hn hst) fun v σ H Q ⟨W, bd, base, ρ, st, d, r, en, dv, q⟩ => ?_
  cases d with
  | tup ds =>
    obtain ⟨a, xs, rfl, h1, h2⟩ := dv
    have q' : AnsG G bd base W H st (if ds.length = ts.length then asgRs C base ts ds ρ st else .bad) Q := q
    split at q'
    · rename_i hl
      exact ⟨a, xs, rfl, by rw [o.K]; exact h1, by rw [h2.len, hl], W, bd, base, ρ, st, ds, r, en, h2, hl, q'⟩
    · exact q'.elim
  | _ => exact q.elim
end
end Rf

namespace Rf
open PySem PySem.Spec PyProof.Rows L2
section
variable {G : Gx} {T : Tx} {N : List Str} {C : Call} {lv : Nat} {Wx : WX} {sc : Scope} {X : Cx} {σ : L2.St} {H H' H1 : Hp} {W W' W1 : Wd} {n : Nat} {bd : Nat → Nat} {base : Nat} {st st' st1 : Sto} {ρ : En}
/-- what may be written into the object k -/
theorem wr_dv (r : RS G bd base W H st) {k : Nat} {d : D} {v : V} {H' : Hp} {W' : Wd} {st' : Sto} (hw : wOk base k d = true) (ex : Ext W H st W' H' st') (dv : DV G W st.length H d v) : DV G W' (bdOf bd base st.length k) H' d v := by
  rcases Bool.or_eq_true_iff.mp hw with w1 | w1
  · have : bdOf bd base st.length k = st.length := if_neg (by have := of_decide_eq_true w1; omega)
    rw [this]
    exact DV.keep ex r (Nat.le_refl _) (Nat.le_refl _) dv
  · exact DV.plain w1 (DV.keep ex r (Nat.le_refl _) (Nat.le_refl _) dv)
theorem g_sub (o : Xok G T N C lv Wx sc X) {ob ix : E} {pb px : Expr} {pos : Pos} (hb : PE X pb (rdE G C Wx ob)) (hx : PE X px (rdE G C Wx ix)) (hns : ∀ v, assign (.Subscript pb px pos) X.env v = (do
      let ov ← holding [v] (eval pb X.env)
      let iv ← holding [v, ov] (eval px X.env)
      standAt pos
      holding [v, ov, iv] (setItem ov iv v)
      release [v, ov, iv] [])) : PG X (.Subscript pb px pos) (rdTg G C (.sub ob ix)) := by
  refine PG.weak (pg_sub hb hx (PSet.or set_list (set_dict (room1 o))) hns) fun v σ H Q ⟨W, bd, base, ρ, st, d, r, en, dv, q⟩ => ?_
  have q' : AnsG G bd base W H st ((evE C base ob ρ st).bind fun x st => (evE C base ix ρ st).bind fun y st => (match x with
    | .ref n => (match st[n]?, y with
      | some (.lst ds), .int k => (opt (ixN ds.length k) st).bind fun j st => if wOk base n d then .ok ρ (st.set n (.lst (ds.set j d))) else .bad
      | some (.dct ks vs), y => (opt (keyOf y) st).bind fun k st => if wOk base n d && decide (ks.length < SL) then .ok ρ (st.set n (let r := dPut ks vs k d; .dct r.1 r.2)) else .bad
      | _, _ => .bad)
    | _ => .bad)) Q := q
  refine ⟨W, bd, base, ρ, st, r, en, (AnsG.bind (rel := DV G) q').mono ?_⟩
  rintro x H1 ⟨xd, st1, W1, _, P1, dx, q1⟩
  have r1 := P1.rs
  refine ⟨W1, bd, base, ρ, st1, r1, en.post P1 r, (AnsG.bind (rel := DV G) q1).mono ?_⟩
  rintro y H2 ⟨yd, st2, W2, _, P2, dy, q2⟩
  have r2 := P2.rs
  have dx2 := P2.dv r1 dx
  have dv2 := P2.dv r1 (P1.dv r dv)
  have en2 := (en.post P1 r).post P2 r1
  cases xd with
  | ref k =>
    obtain ⟨ex, hk⟩ := dx2
    dsimp only at q2
    cases e : st2[k]? with
    | none => rw [e] at q2; exact q2.elim
    | some ob =>
      cases ob with
      | lst ds =>
        rw [e] at q2
        cases yd with
        | int i =>
          obtain ⟨xs, h1, h2⟩ := r2.obj k _ e
          have q3 : AnsG G bd base W2 H2 st2 ((opt (ixN ds.length i) st2).bind fun j st => if wOk base k d then .ok ρ (st.set k (.lst (ds.set j d))) else .bad) Q := q2
          cases ej : ixN ds.length i with
          | none => rw [ej] at q3; exact q3.elim
          | some j =>
            rw [ej] at q3
            have q4 : AnsG G bd base W2 H2 st2 (if wOk base k d then .ok ρ (st2.set k (.lst (ds.set j d))) else .bad) Q := q3
            split at q4
            · rename_i hw
              have hlv : live st2 k := ⟨_, e, by simp⟩
              obtain ⟨ext, rs⟩ := write_ob r2 hlv (.lst (xs.set j v)) (ob := .lst (ds.set j d)) (by simp) fun H' ext hh =>
                ⟨xs.set j v, hh, DVs.set j (DVs.keep ext r2 (bdOf_le r2) (Nat.le_refl _) h2) (wr_dv r2 hw ext dv2)⟩
              refine .inl ⟨W2.m k, xs, i, j, ex, dy, h1, by rw [h2.len, ixN_eq]; exact ej, ?_⟩
              exact q4 σ W2 _ ⟨ext, rs⟩ (en2.post ⟨ext, rs⟩ r2)
            · exact q4.elim
        | _ => exact q2.elim
      | dct ks vs =>
        rw [e] at q2
        obtain ⟨kvs, h1, h2, h3⟩ := r2.obj k _ e
        have q3 : AnsG G bd base W2 H2 st2 ((opt (keyOf yd) st2).bind fun ky st => if wOk base k d && decide (ks.length < SL) then .ok ρ (st.set k (.dct (dPut ks vs ky d).1 (dPut ks vs ky d).2)) else .bad) Q := by
          cases yd <;> exact q2
        cases ek : keyOf yd with
        | none => rw [ek] at q3; exact q3.elim
        | some ky =>
          rw [ek] at q3
          have q4 : AnsG G bd base W2 H2 st2 (if wOk base k d && decide (ks.length < SL) then .ok ρ (st2.set k (.dct (dPut ks vs ky d).1 (dPut ks vs ky d).2)) else .bad) Q := q3
          split at q4
          · rename_i hw
            obtain ⟨hw, hl⟩ := and2 hw
            have hlv : live st2 k := ⟨_, e, by simp⟩
            obtain ⟨ext, rs⟩ := write_ob r2 hlv (.dK (putK kvs (kyR ky) v)) (ob := .dct (dPut ks vs ky d).1 (dPut ks vs ky d).2) (by simp) fun H' ext hh =>
              let z := dPut_ok (wr_dv r2 hw ext dv2) h2 (DVs.keep ext r2 (bdOf_le r2) (Nat.le_refl _) h3)
              ⟨putK kvs (kyR ky) v, hh, z.1, z.2⟩
            have hlen : kvs.length < sizeLine := by
              have := congrArg List.length h2
              rw [List.length_map, List.length_map] at this
              rw [this, ← SL_eq]
              exact of_decide_eq_true hl
            refine .inr ⟨W2.m k, _, ex, by rw [key_val dy ek]; exact DPut.k h1 hlen, ?_⟩
            exact q4 σ W2 _ ⟨ext, rs⟩ (en2.post ⟨ext, rs⟩ r2)
          · exact q4.elim
      | _ => rw [e] at q2; exact q2.elim
  | _ => exact q2.elim
theorem asg_plain {pb px : Expr} {pos : Pos} {env : Env} (h : ∀ a b c d, px ≠ .Slice a b c d) : ∀ v, assign (.Subscript pb px pos) env v = (do
      let ov ← holding [v] (eval pb env)
      let iv ← holding [v, ov] (eval px env)
      standAt pos
      holding [v, ov, iv] (setItem ov iv v)
      release [v, ov, iv] []) := by
  intro v
  cases px with
  | Slice a b c d => exact absurd rfl (h a b c d)
  | _ => rfl
theorem chk_noslice {e : E} {p : Expr} (h : chkE T N sc e p = true) : ∀ a b c d, p ≠ .Slice a b c d := by
  rintro a b c d rfl
  unfold chkE at h
  split at h <;> contradiction
theorem chkTg_star {t : Tg} {p : Expr} (h : chkTg T N sc t p = true) : noStar p = true := by
  cases p with
  | Starred a b => cases t <;> (unfold chkTg at h; contradiction)
  | _ => rfl
theorem chkTgs_each : ∀ {ts : List Tg} {ps : List Expr} {env : Env}, chkTgs T N sc ts ps = true → (assignEach ps env).length = ts.length ∧ (assignEach ps env).findIdx? (·.1) = none
  | [], [], _, _ => ⟨rfl, rfl⟩
  | [], _ :: _, _, h => by unfold chkTgs at h; contradiction
  | _ :: _, [], _, h => by unfold chkTgs at h; contradiction
  | t :: ts, p :: ps, env, h => by
    unfold chkTgs at h
    obtain ⟨h1, h2⟩ := and2 h
    obtain ⟨h3, h4⟩ := chkTgs_each (env := env) h2
    have ns := chkTg_star h1
    have e1 : assignEach (p :: ps) env = (false, assign p env) :: assignEach ps env := by cases p <;> first | rfl | cases ns
    rw [e1]
    refine ⟨by rw [List.length_cons, List.length_cons, h3], ?_⟩
    rw [List.findIdx?_cons, h4]; rfl
theorem chkTg_tup {ts : List Tg} {p : Expr} (h : chkTg T N sc (.tup ts) p = true) : ∃ ps k pos, p = .Tuple ps k pos ∧ chkTgs T N sc ts ps = true := by
  unfold chkTg at h
  split at h <;> first | contradiction | skip
  rename_i z; cases z
  exact ⟨_, _, _, rfl, h⟩
section
variable (hh : T.hot = false)
include hh
mutual
theorem simTg : (t : Tg) → {p : Expr} → Xok G T N C lv Wx sc X → Xs X → chkTg T N sc t p = true → PG X p (rdTg G C t)
  | .nm i, p, o, xs, h => by
    unfold chkTg at h
    split at h <;> first | contradiction | skip
    rename_i z; cases z
    exact g_nm o xs h
  | .tup ts, p, o, xs, h =>
    let ⟨ps, k, pos, e, h'⟩ := chkTg_tup h
    let z := chkTgs_each (env := X.env) h'
    e ▸ g_tup o hh (simTgs ts o xs h') z.1 z.2
  | .sub ob ix, p, o, xs, h => by
    unfold chkTg at h
    split at h <;> first | contradiction | skip
    rename_i z; cases z
    obtain ⟨h1, h2⟩ := and2 h
    exact g_sub o (simE ob o h1).pe (simE ix o h2).pe (asg_plain (chk_noslice h2))
  | .fld ob f, p, o, xs, h => by
    unfold chkTg at h
    contradiction
theorem simTgs : (ts : List Tg) → {ps : List Expr} → Xok G T N C lv Wx sc X → Xs X → chkTgs T N sc ts ps = true → PGs X ps (rdTgs G C ts)
  | [], [], o, xs, h => g_nil
  | [], _ :: _, o, xs, h => by unfold chkTgs at h; contradiction
  | _ :: _, [], o, xs, h => by unfold chkTgs at h; contradiction
  | t :: ts, p :: ps, o, xs, h => by
    unfold chkTgs at h
    obtain ⟨h1, h2⟩ := and2 h
    exact g_cons (simTg t o xs h1) (simTgs ts o xs h2) (chkTg_star h1)
end
end
/-! ### statements -/
/-- an expression, then what is done with its value -/
theorem rdS_bind {e : E} {f : Nat → En → D → Sto → Fl} {D : Ends} (h : rdS G Wx (fun base ρ st => match evE C base e ρ st with
    | .ok d st => f base ρ d st
    | .exc d st => .exc d ρ st
    | .bad => .bad) D σ H) : rdE G C Wx e σ H fun v H1 => ∃ W bd base ρ st d, RS G bd base W H1 st ∧ EnR G W st.length H1 ρ σ ∧ DV G W st.length H1 d v ∧ AnsS G bd base Wx W H1 st (f base ρ d st) D := by
  obtain ⟨W, bd, base, ρ, st, r, en, h⟩ := h
  refine ⟨W, bd, base, ρ, st, r, en, ?_⟩
  dsimp only at h ⊢
  cases e1 : evE C base e ρ st with
  | ok d st1 =>
    rw [e1] at h
    exact fun v W' H' p dv => ⟨W', bd, base, ρ, st1, d, p.rs, en.post p r, dv, AnsS.shift p h⟩
  | exc d st1 =>
    rw [e1] at h
    exact fun cls dd W' H' p x => h σ cls dd W' H' p (en.post p r) x
  | bad => rw [e1] at h; exact h
theorem noSw {p : Expr} {t : Option Expr} {l : Nat} {env : Env} (h : noComp p = true) : swapsWith p t l env = pure false := by
  cases p <;> first | rfl | cases h
theorem filter_less {α β : Type} {f : α → Option β} : ∀ {l : List α}, (∃ t ∈ l, f t = none) → (l.filterMap f).length < l.length
  | [], h => by obtain ⟨_, h, _⟩ := h; cases h
  | a :: l, h => by
    obtain ⟨t, ht, e⟩ := h
    cases q : f a with
    | none =>
      rw [List.filterMap_cons_none q, List.length_cons]
      have := List.length_filterMap_le f l
      omega
    | some b =>
      rw [List.filterMap_cons_some q, List.length_cons, List.length_cons]
      rcases List.mem_cons.mp ht with rfl | ht
      · rw [e] at q; cases q
      · have := filter_less (l := l) ⟨t, ht, e⟩
        omega
theorem swNo_ok {tg p : Expr} {env : Env} (hsc : env.scope = sc) (h : swNo sc tg p = true) : swappedStores [tg] p env = pure none := by
  have key : ∀ (es vs : List Expr) (k1 k2 : Nat) (p1 p2 : Pos), (vs.all (foldedForSure 8) || ((decide (es.length ≠ 2) && decide (es.length ≠ 3)) || es.any (offLoc sc))) = true → swappedStores [.Tuple es k1 p1] (.Tuple vs k2 p2) env = pure none := by
    intro es vs k1 k2 p1 p2 hf
    rcases Bool.or_eq_true_iff.mp hf with hf | hf
    · unfold swappedStores
      simp only [hf, if_true]
      repeat' split
      all_goals rfl
    rcases Bool.or_eq_true_iff.mp hf with hf | hf
    · obtain ⟨h1, h2⟩ := and2 hf
      have h1 := of_decide_eq_true h1
      have h2 := of_decide_eq_true h2
      have e : (!(es.length == 2 || es.length == 3) || vs.length != es.length || env.blockKind != .function) = true := by simp [h1, h2]
      unfold swappedStores
      simp only [e, if_true]
      first | done | rfl
    · obtain ⟨t, ht, hq⟩ := List.any_eq_true.mp hf
      have e : ∀ line : Nat, ((es.filterMap fun
          | .Name id pos => if env.kindOf id == some .local && pos.line == line then some id else none
          | _ => none).length != es.length) = true := fun line => by
        have hlt : (es.filterMap fun
          | .Name id pos => if env.kindOf id == some .local && pos.line == line then some id else none
          | _ => none).length < es.length := by
          refine filter_less ⟨t, ht, ?_⟩
          cases t with
          | Name x pos =>
            have nk : (env.kindOf x == some NameKind.local) = false := by
              have hq' : (match sc.names.lookup x with
                | some .local => false
                | _ => true) = true := hq
              have ek : env.kindOf x = sc.names.lookup x := by rw [← hsc]; rfl
              rw [ek]
              split at hq'
              · cases hq'
              · rename_i z
                cases e : sc.names.lookup x with
                | none => rfl
                | some k => cases k <;> first | rfl | exact absurd e z
            simp [nk]
          | _ => rfl
        have : ¬ (es.filterMap fun
          | .Name id pos => if env.kindOf id == some .local && pos.line == line then some id else none
          | _ => none).length = es.length := by omega
        simpa using this
      unfold swappedStores
      dsimp only
      split
      · rfl
      split
      · rfl
      split
      · rfl
      rename_i z
      exact absurd (Bool.or_eq_true_iff.mpr (.inl (e ((es.head?.map (·.pos.line)).getD 0)))) z
  cases tg with
  | Tuple es k1 p1 => cases p with
    | Tuple vs k2 p2 => exact key es vs k1 k2 p1 p2 h
    | _ => rfl
  | List es p1 => cases p with
    | Tuple vs k2 p2 => cases h
    | _ => rfl
  | _ => rfl
theorem st_asg (o : Xok G T N C lv Wx sc X) {t : Tg} {e : E} {tg p : Expr} {pos : Pos} (he : PE X p (rdE G C Wx e)) (hg : PG X tg (rdTg G C t)) (hs : swapsWith p (some tg) pos.line X.env = pure false) (hw : swappedStores [tg] p X.env = pure none) (hn : noStar tg = true) :
    PS X (.Assign [tg] p pos) (rdS G Wx fun base ρ st => evS C base (.asg t e) ρ st) := by
  refine PS.weak (ps_asg he hg hs hw (by cases tg <;> first | rfl | cases hn)) fun D σ H q => ?_
  have q1 := rdS_bind (f := fun base ρ d st => match asgR C base t d ρ st with | .ok ρ st => .nx ρ st | _ => .bad) q
  obtain ⟨W, bd, base, ρ, st, r, en, q⟩ := q1
  refine ⟨W, bd, base, ρ, st, r, en, q.mono ?_⟩
  rintro v H1 ⟨W1, bd1, base1, ρ1, st1, d, r1, en1, dv, q1⟩
  refine ⟨W1, bd1, base1, ρ1, st1, d, r1, en1, dv, ?_⟩
  cases e1 : asgR C base1 t d ρ1 st1 with
  | ok ρ' st' => rw [e1] at q1; exact q1
  | exc _ _ => rw [e1] at q1; exact q1.elim
  | bad => rw [e1] at q1; exact q1.elim
theorem st_expr (o : Xok G T N C lv Wx sc X) {e : E} {p : Expr} {pos : Pos} (he : PE X p (rdE G C Wx e)) (hn : noComp p = true) : PS X (.Expr p pos) (rdS G Wx fun base ρ st => evS C base (.expr e) ρ st) := by
  refine PS.weak (ps_expr he (noSw hn)) fun D σ H q => ?_
  have q1 := rdS_bind (f := fun base ρ d st => .nx ρ st) q
  obtain ⟨W, bd, base, ρ, st, r, en, q⟩ := q1
  refine ⟨W, bd, base, ρ, st, r, en, q.mono ?_⟩
  rintro v H1 ⟨W1, bd1, base1, ρ1, st1, d, r1, en1, dv, q1⟩
  exact q1 σ W1 H1 (Post.refl r1) en1
theorem st_ret {e : E} {p : Expr} {pos : Pos} (he : PE X p (rdE G C Wx e)) : PS X (.Return (some p) pos) (rdS G Wx fun base ρ st => evS C base (.ret e) ρ st) := by
  refine PS.weak (ps_ret he) fun D σ H q => ?_
  have q1 := rdS_bind (f := fun base ρ d st => .ret d st) q
  obtain ⟨W, bd, base, ρ, st, r, en, q⟩ := q1
  refine ⟨W, bd, base, ρ, st, r, en, q.mono ?_⟩
  rintro v H1 ⟨W1, bd1, base1, ρ1, st1, d, r1, en1, dv, q1⟩
  exact q1 v W1 H1 (Post.refl r1) dv
theorem st_retN {pos : Pos} : PS X (.Return none pos) (rdS G Wx fun base ρ st => evS C base .retN ρ st) := by
  refine PS.weak ps_retN fun D σ H ⟨W, bd, base, ρ, st, r, en, q⟩ => ?_
  exact q .non W H (Post.refl r) rfl
theorem st_brk {pos : Pos} : PS X (.Break pos) (rdS G Wx fun base ρ st => evS C base .brk ρ st) := PS.weak ps_break fun D σ H ⟨W, bd, base, ρ, st, r, en, q⟩ => q σ W H (Post.refl r) en
theorem st_cnt {pos : Pos} : PS X (.Continue pos) (rdS G Wx fun base ρ st => evS C base .cnt ρ st) := PS.weak ps_continue fun D σ H ⟨W, bd, base, ρ, st, r, en, q⟩ => q σ W H (Post.refl r) en
theorem st_pass {pos : Pos} : PS X (.Pass pos) (rdS G Wx fun base ρ st => evS C base .pass ρ st) := PS.weak ps_pass fun D σ H ⟨W, bd, base, ρ, st, r, en, q⟩ => q σ W H (Post.refl r) en
/-- a test, then what it leads to -/
theorem rdS_tst {e : E} {f g : Nat → En → Sto → Fl} {D : Ends} (h : rdS G Wx (fun base ρ st => match evE C base e ρ st with
    | .ok x st => (match truth (vw st x) with
      | some true => f base ρ st
      | some false => g base ρ st
      | none => .bad)
    | .exc d st => .exc d ρ st
    | .bad => .bad) D σ H) : rdT G C Wx e σ H fun b H1 => if b = true then rdS G Wx f D σ H1 else rdS G Wx g D σ H1 := by
  obtain ⟨W, bd, base, ρ, st, r, en, h⟩ := h
  refine ⟨W, bd, base, ρ, st, r, en, ?_⟩
  unfold tstE
  dsimp only at h ⊢
  cases e1 : evE C base e ρ st with
  | ok x st1 =>
    rw [e1] at h
    show Ans eqRl G bd base Wx σ W H st (opt (truth (vw st1 x)) st1) _
    dsimp only at h
    cases e2 : truth (vw st1 x) with
    | none => rw [e2] at h; exact h
    | some b =>
      rw [e2] at h
      intro v W' H' p hv
      have hv' : b = v := hv
      subst hv'
      cases b with
      | true => exact ⟨W', bd, base, ρ, st1, p.rs, en.post p r, AnsS.shift p h⟩
      | false => exact ⟨W', bd, base, ρ, st1, p.rs, en.post p r, AnsS.shift p h⟩
  | exc d st1 =>
    rw [e1] at h
    exact fun cls dd W' H' p x => h σ cls dd W' H' p (en.post p r) x
  | bad => rw [e1] at h; exact h
theorem st_ife {c : E} {a b : List S} {pc : Expr} {pa pb : List Stmt} {pos : Pos} (hc : PT X pc (rdT G C Wx c)) (ha : PSs X pa (rdS G Wx fun base ρ st => evSs C base a ρ st)) (hb : PSs X pb (rdS G Wx fun base ρ st => evSs C base b ρ st)) :
    PS X (.If pc pa pb pos) (rdS G Wx fun base ρ st => evS C base (.ife c a b) ρ st) := PS.weak (ps_if hc ha hb) fun D σ H q => rdS_tst q
theorem st_nil : PSs X [] (rdS G Wx fun base ρ st => evSs C base [] ρ st) := PSs.weak pss_nil fun D σ H ⟨W, bd, base, ρ, st, r, en, q⟩ => q σ W H (Post.refl r) en
theorem st_cons {s : S} {ss : List S} {p : Stmt} {ps : List Stmt} (h : PS X p (rdS G Wx fun base ρ st => evS C base s ρ st)) (hs : PSs X ps (rdS G Wx fun base ρ st => evSs C base ss ρ st)) : PSs X (p :: ps) (rdS G Wx fun base ρ st => evSs C base (s :: ss) ρ st) := by
  refine PSs.weak (pss_cons h hs) fun D σ H ⟨W, bd, base, ρ, st, r, en, q⟩ => ?_
  refine ⟨W, bd, base, ρ, st, r, en, ?_⟩
  have q' : AnsS G bd base Wx W H st (match evS C base s ρ st with
    | .nx ρ st => evSs C base ss ρ st
    | r => r) D := q
  dsimp only
  cases e : evS C base s ρ st with
  | nx ρ' st' =>
    rw [e] at q'
    exact fun σ' W' H' p en' => ⟨W', bd, base, ρ', st', p.rs, en', AnsS.shift p q'⟩
  | ret d st' => rw [e] at q'; exact q'
  | brk ρ' st' => rw [e] at q'; exact q'
  | cnt ρ' st' => rw [e] at q'; exact q'
  | exc d ρ' st' => rw [e] at q'; exact q'
  | bad => rw [e] at q'; exact q'
end
end Rf

namespace Rf
open PySem PySem.Spec PyProof.Rows L2
section
variable {G : Gx} {T : Tx} {N : List Str} {C : Call} {lv : Nat} {Wx : WX} {sc : Scope} {X : Cx} {σ : L2.St} {H H' H1 : Hp} {W W' W1 : Wd} {n : Nat} {bd : Nat → Nat} {base : Nat} {st st' st1 : Sto} {ρ : En}
/-! ### name = e -/
/-- the value, then the name -/
theorem asg_rd {e : E} {i : Nat} {D : Ends} (q : rdS G Wx (fun base ρ st => evS C base (.asg (.nm i) e) ρ st) D σ H) : rdE G C Wx e σ H fun v H1 => D.nx (σ.set i (some v)) H1 := by
  obtain ⟨W, bd, base, ρ, st, r, en, q⟩ := rdS_bind (f := fun base ρ d st => match asgR C base (.nm i) d ρ st with | .ok ρ st => .nx ρ st | _ => .bad) q
  refine ⟨W, bd, base, ρ, st, r, en, q.mono ?_⟩
  rintro v H1 ⟨W1, bd1, base1, ρ1, st1, d, r1, en1, dv, q1⟩
  have q2 : AnsS G bd1 base1 Wx W1 H1 st1 (match (if i < ρ1.length then R.ok (ρ1.set i (some d)) st1 else R.bad) with | .ok ρ st => .nx ρ st | _ => .bad) D := q1
  by_cases hl : i < ρ1.length
  · rw [if_pos hl] at q2
    exact q2 _ W1 H1 (Post.refl r1) (en1.set dv)
  · rw [if_neg hl] at q2
    exact q2.elim
theorem st_set (o : Xok G T N C lv Wx sc X) (xs : Xs X) {e : E} {i : Nat} {x : Str} {p : Expr} {px pos : Pos} (h : tgB N sc i x = true) (he : PE X p (rdE G C Wx e)) (hs : swapsWith p (some (.Name x px)) pos.line X.env = pure false) :
    PS X (.Assign [.Name x px] p pos) (rdS G Wx fun base ρ st => evS C base (.asg (.nm i) e) ρ st) := by
  obtain ⟨h1, h2⟩ := tgB_ok o h
  exact PS.weak (ps_set (by rw [o.hN]; exact o.nd) h1 h2 he hs (.inl (xs.fn x))) fun D σ H q => asg_rd q
theorem swF_ok {x : Str} {p : Expr} {px : Pos} {l : Nat} (hk : X.env.scope.kind = .function) (hsc : X.env.scope = sc) (h : swF sc x p = true) : swapsWith p (some (.Name x px)) l X.env = pure false := by
  cases p with
  | ListComp elt gs scope pos =>
    have h' : (match sc.names.lookup x with | some .cell => true | _ => false) = true := h
    have hy : sc.names.lookup x = some .cell := by
      split at h'
      · assumption
      · cases h'
    have ky : X.env.kindOf x = some .cell := by rw [← hsc] at hy; exact hy
    unfold swapsWith
    simp only [ky]
    have : (some NameKind.cell == some NameKind.local) = false := rfl
    simp only [this, Bool.and_false, Bool.false_and]
  | SetComp _ _ _ _ => cases h
  | DictComp _ _ _ _ _ => cases h
  | _ => rfl
theorem PS.or {X : Cx} {e : Stmt} {t u : TS} (h : PS X e t) (g : PS X e u) : PS X e (fun D σ H => t D σ H ∨ u D σ H) := ⟨fun pins s σ H D I q => q.elim (h.run pins s σ H D I) (g.run pins s σ H D I)⟩
/-- name = [..] on one line -/
theorem st_comp (o : Xok G T N C lv Wx sc X) (hh : T.hot = false) (xs : Xs X) {j : Nat} {y : Str} {py : Pos} {bx : Bool} {own : List Nat} {t : Tn} {it : I} {c : Option E} {e : E} {pe tg pit : Expr} {ifs : List Expr} {scope : Scope} {pos spos : Pos} (htg : tgB N sc j y = true) (hsw : swT sc y py (.ListComp pe [⟨tg, pit, ifs, 0⟩] scope pos) = true)
    (hb : blkC N sc scope (own.map fun i => (N.getD i (Str.ofString ""), i)) = true)
    (hi : (∃ i x p0, it = .keys i ∧ pit = .Name x p0 ∧ varB N sc i x = true) ∨ (PI X tg pit (rdI G C Wx it) ∧ noSet pit = true)) (ht : chkTn N scope (relS scope sc) own t tg = true)
    (hc : ∀ X', Xok G T N C lv wx0 (relS scope sc) X' → PTs X' ifs (rdIf G C c)) (he : ∀ X', Xok G T N C lv wx0 (relS scope sc) X' → PE X' pe (rdE G C wx0 e)) :
    PS X (.Assign [.Name y py] (.ListComp pe [⟨tg, pit, ifs, 0⟩] scope pos) spos) (rdS G Wx fun base ρ st => evS C base (.asg (.nm j) (.comp bx own t it c e)) ρ st) := by
  obtain ⟨h1, h2⟩ := tgB_ok o htg
  have hown : (own.map fun i => (N.getD i (Str.ofString ""), i)).map (·.2) = own := by rw [List.map_map]; exact List.map_id' _
  have hsub : ∀ i ∈ tnOf t, i ∈ own := tn_sub ht
  have bk : BlkOk X.N X.env.scope scope (own.map fun i => (N.getD i (Str.ofString ""), i)) := by rw [o.hN, o.hsc]; exact blkOk_by hb
  obtain ⟨g1, g2⟩ := and2 (show ((match sc.names.lookup y with | some .local => true | _ => false) && (py.line == pos.line && !(scope.names.any fun (n, k) => n == y && (k == .local || k == .cell)))) = true from hsw)
  obtain ⟨g2, g3⟩ := and2 g2
  have hy : X.env.scope.names.lookup y = some .local := by
    rw [o.hsc]
    split at g1
    · assumption
    · cases g1
  have hw := sw_true (elt := pe) (gs := [⟨tg, pit, ifs, 0⟩]) (l := spos.line) xs.kind hy g2 (by simpa using g3)
  rcases hi with ⟨i, x, p0, rfl, rfl, hv⟩ | ⟨hi, hset⟩
  · obtain ⟨k1, k2, k3, k4⟩ := varB_ok o hv
    have P0 := ps_setLc (spos := spos) (o.calm hh) (by rw [o.hN]; exact o.nd) h1 hy hw (pi_keys (tg := tg) (pe_var (pos := p0) k1 k2 k3 k4)) bk (fun s H Cc cl fp => (tn_pg (s := s) (H := H) (Cc := Cc) (cl := cl) (fp := fp) o hh ht).1) (fun s H Cc cl fp => hc _ (blk_ok o hh)) (fun s H Cc cl fp => he _ (blk_ok o hh)) (fun x => rfl)
    rw [hown] at P0
    refine PS.weak (PS.or (ps_lock P0) P0) fun D σ H q => ?_
    exact compk_rd (bx := bx) o hsub (asg_rd q)
  · have P0 := ps_setLc (spos := spos) (o.calm hh) (by rw [o.hN]; exact o.nd) h1 hy hw hi bk (fun s H Cc cl fp => (tn_pg (s := s) (H := H) (Cc := Cc) (cl := cl) (fp := fp) o hh ht).1) (fun s H Cc cl fp => hc _ (blk_ok o hh)) (fun s H Cc cl fp => he _ (blk_ok o hh)) (fun x => by cases pit <;> first | rfl | cases hset)
    rw [hown] at P0
    exact PS.weak P0 fun D σ H q => comp_rd (bx := bx) o hsub (asg_rd q)
/-! ### a, b = x, y -/
theorem swPar {env : Env} {x y : Str} {px py p1 p2 : Pos} {k1 k2 : Nat} {a b : Expr} (hk : env.scope.kind = .function) (hx : env.scope.names.lookup x = some .local) (hy : env.scope.names.lookup y = some .local) (hl : (px.line == py.line) = true) (hxy : x ≠ y) (na : noStar a = true) (nb : noStar b = true)
    (hf : (foldedForSure 8 a && foldedForSure 8 b) = false) (hcn : (constantsAlone 8 a && constantsAlone 8 b) = false) : swappedStores [.Tuple [.Name x px, .Name y py] k1 p1] (.Tuple [a, b] k2 p2) env = pure (some [x, y]) := by
  have kx : env.kindOf x = some .local := hx
  have ky : env.kindOf y = some .local := hy
  have hb : env.blockKind = .function := by unfold Env.blockKind; rw [hk]; rfl
  have hl' : py.line = px.line := (eq_of_beq hl).symm
  have e1 : [a, b].all (foldedForSure 8) = false := by simpa using hf
  have e2 : [a, b].all (constantsAlone 8) = false := by simpa using hcn
  have xy' : (x == y) = false := by simpa using hxy
  have yx' : (y == x) = false := by simpa using Ne.symm hxy
  unfold swappedStores
  simp only [hb, e1, e2]
  simp [kx, ky, hl', xy', yx', List.eraseDups, List.eraseDupsBy, List.eraseDupsBy.loop, Expr.pos]
  rintro (h | h)
  · cases a <;> first | (cases na; done) | (cases h; done)
  · cases b <;> first | (cases nb; done) | (cases h; done)
theorem st_par (o : Xok G T N C lv Wx sc X) (hh : T.hot = false) (xs : Xs X) {i j : Nat} {x y : Str} {a b : E} {pa pb : Expr} {px py p1 p2 pos : Pos} {k1 k2 : Nat} (h : parB N sc i j x y px py pa pb = true) (ha : chkE T N sc a pa = true) (hb : chkE T N sc b pb = true) (hp : PA X [pa, pb] (rdEs G C Wx [a, b])) :
    PS X (.Assign [.Tuple [.Name x px, .Name y py] k1 p1] (.Tuple [pa, pb] k2 p2) pos) (rdS G Wx fun base ρ st => evS C base (.par [i, j] [a, b]) ρ st) := by
  unfold parB at h
  obtain ⟨g1, h⟩ := and2 h
  obtain ⟨g2, h⟩ := and2 h
  obtain ⟨g3, h⟩ := and2 h
  obtain ⟨g4, h⟩ := and2 h
  obtain ⟨g5, h⟩ := and2 h
  obtain ⟨g6, h⟩ := and2 h
  obtain ⟨g7, h⟩ := and2 h
  obtain ⟨g8, g9⟩ := and2 h
  obtain ⟨n1, l1⟩ := tgB_ok o g1
  obtain ⟨n2, l2⟩ := tgB_ok o g2
  have lx : X.env.scope.names.lookup x = some .local := by rw [o.hsc]; exact isLoc_ok g3
  have ly : X.env.scope.names.lookup y = some .local := by rw [o.hsc]; exact isLoc_ok g4
  have P0 := ps_par (pos := pos) (kt := k1) (k2 := k2) (pt := p1) (pt2 := p2) (px := px) (py := py) (o.calm hh) (by rw [o.hN]; exact o.nd) n1 n2 (of_decide_eq_true g6) lx ly hp (swPar xs.kind lx ly g5 (of_decide_eq_true g7) (chkE_star ha) (chkE_star hb) (Bool.not_eq_true' _ |>.mp g8) (Bool.not_eq_true' _ |>.mp g9))
  refine PS.weak P0 fun D σ H ⟨W, bd, base, ρ, st, r, en, q⟩ => ?_
  refine ⟨W, bd, base, ρ, st, r, en, ?_⟩
  have q' : AnsS G bd base Wx W H st (match evEs C base [a, b] ρ st with
    | .ok ds st => if [i, j].length = ds.length ∧ (∀ k ∈ [i, j], k < ρ.length) then .nx (([i, j].zip ds).foldl (fun ρ p => ρ.set p.1 (some p.2)) ρ) st else .bad
    | .exc d st => .exc d ρ st
    | .bad => .bad) D := q
  dsimp only
  cases e : evEs C base [a, b] ρ st with
  | ok ds st' =>
    rw [e] at q'
    have q2 : AnsS G bd base Wx W H st (if [i, j].length = ds.length ∧ (∀ k ∈ [i, j], k < ρ.length) then .nx (([i, j].zip ds).foldl (fun ρ p => ρ.set p.1 (some p.2)) ρ) st' else .bad) D := q'
    intro vs W' H' p dv
    split at q2
    · rename_i hl
      have hl2 : ds.length = 2 := hl.1.symm
      match ds, hl2, dv, q2 with
      | [d1, d2], _, dv, q2 =>
        obtain ⟨v1, r1, rfl, dv1, v2, r2, rfl, dv2, rfl⟩ := dv
        exact ⟨v1, v2, rfl, q2 _ W' H' p (((en.post p r).set dv1).set dv2)⟩
    · exact q2.elim
  | exc d st' =>
    rw [e] at q'
    exact fun cls dd W' H' p x => q' σ cls dd W' H' p (en.post p r) x
  | bad => rw [e] at q'; exact q'
/-! ### a, b, c = x, y, z -/
theorem swPar3 {env : Env} {x y z : Str} {px py pz p1 p2 : Pos} {k1 k2 : Nat} {a b c : Expr} (hk : env.scope.kind = .function) (hx : env.scope.names.lookup x = some .local) (hy : env.scope.names.lookup y = some .local) (hz : env.scope.names.lookup z = some .local) (hl : (px.line == py.line) = true) (hl2 : (px.line == pz.line) = true)
    (hxy : x ≠ y) (hxz : x ≠ z) (hyz : y ≠ z) (na : noStar a = true) (nb : noStar b = true) (nc : noStar c = true)
    (hf : (foldedForSure 8 a && (foldedForSure 8 b && foldedForSure 8 c)) = false) (hcn : (constantsAlone 8 a && (constantsAlone 8 b && constantsAlone 8 c)) = false) : swappedStores [.Tuple [.Name x px, .Name y py, .Name z pz] k1 p1] (.Tuple [a, b, c] k2 p2) env = pure (some [x, y, z]) := by
  have kx : env.kindOf x = some .local := hx
  have ky : env.kindOf y = some .local := hy
  have kz : env.kindOf z = some .local := hz
  have hb : env.blockKind = .function := by unfold Env.blockKind; rw [hk]; rfl
  have hl' : py.line = px.line := (eq_of_beq hl).symm
  have hl3 : pz.line = px.line := (eq_of_beq hl2).symm
  have e1 : [a, b, c].all (foldedForSure 8) = false := by simpa using hf
  have e2 : [a, b, c].all (constantsAlone 8) = false := by simpa using hcn
  have xy' : (x == y) = false := by simpa using hxy
  have yx' : (y == x) = false := by simpa using Ne.symm hxy
  have xz' : (x == z) = false := by simpa using hxz
  have zx' : (z == x) = false := by simpa using Ne.symm hxz
  have yz' : (y == z) = false := by simpa using hyz
  have zy' : (z == y) = false := by simpa using Ne.symm hyz
  unfold swappedStores
  simp only [hb, e1, e2]
  simp [kx, ky, kz, hl', hl3, xy', yx', xz', zx', yz', zy', List.eraseDups, List.eraseDupsBy, List.eraseDupsBy.loop, Expr.pos]
  rintro (h | h | h)
  · cases a <;> first | (cases na; done) | (cases h; done)
  · cases b <;> first | (cases nb; done) | (cases h; done)
  · cases c <;> first | (cases nc; done) | (cases h; done)
theorem st_par3 (o : Xok G T N C lv Wx sc X) (hh : T.hot = false) (xs : Xs X) {i j l : Nat} {x y z : Str} {a b c : E} {pa pb pc : Expr} {px py pz p1 p2 pos : Pos} {k1 k2 : Nat} (h : par3B N sc i j l x y z px py pz pa pb pc = true) (ha : chkE T N sc a pa = true) (hb : chkE T N sc b pb = true) (hc : chkE T N sc c pc = true) (hp : PA X [pa, pb, pc] (rdEs G C Wx [a, b, c])) :
    PS X (.Assign [.Tuple [.Name x px, .Name y py, .Name z pz] k1 p1] (.Tuple [pa, pb, pc] k2 p2) pos) (rdS G Wx fun base ρ st => evS C base (.par [i, j, l] [a, b, c]) ρ st) := by
  unfold par3B at h
  obtain ⟨g1, h⟩ := and2 h
  obtain ⟨g2, h⟩ := and2 h
  obtain ⟨g3, h⟩ := and2 h
  obtain ⟨g4, h⟩ := and2 h
  obtain ⟨g5, h⟩ := and2 h
  obtain ⟨g6, h⟩ := and2 h
  obtain ⟨g7, h⟩ := and2 h
  obtain ⟨g8, h⟩ := and2 h
  obtain ⟨g9, h⟩ := and2 h
  obtain ⟨g10, h⟩ := and2 h
  obtain ⟨g11, h⟩ := and2 h
  obtain ⟨g12, h⟩ := and2 h
  obtain ⟨g13, h⟩ := and2 h
  obtain ⟨g14, h⟩ := and2 h
  obtain ⟨g15, g16⟩ := and2 h
  obtain ⟨n1, l1⟩ := tgB_ok o g1
  obtain ⟨n2, l2⟩ := tgB_ok o g2
  obtain ⟨n3, l3⟩ := tgB_ok o g3
  have lx : X.env.scope.names.lookup x = some .local := by rw [o.hsc]; exact isLoc_ok g4
  have ly : X.env.scope.names.lookup y = some .local := by rw [o.hsc]; exact isLoc_ok g5
  have lz : X.env.scope.names.lookup z = some .local := by rw [o.hsc]; exact isLoc_ok g6
  have P0 := ps_par3 (pos := pos) (kt := k1) (k2 := k2) (pt := p1) (pt2 := p2) (px := px) (py := py) (pz := pz) (o.calm hh) (by rw [o.hN]; exact o.nd) n1 n2 n3 (of_decide_eq_true g9) (of_decide_eq_true g10) (of_decide_eq_true g11) lx ly lz hp
    (swPar3 xs.kind lx ly lz g7 g8 (of_decide_eq_true g12) (of_decide_eq_true g13) (of_decide_eq_true g14) (chkE_star ha) (chkE_star hb) (chkE_star hc) (Bool.not_eq_true' _ |>.mp g15) (Bool.not_eq_true' _ |>.mp g16))
  refine PS.weak P0 fun D σ H ⟨W, bd, base, ρ, st, r, en, q⟩ => ?_
  refine ⟨W, bd, base, ρ, st, r, en, ?_⟩
  have q' : AnsS G bd base Wx W H st (match evEs C base [a, b, c] ρ st with
    | .ok ds st => if [i, j, l].length = ds.length ∧ (∀ k ∈ [i, j, l], k < ρ.length) then .nx (([i, j, l].zip ds).foldl (fun ρ p => ρ.set p.1 (some p.2)) ρ) st else .bad
    | .exc d st => .exc d ρ st
    | .bad => .bad) D := q
  dsimp only
  cases e : evEs C base [a, b, c] ρ st with
  | ok ds st' =>
    rw [e] at q'
    have q2 : AnsS G bd base Wx W H st (if [i, j, l].length = ds.length ∧ (∀ k ∈ [i, j, l], k < ρ.length) then .nx (([i, j, l].zip ds).foldl (fun ρ p => ρ.set p.1 (some p.2)) ρ) st' else .bad) D := q'
    intro vs W' H' p dv
    split at q2
    · rename_i hl
      have hl2 : ds.length = 3 := hl.1.symm
      match ds, hl2, dv, q2 with
      | [d1, d2, d3], _, dv, q2 =>
        obtain ⟨v1, r1, rfl, dv1, v2, r2, rfl, dv2, v3, r3, rfl, dv3, rfl⟩ := dv
        exact ⟨v1, v2, v3, rfl, q2 _ W' H' p ((((en.post p r).set dv1).set dv2).set dv3)⟩
    · exact q2.elim
  | exc d st' =>
    rw [e] at q'
    exact fun cls dd W' H' p x => q' σ cls dd W' H' p (en.post p r) x
  | bad => rw [e] at q'; exact q'
/-! ### loops -/
theorem st_whl (o : Xok G T N C lv Wx sc X) (xs : Xs X) {c : E} {b : List S} {pc : Expr} {pb : List Stmt} {pos : Pos} (hc : PT X pc (rdT G C Wx c)) (hb : PSs X pb (rdS G Wx fun base ρ st => evSs C base b ρ st)) :
    PS X (.While pc pb [] pos) (rdS G Wx fun base ρ st => evS C base (.whl c b) ρ st) := by
  refine PS.weak (ps_while xs.owns hc hb) fun D σ H ⟨W, bd, base, ρ, st, r, en, q⟩ => ?_
  have q' : AnsS G bd base Wx W H st (whlD (fun ρ st => (match evE C base c ρ st with
    | .ok x st => (match truth (vw st x) with
      | some true => (match evSs C base b ρ st with
        | .nx ρ st => .go ρ st
        | .cnt ρ st => .go ρ st
        | .brk ρ st => .done (.nx ρ st)
        | r => .done r)
      | some false => .done (.nx ρ st)
      | none => .done .bad)
    | .exc d st => .done (.exc d ρ st)
    | .bad => .done .bad)) ρ st) D := q
  generalize hf : (fun (ρ : En) (st : Sto) => (match evE C base c ρ st with
    | .ok x st => (match truth (vw st x) with
      | some true => (match evSs C base b ρ st with
        | .nx ρ st => Ws.go ρ st
        | .cnt ρ st => .go ρ st
        | .brk ρ st => .done (.nx ρ st)
        | r => .done r)
      | some false => .done (.nx ρ st)
      | none => .done .bad)
    | .exc d st => .done (.exc d ρ st)
    | .bad => .done .bad)) = f at q'
  have nb : whlD f ρ st ≠ .bad := fun z => by rw [z] at q'; exact q'
  obtain ⟨m, hm⟩ := whlD_run nb
  rw [hm] at q'
  refine ⟨fun m σ H => ∃ W ρ st, RS G bd base W H st ∧ EnR G W st.length H ρ σ ∧ AnsS G bd base Wx W H st (whlN f m ρ st) D, ⟨m, W, ρ, st, r, en, q'⟩, ?_⟩
  rintro m σ H ⟨W, ρ, st, r, en, q⟩
  cases m with
  | zero => exact q.elim
  | succ m =>
    have q2 : AnsS G bd base Wx W H st (match f ρ st with
      | .go ρ st => whlN f m ρ st
      | .done r => r) D := q
    rw [← hf] at q2
    refine ⟨W, bd, base, ρ, st, r, en, ?_⟩
    unfold tstE
    dsimp only at q2 ⊢
    cases e1 : evE C base c ρ st with
    | ok x st1 =>
      rw [e1] at q2
      show Ans eqRl G bd base Wx σ W H st (opt (truth (vw st1 x)) st1) _
      dsimp only at q2
      cases e2 : truth (vw st1 x) with
      | none => rw [e2] at q2; exact q2
      | some k =>
        rw [e2] at q2
        intro v W' H' p hv
        have hv' : k = v := hv
        subst hv'
        cases k with
        | false => exact q2 σ W' H' p (en.post p r)
        | true =>
          refine ⟨fun σ' H' => ∃ W ρ st, RS G bd base W H' st ∧ EnR G W st.length H' ρ σ' ∧ AnsS G bd base Wx W H' st (whlN f m ρ st) D, fun σ' H' z => ⟨m, Nat.lt_succ_self m, z⟩, ?_⟩
          refine ⟨W', bd, base, ρ, st1, p.rs, en.post p r, ?_⟩
          dsimp only at q2 ⊢
          rw [hf] at q2
          cases e3 : evSs C base b ρ st1 with
          | nx ρ2 st2 =>
            rw [e3] at q2
            exact fun σ' W2 H2 p2 en2 => ⟨W2, ρ2, st2, p2.rs, en2, AnsS.shift (p.trans p2) q2⟩
          | cnt ρ2 st2 =>
            rw [e3] at q2
            exact fun σ' W2 H2 p2 en2 => ⟨W2, ρ2, st2, p2.rs, en2, AnsS.shift (p.trans p2) q2⟩
          | brk ρ2 st2 =>
            rw [e3] at q2
            exact fun σ' W2 H2 p2 en2 => q2 σ' W2 H2 (p.trans p2) en2
          | ret d st2 =>
            rw [e3] at q2
            exact fun v W2 H2 p2 dv => q2 v W2 H2 (p.trans p2) dv
          | exc d ρ2 st2 =>
            rw [e3] at q2
            exact fun σ' cls dd W2 H2 p2 en2 x => q2 σ' cls dd W2 H2 (p.trans p2) en2 x
          | bad => rw [e3] at q2; exact q2
    | exc d st1 =>
      rw [e1] at q2
      exact fun cls dd W' H' p x => q2 σ cls dd W' H' p (en.post p r) x
    | bad => rw [e1] at q2; exact q2
/-- the items known -/
theorem for_core (o : Xok G T N C lv Wx sc X) {t : Tn} {b : List S} {J : It} {items : List Rf.D} {keep : Sto → Bool} {P : Wd → Nat → Hp → Prop} {Gd : Hp → Prop} {Y : Nat → Hp → V → Hp → Prop} {D : Ends}
    (src : Src G J items P Gd Y) (r : RS G bd base W H1 st) (en : EnR G W st.length H1 ρ σ) (hP : P W st.length H1)
    (q : AnsS G bd base Wx W H1 st (forD (fun x ρ st => (match putN t x ρ with
      | some ρ => evSs C base b ρ st
      | none => .bad)) keep items ρ st) D) :
    ∃ Wv : Nat → Nat → L2.St → Hp → Prop, (∃ m, Wv 0 m σ H1) ∧ ∀ i m σ H, Wv i m σ H →
      (J.stop i H ∧ D.nx σ H) ∨ (J.go i H ∧ ∃ Nn : L2.St → Hp → Prop, (∀ σ' H', Nn σ' H' → ∃ m', m' < m ∧ Wv (i + 1) m' σ' H') ∧ ∀ x H', J.yld i H x H' → rdTn X.K t x σ H' fun σ2 H2 => rdS G Wx (fun base ρ st => evSs C base b ρ st) { D with nx := Nn, ct := Nn, bk := D.nx } σ2 H2) := by
  generalize hf : (fun (x : Rf.D) (ρ : En) (st : Sto) => (match putN t x ρ with
      | some ρ => evSs C base b ρ st
      | none => Fl.bad)) = f at q
  refine for_it src.walk (fun i σ' H' => ∃ (W' : Wd) (ρ' : En) (st' : Sto), Post G bd base W H1 st W' H' st' ∧ P W' st'.length H' ∧ EnR G W' st'.length H' ρ' σ' ∧
    AnsS G bd base Wx W' H' st' (forD f keep (items.drop i) ρ' st') D) ?_ ?_ ?_ ?_
  · exact ⟨W, ρ, st, Post.refl r, hP, en, by rw [List.drop_zero]; exact q⟩
  · rintro i σ' H' _ ⟨W', ρ', st', p, hp, en', _⟩
    exact src.good _ _ _ hp
  · rintro i x σ' H2 H3 hlt ⟨W', ρ', st', p, hp, en', q'⟩ hy
    have hx : items[i]? = some items[i] := List.getElem?_eq_getElem hlt
    obtain ⟨p2, dx⟩ := src.item p.rs hp hx hy
    rw [List.drop_eq_getElem_cons hlt] at q'
    have q2 : AnsS G bd base Wx W' H2 st' (if keep st' then (match f items[i] ρ' st' with
      | .nx ρ st => forD f keep (items.drop (i + 1)) ρ st
      | .cnt ρ st => forD f keep (items.drop (i + 1)) ρ st
      | .brk ρ st => .nx ρ st
      | .ret d st => .ret d st
      | .exc d ρ st => .exc d ρ st
      | .bad => .bad) else .bad) D := q'
    split at q2
    rotate_left
    · exact q2.elim
    rw [← hf] at q2
    dsimp only at q2
    cases e7 : putN t items[i] ρ' with
    | none => rw [e7] at q2; exact q2.elim
    | some ρ2 =>
    rw [e7] at q2
    dsimp only at q2
    rw [hf] at q2
    refine tn_ok o.K (vs := []) e7 dx (en'.post p2 p.rs) fun σ2 en2 _ => ?_
    refine ⟨W', bd, base, ρ2, st', p2.rs, en2, ?_⟩
    dsimp only
    have q3 := AnsS.shift p2 q2
    cases e8 : evSs C base b ρ2 st' with
    | nx ρ3 st3 =>
      rw [e8] at q3
      exact fun σ4 W4 H4 p4 en4 => ⟨W4, ρ3, st3, (p.trans p2).trans p4, src.keep p2.rs p4 (src.keep p.rs p2 hp), en4, AnsS.shift p4 q3⟩
    | cnt ρ3 st3 =>
      rw [e8] at q3
      exact fun σ4 W4 H4 p4 en4 => ⟨W4, ρ3, st3, (p.trans p2).trans p4, src.keep p2.rs p4 (src.keep p.rs p2 hp), en4, AnsS.shift p4 q3⟩
    | brk ρ3 st3 => rw [e8] at q3; exact q3
    | ret d st3 => rw [e8] at q3; exact q3
    | exc d ρ3 st3 => rw [e8] at q3; exact q3
    | bad => rw [e8] at q3; exact q3
  · rintro σ' H' ⟨W', ρ', st', p, hp, en', q'⟩
    rw [List.drop_length] at q'
    have q2 : AnsS G bd base Wx W' H' st' (if keep st' then .nx ρ' st' else .bad) D := q'
    split at q2
    · exact q2 σ' W' H' (Post.refl p.rs) en'
    · exact q2.elim
theorem tg_pg (o : Xok G T N C lv Wx sc X) (hh : T.hot = false) (xs : Xs X) {own : List Nat} {t : Tn} {tg : Expr} (h : chkTn N sc sc own t tg = true) : PG X tg (rdTn X.K t) := by
  have one : ∀ {i : Nat} {x : Str} {pos : Pos}, ownB N sc sc own i x = true → PG X (.Name x pos) (gName i) := fun {i x pos} h => by
    obtain ⟨h1, h2⟩ := and2 h
    obtain ⟨h2, h3⟩ := and2 h2
    have hi : X.N[i]? = some x := by
      rw [o.hN]
      split at h1
      · rename_i e; rw [e, of_decide_eq_true h1]
      · cases h1
    have hx : L2.Loc X.env.scope x := by
      rw [o.hsc]
      unfold locC at h2
      split at h2
      · rename_i e; exact .inl e
      · rename_i e
        exact .inr e
      · cases h2
    exact pg_name (by rw [o.hN]; exact o.nd) hi hx (.inl (xs.fn x))
  have many : ∀ {is : List Nat} {ps : List Expr}, chkTns N sc sc own is ps = true → PGs X ps (gNames is) := by
    intro is
    induction is with
    | nil => intro ps h; cases ps with
      | nil => exact pgs_nil
      | cons _ _ => cases h
    | cons i is ih =>
      intro ps h
      cases ps with
      | nil => cases h
      | cons p ps => cases p with
        | Name x pos =>
          obtain ⟨h1, h2⟩ := and2 (show (ownB N sc sc own i x && chkTns N sc sc own is ps) = true from h)
          exact pgs_cons (one h1) (ih h2) rfl
        | _ => cases h
  cases t with
  | nm i => cases tg with
    | Name x pos => exact one h
    | _ => cases h
  | tup is => cases tg with
    | Tuple ps k pos =>
      have h' : chkTns N sc sc own is ps = true := h
      obtain ⟨l1, l2⟩ := each_len (env := X.env) h'
      exact pg_tup (o.calm hh) (many h') l1 l2
    | _ => cases h
theorem for_rd (o : Xok G T N C lv Wx sc X) {t : Tn} {it : I} {b : List S} {D : Ends} (q : rdS G Wx (fun base ρ st => evS C base (.forS t it b) ρ st) D σ H) :
    tFor (rdI G C Wx it) (rdTn X.K t) (rdS G Wx fun base ρ st => evSs C base b ρ st) D σ H := by
  obtain ⟨W, bd, base, ρ, st, r, en, q⟩ := q
  have q' : AnsS G bd base Wx W H st (match evI C base it ρ st with
    | .ok p st => forD (fun x ρ st => (match putN t x ρ with
      | some ρ => evSs C base b ρ st
      | none => .bad)) p.2 p.1 ρ st
    | .exc d st => .exc d ρ st
    | .bad => .bad) D := q
  refine ⟨W, bd, base, ρ, st, r, en, ?_⟩
  dsimp only
  cases e : evI C base it ρ st with
  | ok p st' =>
    rw [e] at q'
    intro J W' H' pp ⟨P, Gd, Y, src, hP⟩
    exact for_core o src pp.rs (en.post pp r) hP (AnsS.shift pp q')
  | exc d st' =>
    rw [e] at q'
    exact fun cls dd W' H' p x => q' σ cls dd W' H' p (en.post p r) x
  | bad => rw [e] at q'; exact q'
theorem st_for (o : Xok G T N C lv Wx sc X) (hh : T.hot = false) (xs : Xs X) {own : List Nat} {t : Tn} {it : I} {b : List S} {tg pit : Expr} {pb : List Stmt} {pos : Pos} (ht : chkTn N sc sc own t tg = true) (hi : PI X tg pit (rdI G C Wx it)) (hset : noSet pit = true) (hb : PSs X pb (rdS G Wx fun base ρ st => evSs C base b ρ st)) :
    PS X (.For tg pit pb [] pos) (rdS G Wx fun base ρ st => evS C base (.forS t it b) ρ st) :=
  PS.weak (ps_for xs.owns (o.calm hh) hi (tg_pg o hh xs ht) hb (fun x => by cases pit <;> first | rfl | cases hset)) fun D σ H q => for_rd o q
end
end Rf

namespace Rf
open PySem PySem.Spec PyProof.Rows L2
section
variable {G : Gx} {T : Tx} {N : List Str} {C : Call} {lv : Nat} {Wx : WX} {sc : Scope} {X : Cx} {σ : L2.St} {H H' H1 : Hp} {W W' W1 : Wd} {n : Nat} {bd : Nat → Nat} {base : Nat} {st st' st1 : Sto} {ρ : En}
/-! ### for k in d -/
theorem anss_lock {a : Addr} {od : Obj} {kvs : List (Key × V)} {rr : Fl} {D : Ends} (r : RS G bd base W H st) (f : W.F a) (h : H a = some (.dK kvs)) (hx : (∃ ρ st, rr = .nx ρ st) ∨ ∃ d st, rr = .ret d st) (q : AnsS G bd base Wx W H st rr D) :
    AnsS G bd base Wx W (upd H a (.frz od (.dK kvs))) st rr ⟨fun σ' H' => H' a = some (.frz od (.dK kvs)) ∧ D.nx σ' (upd H' a (.dK kvs)), fun v H' => H' a = some (.frz od (.dK kvs)) ∧ D.rt v (upd H' a (.dK kvs)),
      fun σ' H' => H' a = some (.frz od (.dK kvs)) ∧ D.bk σ' (upd H' a (.dK kvs)), fun σ' H' => H' a = some (.frz od (.dK kvs)) ∧ D.ct σ' (upd H' a (.dK kvs))⟩ := by
  rcases hx with ⟨ρ', st', rfl⟩ | ⟨d, st', rfl⟩
  · intro σ' W' H' p en
    obtain ⟨ha, p2⟩ := post_lock r f h p
    exact ⟨ha, q σ' W' _ p2 (en.rdk (rdk_unlock ha))⟩
  · intro v W' H' p dv
    obtain ⟨ha, p2⟩ := post_lock r f h p
    exact ⟨ha, q v W' _ p2 (DV.rdk (rdk_unlock ha) dv)⟩
theorem fork_rd (o : Xok G T N C lv Wx sc X) {t : Tn} {i : Nat} {b : List S} {D : Ends} (q : rdS G Wx (fun base ρ st => evS C base (.forK t i b) ρ st) D σ H) :
    tLock (tFor (iKeys (tVar i)) (rdTn X.K t) (rdS G Wx fun base ρ st => evSs C base b ρ st)) D σ H ∨ tFor (iKeys (tVar i)) (rdTn X.K t) (rdS G Wx fun base ρ st => evSs C base b ρ st) D σ H := by
  obtain ⟨W, bd, base, ρ, st, r, en, q⟩ := q
  have q' : AnsS G bd base Wx W H st (match getV ρ i with
    | some (.dct ks _) => (match forD (fun x ρ st => (match putN t x ρ with
      | some ρ => evSs C base b ρ st
      | none => .bad)) (fun _ => true) (ks.map ofKey) ρ st with
      | .nx ρ st => .nx ρ st
      | .ret d st => .ret d st
      | _ => .bad)
    | _ => .bad) D := q
  cases eg : getV ρ i with
  | none => rw [eg] at q'; exact q'.elim
  | some d => cases d with
    | dct ks vs =>
      rw [eg] at q'
      have q2 : AnsS G bd base Wx W H st (match forD (fun x ρ st => (match putN t x ρ with
        | some ρ => evSs C base b ρ st
        | none => Fl.bad)) (fun _ => true) (ks.map ofKey) ρ st with
        | .nx ρ st => .nx ρ st
        | .ret d st => .ret d st
        | _ => .bad) D := q'
      have q3 : AnsS G bd base Wx W H st (forD (fun x ρ st => (match putN t x ρ with
        | some ρ => evSs C base b ρ st
        | none => Fl.bad)) (fun _ => true) (ks.map ofKey) ρ st) D ∧ ((∃ ρ' st', forD (fun x ρ st => (match putN t x ρ with
        | some ρ => evSs C base b ρ st
        | none => Fl.bad)) (fun _ => true) (ks.map ofKey) ρ st = .nx ρ' st') ∨ ∃ d st', forD (fun x ρ st => (match putN t x ρ with
        | some ρ => evSs C base b ρ st
        | none => Fl.bad)) (fun _ => true) (ks.map ofKey) ρ st = .ret d st') := by
        cases e : forD (fun x ρ st => (match putN t x ρ with
          | some ρ => evSs C base b ρ st
          | none => Fl.bad)) (fun _ => true) (ks.map ofKey) ρ st with
        | nx ρ' st' => rw [e] at q2; exact ⟨q2, .inl ⟨_, _, rfl⟩⟩
        | ret d st' => rw [e] at q2; exact ⟨q2, .inr ⟨_, _, rfl⟩⟩
        | _ => rw [e] at q2; exact q2.elim
      obtain ⟨q3, q4⟩ := q3
      obtain ⟨v, hv, dv⟩ := en.2 i _ (getV_ok eg).1
      obtain ⟨a, kvs, rfl, f, hR, hk, hd⟩ := dv
      rcases hR with hR | ⟨o', hR⟩
      · refine .inl ⟨a, .dK kvs, hR, trivial, fun od => ⟨.ref a, hv, a, od, rfl, .inl ⟨kvs, upd_same, ?_⟩⟩⟩
        have h0 := rdk_lock (W := W) (od := od) hR
        exact for_core o (src_keys hk) (r.rdk h0 f) (en.rdk h0) ⟨f, upd_same⟩ (anss_lock r f hR q4 q3)
      · exact .inr ⟨.ref a, hv, a, o', rfl, .inl ⟨kvs, hR, for_core o (src_keys hk) r en ⟨f, hR⟩ q3⟩⟩
    | _ => rw [eg] at q'; exact q'.elim
theorem st_fork (o : Xok G T N C lv Wx sc X) (hh : T.hot = false) (xs : Xs X) {own : List Nat} {t : Tn} {i : Nat} {b : List S} {tg : Expr} {x : Str} {pb : List Stmt} {p0 pos : Pos} (ht : chkTn N sc sc own t tg = true) (hv : varB N sc i x = true) (hb : PSs X pb (rdS G Wx fun base ρ st => evSs C base b ρ st)) :
    PS X (.For tg (.Name x p0) pb [] pos) (rdS G Wx fun base ρ st => evS C base (.forK t i b) ρ st) := by
  obtain ⟨k1, k2, k3, k4⟩ := varB_ok o hv
  have P0 := ps_for (pos := pos) xs.owns (o.calm hh) (pi_keys (tg := tg) (pe_var (pos := p0) k1 k2 k3 k4)) (tg_pg o hh xs ht) hb (fun x => rfl)
  exact PS.weak (PS.or (ps_lock P0) P0) fun D σ H q => fork_rd o q
/-! ### an object that is never written from here on -/
theorem rs_freeze (r : RS G bd base W H st) {k : Nat} (hl : live st k) : Ext W H st ⟨W.m, fun a => W.F a ∨ a = W.m k⟩ H (st.set k .dead) ∧ RS G bd base ⟨W.m, fun a => W.F a ∨ a = W.m k⟩ H (st.set k .dead) := by
  have lv : ∀ j, live (st.set k .dead) j → j ≠ k ∧ live st j := by
    rintro j ⟨ob, e, nd⟩
    by_cases q : k = j
    · subst q
      rw [List.getElem?_set_self hl.lt] at e
      cases e
      exact absurd rfl nd
    · rw [List.getElem?_set_ne q] at e
      exact ⟨Ne.symm q, ob, e, nd⟩
  refine ⟨⟨fun a o h _ => h, fun a h => .inl h, fun _ _ => rfl, fun j _ h => (lv j h).2, fun j hj h => absurd (lv j h).2.lt (by omega), fun a h => h, by simp, fun a h => ?_⟩, fun j ob e => ?_, fun i j hi hj z => r.inj i j (lv i hi).2 (lv j hj).2 z, fun j hj z => ?_, fun a h => ?_, r.bdl, by simpa using r.bl⟩
  · rcases h with h | h
    · exact .inl h
    · exact .inr (.inr ⟨k, hl, h.symm⟩)
  · rw [List.length_set]
    by_cases q : k = j
    · subst q
      rw [List.getElem?_set_self hl.lt] at e
      cases e
      trivial
    · rw [List.getElem?_set_ne q] at e
      exact obR.wm (fun _ h => .inl h) (fun _ _ => rfl) (Nat.le_refl _) rfl (r.obj j ob e)
  · rcases z with z | z
    · exact r.fF j (lv j hj).2 z
    · exact (lv j hj).1 (r.inj j k (lv j hj).2 hl z)
  · rcases h with h | h
    · exact r.fH a h
    · obtain ⟨o, e, _⟩ := r.some hl
      exact ⟨o, by rw [h]; exact e⟩
theorem st_freeze {i : Nat} {ss : List S} {ps : List Stmt} (h : PSs X ps (rdS G Wx fun base ρ st => evSs C base ss ρ st)) : PSs X ps (rdS G Wx fun base ρ st => evSs C base (.freeze i :: ss) ρ st) := by
  refine PSs.weak h fun D σ H ⟨W, bd, base, ρ, st, r, en, q⟩ => ?_
  have q' : AnsS G bd base Wx W H st (match (match getV ρ i with
    | some (.ref n) => if base ≤ n then (match st[n]? with
      | some (.lst ds) => Fl.nx (ρ.set i (some (.lst ds))) (st.set n .dead)
      | some (.dct ks vs) => .nx (ρ.set i (some (.dct ks vs))) (st.set n .dead)
      | _ => .bad) else .bad
    | _ => .bad) with
    | .nx ρ st => evSs C base ss ρ st
    | r => r) D := q
  cases eg : getV ρ i with
  | none => rw [eg] at q'; exact q'.elim
  | some d => cases d with
    | ref k =>
      rw [eg] at q'
      dsimp only at q'
      by_cases hb : base ≤ k
      · rw [if_pos hb] at q'
        obtain ⟨v, hv, ev, hk⟩ := en.2 i _ (getV_ok eg).1
        cases e : st[k]? with
        | none => rw [e] at q'; exact q'.elim
        | some ob => cases ob with
          | lst ds =>
            rw [e] at q'
            have hl : live st k := ⟨_, e, by simp⟩
            obtain ⟨ex, rs⟩ := rs_freeze r hl
            obtain ⟨xs, h1, h2⟩ := r.obj k _ e
            have P : Post G bd base W H st _ H _ := ⟨ex, rs⟩
            refine ⟨_, bd, base, _, _, rs, ⟨by rw [List.length_set]; exact en.1, fun j d hj => ?_⟩, AnsS.shift P q'⟩
            by_cases z : i = j
            · subst z
              have hi : i < ρ.length := by
                have := (List.getElem?_eq_some_iff.mp (getV_ok eg).1).1; exact this
              rw [List.getElem?_set_self hi] at hj
              cases hj
              refine ⟨v, hv, DVx.of (d := .lst ds) ⟨_, xs, ev, .inr rfl, h1, DVs.wm (W := W) (W' := ⟨W.m, fun a => W.F a ∨ a = W.m k⟩) (fun _ h => .inl h) (fun _ _ => rfl) ?_ h2⟩⟩
              rw [List.length_set]; exact bdOf_le r
            · rw [List.getElem?_set_ne z] at hj
              obtain ⟨u, e1, e2⟩ := en.2 j d hj
              exact ⟨u, e1, e2.map (fun h => DV.wm (W := W) (W' := ⟨W.m, fun a => W.F a ∨ a = W.m k⟩) (fun _ h => .inl h) (fun _ _ => rfl) (by simp) h) (fun h => DVs.wm (W := W) (W' := ⟨W.m, fun a => W.F a ∨ a = W.m k⟩) (fun _ h => .inl h) (fun _ _ => rfl) (Nat.le_refl _) h) (fun _ h => .inl h) (fun _ _ _ h => h)⟩
          | dct ks vs =>
            rw [e] at q'
            have hl : live st k := ⟨_, e, by simp⟩
            obtain ⟨ex, rs⟩ := rs_freeze r hl
            obtain ⟨kvs, h1, h2, h3⟩ := r.obj k _ e
            have P : Post G bd base W H st _ H _ := ⟨ex, rs⟩
            refine ⟨_, bd, base, _, _, rs, ⟨by rw [List.length_set]; exact en.1, fun j d hj => ?_⟩, AnsS.shift P q'⟩
            by_cases z : i = j
            · subst z
              have hi : i < ρ.length := by
                have := (List.getElem?_eq_some_iff.mp (getV_ok eg).1).1; exact this
              rw [List.getElem?_set_self hi] at hj
              cases hj
              refine ⟨v, hv, DVx.of (d := .dct ks vs) ⟨_, kvs, ev, .inr rfl, .inl h1, h2, DVs.wm (W := W) (W' := ⟨W.m, fun a => W.F a ∨ a = W.m k⟩) (fun _ h => .inl h) (fun _ _ => rfl) ?_ h3⟩⟩
              rw [List.length_set]; exact bdOf_le r
            · rw [List.getElem?_set_ne z] at hj
              obtain ⟨u, e1, e2⟩ := en.2 j d hj
              exact ⟨u, e1, e2.map (fun h => DV.wm (W := W) (W' := ⟨W.m, fun a => W.F a ∨ a = W.m k⟩) (fun _ h => .inl h) (fun _ _ => rfl) (by simp) h) (fun h => DVs.wm (W := W) (W' := ⟨W.m, fun a => W.F a ∨ a = W.m k⟩) (fun _ h => .inl h) (fun _ _ => rfl) (Nat.le_refl _) h) (fun _ h => .inl h) (fun _ _ _ h => h)⟩
          | _ => rw [e] at q'; exact q'.elim
      · rw [if_neg hb] at q'; exact q'.elim
    | _ => rw [eg] at q'; exact q'.elim
/-- an object told otherwise, the heap being as it is -/
theorem rs_redo (r : RS G bd base W H st) {k : Nat} (hl : live st k) {ob : Ob} (nd : ob ≠ .dead) (ho : obR G W H (bdOf bd base st.length k) k ob) : Ext W H st W H (st.set k ob) ∧ RS G bd base W H (st.set k ob) := by
  have lv : ∀ j, live (st.set k ob) j → live st j := by
    rintro j ⟨u, e, nu⟩
    by_cases q : k = j
    · subst q; exact hl
    · rw [List.getElem?_set_ne q] at e
      exact ⟨u, e, nu⟩
  refine ⟨⟨fun a o h _ => h, fun a h => h, fun _ _ => rfl, fun j _ h => lv j h, fun j hj h => absurd (lv j h).lt (by omega), fun a h => h, by simp, fun a h => .inl h⟩, fun j u e => ?_, fun i j hi hj z => r.inj i j (lv i hi) (lv j hj) z, fun j hj z => r.fF j (lv j hj) z, r.fH, r.bdl, by simpa using r.bl⟩
  rw [List.length_set]
  by_cases q : k = j
  · subst q
    rw [List.getElem?_set_self hl.lt] at e
    cases e
    exact ho
  · rw [List.getElem?_set_ne q] at e
    exact r.obj j u e
theorem dSet1_ok {n : Nat} : ∀ {ks : List Ky} {vs : List Rf.D} {zs : List V} {k : Ky} {d0 d : Rf.D}, DVs G W n H vs zs → dGet ks vs k = some d0 → (∀ v, DV G W n H d0 v → DV G W n H d v) → DVs G W n H (dSet1 ks vs k d) zs
  | [], [], _, _, _, _, h, e, _ => by cases e
  | [], _ :: _, _, _, _, _, h, e, _ => by cases e
  | _ :: _, [], _, _, _, _, h, e, _ => by cases e
  | j :: ks, v :: vs, _, k, d0, d, h, e, hd => by
    obtain ⟨y, ys, rfl, h1, h2⟩ := h
    have e' : (if j = k then some v else dGet ks vs k) = some d0 := e
    show DVs G W n H (if j = k then d :: vs else v :: dSet1 ks vs k d) (y :: ys)
    by_cases q : j = k
    · rw [if_pos q] at e' ⊢
      cases e'
      exact ⟨y, ys, rfl, hd y h1, h2⟩
    · rw [if_neg q] at e' ⊢
      exact ⟨y, ys, rfl, h1, dSet1_ok h2 e' hd⟩
theorem st_freezeK {i : Nat} {ky : Ky} {ss : List S} {ps : List Stmt} (h : PSs X ps (rdS G Wx fun base ρ st => evSs C base ss ρ st)) : PSs X ps (rdS G Wx fun base ρ st => evSs C base (.freezeK i ky :: ss) ρ st) := by
  refine PSs.weak h fun D σ H ⟨W, bd, base, ρ, st, r, en, q⟩ => ?_
  have q' : AnsS G bd base Wx W H st (match (match getV ρ i with
    | some (.ref n) => (match st[n]? with
      | some (.dct ks vs) => (match dGet ks vs ky with
        | some (.ref m) => if base ≤ n ∧ base ≤ m ∧ m ≠ n then (match st[m]? with
          | some (.lst ds) => Fl.nx ρ ((st.set m .dead).set n (.dct ks (dSet1 ks vs ky (.lst ds))))
          | _ => .bad) else .bad
        | _ => .bad)
      | _ => .bad)
    | _ => .bad) with
    | .nx ρ st => evSs C base ss ρ st
    | r => r) D := q
  cases eg : getV ρ i with
  | none => rw [eg] at q'; exact q'.elim
  | some d => cases d with
    | ref k =>
      rw [eg] at q'
      dsimp only at q'
      cases e : st[k]? with
      | none => rw [e] at q'; exact q'.elim
      | some ob => cases ob with
        | dct ks vs =>
          rw [e] at q'
          dsimp only at q'
          cases ed : dGet ks vs ky with
          | none => rw [ed] at q'; exact q'.elim
          | some d => cases d with
            | ref m =>
              rw [ed] at q'
              dsimp only at q'
              by_cases hc : base ≤ k ∧ base ≤ m ∧ m ≠ k
              rotate_left
              · rw [if_neg hc] at q'; exact q'.elim
              rw [if_pos hc] at q'
              obtain ⟨c1, c2, c3⟩ := hc
              cases em : st[m]? with
              | none => rw [em] at q'; exact q'.elim
              | some ob => cases ob with
                | lst ds =>
                  rw [em] at q'
                  dsimp only at q'
                  have lm : live st m := ⟨_, em, by simp⟩
                  obtain ⟨ex, rs⟩ := rs_freeze r lm
                  obtain ⟨xs, h1, h2⟩ := r.obj m _ em
                  have ek : (st.set m .dead)[k]? = some (.dct ks vs) := by rw [List.getElem?_set_ne c3]; exact e
                  have lk : live (st.set m .dead) k := ⟨_, ek, by simp⟩
                  obtain ⟨kvs, g1, g2, g3⟩ := rs.obj k _ ek
                  have bk : bdOf bd base (st.set m .dead).length k = st.length := by
                    unfold bdOf
                    rw [if_neg (by omega), List.length_set]
                  have bm : bdOf bd base st.length m = st.length := by
                    unfold bdOf
                    rw [if_neg (by omega)]
                  rw [bm] at h2
                  obtain ⟨ex2, rs2⟩ := rs_redo rs lk (ob := .dct ks (dSet1 ks vs ky (.lst ds))) (by simp) ⟨kvs, g1, g2, by
                    refine dSet1_ok g3 ed fun v hv => ?_
                    obtain ⟨ev, _⟩ := hv
                    refine ⟨_, xs, ev, .inr rfl, h1, ?_⟩
                    rw [bk]
                    exact DVs.wm (W := W) (W' := ⟨W.m, fun a => W.F a ∨ a = W.m m⟩) (fun _ h => .inl h) (fun _ _ => rfl) (Nat.le_refl _) h2⟩
                  have P : Post G bd base W H st ⟨W.m, fun a => W.F a ∨ a = W.m m⟩ H _ := ⟨ex, rs⟩
                  have P2 : Post G bd base W H st ⟨W.m, fun a => W.F a ∨ a = W.m m⟩ H _ := P.trans ⟨ex2, rs2⟩
                  exact ⟨_, bd, base, _, _, rs2, en.post P2 r, AnsS.shift P2 q'⟩
                | _ => rw [em] at q'; exact q'.elim
            | _ => rw [ed] at q'; exact q'.elim
        | _ => rw [e] at q'; exact q'.elim
    | _ => rw [eg] at q'; exact q'.elim
end
end Rf

/-! `__init__` of an own exception class: its fields, one behind another. -/
namespace Rf
open PySem PySem.Spec PyProof.Rows L2
/-- the rows self.f = x: the fields' names, the slots from i on -/
def chkInit (N : List Str) (sc : Scope) : List Str → Nat → List Stmt → Bool
  | [], _, [] => true
  | f :: fl, i, .Assign [.Attribute (.Name s _) g _] (.Name x _) _ :: ps => decide (f = g) && (varB N sc 0 s && (varB N sc i x && chkInit N sc fl (i + 1) ps))
  | _, _, _ => false
theorem initH_step {H : Hp} {a C dx : Addr} {fs fs' : List (Str × V)} (h : dx ≠ a) : upd (initH H a C dx fs) dx (exd dx fs') = initH H a C dx fs' := by
  funext b
  unfold initH
  by_cases h1 : b = dx
  · subst h1
    rw [upd_same, upd_ne h, upd_same]
  · rw [upd_ne h1]
    by_cases h2 : b = a
    · subst h2; rw [upd_same, upd_same]
    · rw [upd_ne h2, upd_ne h2, upd_ne h1, upd_ne h1]
theorem chkInit_cons {N : List Str} {sc : Scope} {f : Str} {fl : List Str} {i : Nat} {ps : List Stmt} (h : chkInit N sc (f :: fl) i ps = true) : ∃ s p0 p1 x p2 p3 r, ps = .Assign [.Attribute (.Name s p0) f p1] (.Name x p2) p3 :: r ∧ varB N sc 0 s = true ∧ varB N sc i x = true ∧ chkInit N sc fl (i + 1) r = true := by
  unfold chkInit at h
  split at h <;> first | contradiction | skip
  rename_i z; cases z
  obtain ⟨c1, c2⟩ := and2 h
  obtain ⟨c2, c3⟩ := and2 c2
  obtain ⟨c3, c4⟩ := and2 c3
  have e := of_decide_eq_true c1
  exact ⟨_, _, _, _, _, _, _, by rw [e], c2, c3, c4⟩
theorem chkInit_nil {N : List Str} {sc : Scope} {i : Nat} {ps : List Stmt} (h : chkInit N sc [] i ps = true) : ps = [] := by
  unfold chkInit at h
  split at h <;> first | contradiction | skip
  rfl
theorem pe_at {X : Cx} {N : List Str} {sc : Scope} (hN : X.N = N) (hsc : X.env.scope = sc) {i : Nat} {x : Str} {pos : Pos} (h : varB N sc i x = true) : PE X (.Name x pos) (tVar i) := by
  obtain ⟨h1, h2⟩ := and2 h
  obtain ⟨h2, h3⟩ := and2 h2
  obtain ⟨h3, h4⟩ := and2 h3
  refine pe_var ?_ (by rw [hsc]; exact visB_ok h2) (by simpa using h3) (by simpa using h4)
  rw [hN]
  split at h1
  · rename_i e
    rw [e, of_decide_eq_true h1]
  · cases h1
/-- the further fields -/
theorem init_rest {X : Cx} {N : List Str} {sc : Scope} (hN : X.N = N) (hsc : X.env.scope = sc) {a C dx : Addr} {H0 : Hp} (T : OexC X.K C) (hd : dx ≠ a) {D : Ends} {σ : L2.St} (h0 : σ[0]? = some (some (.ref a))) :
    ∀ {fl : List Str} {i : Nat} {ps : List Stmt} {ys : List V} {fs : List (Str × V)}, chkInit N sc fl i ps = true → fs.length + fl.length ≤ 200 → (∀ f ∈ fl, PySem.W.findIn X.K (.ref C) f = some none) → fl.length = ys.length →
      (∀ (j : Nat) (y : V), ys[j]? = some y → σ[i + j]? = some (some y)) → D.nx σ (initH H0 a C dx ((fl.zip ys).reverse ++ fs)) → ∃ t, PSs X ps t ∧ t D σ (initH H0 a C dx fs)
  | [], i, ps, ys, fs, hc, _, _, hl, _, q => by
    cases chkInit_nil hc
    exact ⟨tNext, pss_nil, q⟩
  | f :: fl, i, ps, ys, fs, hc, hz, hno, hl, hy, q => by
    obtain ⟨s, p0, p1, x, p2, p3, r, rfl, c2, c3, c4⟩ := chkInit_cons hc
    cases ys with
    | nil => cases hl
    | cons y ys =>
      obtain ⟨t, ht, q2⟩ := init_rest hN hsc T hd h0 (i := i + 1) (ys := ys) (fs := (f, y) :: fs) c4 (by simp at hz ⊢; omega) (fun g hg => hno g (List.mem_cons_of_mem _ hg)) (by simpa using hl) (fun j z hj => by
        have := hy (j + 1) z (by simpa using hj)
        rw [show i + (j + 1) = i + 1 + j from by omega] at this
        exact this) (by simpa using q)
      refine ⟨_, pss_cons (ps_ost (pe_at hN hsc c2) (pe_at hN hsc c3)) ht, ?_⟩
      refine ⟨y, by simpa using hy 0 y rfl, .ref a, h0, a, C, rfl, T, hno f List.mem_cons_self, .inr ⟨dx, fs, ?_, ?_, by simp at hz; omega, ?_⟩⟩
      · exact upd_same
      · unfold initH; rw [upd_ne hd, upd_same]
      · rw [initH_step hd]; exact q2
theorem init_ok {P : Program} {w : World} {K : PySem.W.Frag} {mg : Str → Option Value} {base : Heap} {CX : CXT} {k : Nat} {x qual : Str} {params : Arguments} {body : List Stmt} {scope : Scope} {dvs : List V} {kws : List (Str × V)} {f : Addr} {fd : FuncData} {N ps : List Str} {C : Addr} {fl : List Str}
    (F : FunD K x qual params body scope dvs kws f fd) (S : FnScope N ps scope) (hc : chkInit N scope fl 1 body = true) (hp : ps.length = fl.length + 1) (hNl : N.length = ps.length) : FnOk P w K mg base CX (k + 1) f fd ps (spInit K C fl) := by
  refine F.ok S (fun vs H Q E h => ?_) fun cdv A outer s H vs Q E hr h => ?_
  · obtain ⟨a, ys, rfl, hl, _⟩ := h
    rw [List.length_cons, hl, hp]
  · obtain ⟨a, ys, rfl, hl, hne, hz, T, hno, ha, q⟩ := h
    have st : L2.start N (.ref a :: ys) = (V.ref a :: ys).map some := by
      unfold L2.start
      rw [hNl, hp, List.length_cons, hl]
      simp
    rw [st]
    cases fl with
    | nil => exact absurd rfl hne
    | cons g fl =>
      obtain ⟨s', p0, p1, y', p2, p3, r, rfl, c2, c3, c4⟩ := chkInit_cons hc
      cases ys with
      | nil => cases hl
      | cons y ys =>
        have rest : ∀ dx, dx ≠ a → H dx = none → ∃ t, PSs (cxOf CX P w K mg base N qual scope f cdv A outer s H E) r t ∧ t { nx := fun _ H' => Q .non H', rt := Q } ((V.ref a :: y :: ys).map some) (initH H a C dx [(g, y)]) := fun dx hd hn =>
          init_rest (X := cxOf CX P w K mg base N qual scope f cdv A outer s H E) (N := N) (sc := scope) rfl rfl T hd rfl (i := 2) (ys := ys) (fs := [(g, y)]) c4 (by simp at hz ⊢; omega) (fun u hu => hno u (List.mem_cons_of_mem _ hu)) (by simpa using hl.symm) (fun j z hj => by
            rw [List.getElem?_map]
            show ((V.ref a :: y :: ys)[2 + j]?).map some = _
            rw [show 2 + j = j + 1 + 1 from by omega, List.getElem?_cons_succ, List.getElem?_cons_succ, hj]; rfl) (by
            have := q dx hn hd
            simpa using this)
        -- the reading chooses the dict; the rows behind are the same for each
        refine ⟨fun D σ H' => tOst K g (tVar 0) (tVar 1) { D with nx := fun σ1 H1 => ∃ t, PSs (cxOf CX P w K mg base N qual scope f cdv A outer s H E) r t ∧ t D σ1 H1 } σ H', ?_, ?_⟩
        · refine ⟨fun pins s0 σ H' D I h => ?_⟩
          have P1 := ps_ost (X := cxOf CX P w K mg base N qual scope f cdv A outer s H E) (f := g) (p' := p1) (pos := p3) (pe_at (X := cxOf CX P w K mg base N qual scope f cdv A outer s H E) (pos := p0) rfl rfl c2) (pe_at (X := cxOf CX P w K mg base N qual scope f cdv A outer s H E) (pos := p2) rfl rfl c3)
          refine wpAny_execs_cons (thn (P1.run pins s0 σ H' _ I h) fun fl s1 q1 => ?_)
          cases fl with
          | next =>
            obtain ⟨σ', H1, I1, t, ht, q1⟩ := q1
            exact ht.run pins s1 σ' H1 D I1 q1
          | ret v => exact q1
          | brk => exact q1
          | cont => exact q1
        · refine ⟨y, rfl, .ref a, rfl, a, C, rfl, T, hno g List.mem_cons_self, .inl ⟨ha, fun dx hn hd => ?_⟩⟩
          exact rest dx hd hn
end Rf

namespace Rf
open PySem PySem.Spec PyProof.Rows L2
section
variable {G : Gx} {T : Tx} {N : List Str} {C : Call} {lv : Nat} {Wx : WX} {sc : Scope} {X : Cx}
theorem exc_heap {H1 : Hp} {a C dx : Addr} {fs : List (Str × V)} (ha : H1 a = none) (hd : dx ≠ a) : upd (del (initH (upd H1 a (exo a C none)) a C dx fs) a) dx (.xd fs) = upd H1 dx (.xd fs) := by
  funext b
  by_cases h1 : b = dx
  · subst h1; rw [upd_same, upd_same]
  · rw [upd_ne h1, upd_ne h1]
    by_cases h2 : b = a
    · subst h2; rw [del_same, ha]
    · rw [del_ne h2]
      unfold initH
      rw [upd_ne h2, upd_ne h1, upd_ne h2]
theorem st_raise (o : Xok G T N C lv Wx sc X) (hh : T.hot = false) (hlv : 2 ≤ lv) {c : Nat} {x : Str} {fl : List Str} {es : List E} {p : Expr} {ps : List Expr} {p0 pos pos2 : Pos} (h1 : glB sc x = true) (h2 : T.cls c = some (x, fl)) (hl : es.length = fl.length) (hne : es ≠ [])
    (h : PA X (p :: ps) (rdEs G C Wx es)) (ns : ∀ q ∈ p :: ps, noStar q = true) : PS X (.Raise (some (.Call (.Name x p0) (p :: ps) [] pos)) none pos2) (rdS G Wx fun base ρ st => evS C base (.raise c es) ρ st) := by
  obtain ⟨g, hd⟩ := glB_ok o h1
  obtain ⟨cf, ⟨_, k⟩ | ⟨e0, _⟩⟩ := o.g.cl c x fl h2
  rotate_left
  · rw [e0] at hl; exact absurd (List.eq_nil_of_length_eq_zero hl) hne
  subst cf
  obtain ⟨fI, fd, qs, i1, i2, i3, _, _, F⟩ := k.ini
  have T0 := k.T
  have no := k.no
  rw [← o.prog, ← o.w, ← o.K, ← o.mg, ← o.base] at F
  rw [← o.K] at i1 i2 i3 T0 no
  have P0 := pmkN_oex (p := p0) (pos := pos) T0 i1 i2 F ((o.room hh).mono (by omega)) i3 (L2N.passes_call o.tk fun _ _ _ _ z => z.elim) g (by rw [o.mg]; exact k.mg) h hd (star_cons (ns p List.mem_cons_self)) (star_any fun q hq => ns q (List.mem_cons_of_mem _ hq))
  refine PS.weak (L2N.ps_raise (o.calm hh) o.tk P0) fun D σ H ⟨W, bd, base, ρ, st, r, en, q⟩ => ?_
  have q' : AnsS G bd base Wx W H st (match evEs C base es ρ st with
    | .ok ds st => if plains ds then .exc (.exc c ds) ρ st else .bad
    | .exc d st => .exc d ρ st
    | .bad => .bad) D := q
  refine ⟨W, bd, base, ρ, st, r, en, ?_⟩
  dsimp only
  cases e : evEs C base es ρ st with
  | bad => rw [e] at q'; exact q'
  | exc d st' =>
    rw [e] at q'
    exact fun cls dd W' H' p x => q' σ cls dd W' H' p (en.post p r) x
  | ok ds st' =>
    rw [e] at q'
    have q2 : AnsS G bd base Wx W H st (if plains ds then .exc (.exc c ds) ρ st' else .bad) D := q'
    intro vs W1 H1 p1 dv
    split at q2
    rotate_left
    · exact q2.elim
    rename_i hp
    have hlen : vs.length = (G.cf c).length := by rw [dv.len, evEs_len e, hl]
    refine ⟨by rw [hlen]; have := k.le; omega, fun a ha => ?_⟩
    rw [List.append_nil]
    refine ⟨a, vs, rfl, hlen, k.ne, k.le, T0, no, upd_same, fun dx hn hda => ?_⟩
    have hn' : H1 dx = none := by rw [upd_ne hda] at hn; exact hn
    refine ⟨rfl, dx, ((G.cf c).zip vs).reverse, upd_same, by unfold initH; rw [upd_ne hda, upd_same], hn', ?_⟩
    rw [exc_heap ha hda]
    obtain ⟨ex, rs⟩ := alloc_frz p1.rs hn' (.xd ((G.cf c).zip vs).reverse)
    have pf := p1.trans ⟨ex, rs⟩
    exact q2 σ _ _ _ _ pf (en.post pf r) ⟨rfl, vs, .inr ⟨dx, rfl, upd_same, .inr rfl, hlen⟩, DVs.plain hp (DVs.keep ex p1.rs (Nat.le_refl _) (Nat.le_refl _) dv)⟩
/-- raise C() -/
theorem st_raise0 (o : Xok G T N C lv Wx sc X) (hh : T.hot = false) {c : Nat} {x : Str} {p0 pos pos2 : Pos} (h1 : glB sc x = true) (h2 : T.cls c = some (x, [])) : PS X (.Raise (some (.Call (.Name x p0) [] [] pos)) none pos2) (rdS G Wx fun base ρ st => evS C base (.raise c []) ρ st) := by
  obtain ⟨g, hd⟩ := glB_ok o h1
  obtain ⟨cf, ⟨e0, _⟩ | ⟨_, k⟩⟩ := o.g.cl c x [] h2
  · exact absurd rfl e0
  have Z := k.Z
  rw [← o.K] at Z
  refine PS.weak (L2N.ps_raise (o.calm hh) o.tk (pmk_oex0 Z g (by rw [o.mg]; exact k.mg) hd)) fun D σ H ⟨W, bd, base, ρ, st, r, en, q⟩ => ?_
  have q' : AnsS G bd base Wx W H st (.exc (.exc c []) ρ st) D := q
  exact q' σ _ _ W H (Post.refl r) en ⟨rfl, [], .inl ⟨cf, rfl, rfl⟩, rfl⟩
end
end Rf

/-! try: clauses with and without a name, one behind another. -/
namespace Rf
open PySem PySem.Spec PyProof.Rows L2
/-- a clause: its class, the slot of its name, what its suite does -/
structure Clause where
  cls : Value
  slot : Option Nat
  does : Addr → Value → Option Addr → TS
/-- behind the suite the name is gone -/
def Ends.gone (D : Ends) (i : Nat) : Ends := { nx := fun σ H => D.nx (σ.set i none) H, rt := D.rt, bk := fun σ H => D.bk (σ.set i none) H, ct := fun σ H => D.ct (σ.set i none) H }
def Clause.runs (q : Clause) (D : Ends) (a : Addr) (cls : Value) (d : Option Addr) (σ : L2.St) (H : Hp) : Prop := match q.slot with
  | none => q.does a cls d D σ H
  | some i => q.does a cls d (Ends.gone D i) (σ.set i (some (.ref a))) H
/-- what the clauses wish of an exception of the body -/
def wTry (K : PySem.W.Frag) (Wout : WX) (D : Ends) : List Clause → WX
  | [] => Wout
  | q :: r => fun cls d σ H => ∃ b, PySem.W.exmOne K cls q.cls = some b ∧ (b = true → ∀ a, H a = none → q.runs D a cls d σ H) ∧ (b = false → wTry K Wout D r cls d σ H)
/-- a suite's text does what is said of it -/
def SuiteOk (X : Cx) (body : List Stmt) (ts : Addr → Value → Option Addr → TS) : Prop :=
  ∀ (a : Addr) (oe : Obj) (cls : Value) (d : Option Addr) (pn : List (Addr × Obj)), L2N.Zn cls d oe → (∃ vs, oe.data = .fields vs) → PSs (X.suite a ((a, oe) :: pn)) body (ts a cls d)
inductive ClausesOk (X : Cx) : List ExceptHandler → List Clause → Prop
  | none : ClausesOk X [] []
  | bare {x : Str} {q : Clause} {b : Stmt} {body : List Stmt} {p1 p2 : Pos} {hs : List ExceptHandler} {l : List Clause} (hc : Names X x q.cls) (hq : q.slot = Option.none) (hb : SuiteOk X (b :: body) q.does) (r : ClausesOk X hs l) : ClausesOk X (.ExceptHandler (some (.Name x p1)) Option.none (b :: body) p2 :: hs) (q :: l)
  | named {x y : Str} {i : Nat} {q : Clause} {b : Stmt} {body : List Stmt} {p1 p2 : Pos} {hs : List ExceptHandler} {l : List Clause} (hc : Names X x q.cls) (hq : q.slot = some i) (hi : X.N[i]? = some y) (hy : X.env.kindOf y = some .local) (hb : SuiteOk X (b :: body) q.does) (r : ClausesOk X hs l) :
      ClausesOk X (.ExceptHandler (some (.Name x p1)) (some y) (b :: body) p2 :: hs) (q :: l)
section
variable {X : Cx} {pins : List (Addr × Obj)} {D : Ends} {Wout : WX}
/-- an exception that has landed in this frame; sI: the state without it -/
structure Down (X : Cx) (pins : List (Addr × Obj)) (B : Heap) (a : Addr) (cls : Value) (d : Option Addr) (σ : L2.St) (H : Hp) (sI s : Shared) : Prop where
  stk : X.stack = X.env :: X.outer
  frm : X.env.frame = some X.env.locals
  inv : Inv X pins σ H sI
  nb : ∀ b o, sI.heap.get? b = some o → b ∉ frs X.stack → B.get? b = some o
  up : sI.heap.UpToSlots s.heap
  fl : HandSPX.FlyingZ B (X.env :: X.outer) a (L2N.Zn cls d) s.heap
  na : H a = none
  os : s.os = sI.os
  bare : AllBare s.gens
theorem frames_apart {a : Addr} {B : Heap} {o : Obj} {vs : Array Value} {h : Heap} {l : List Env} (ff : h.FunFrames B l) (e : h.get? a = some o) (dd : o.data = .fields vs) : a ∉ frs l := fun hm => by
  obtain ⟨_, u, eu, nf⟩ := ff.mem hm
  exact nf vs (Option.some.inj (e.symm.trans eu) ▸ dd)
section
variable {B : Heap} {a : Addr} {cls : Value} {d : Option Addr} {σ : L2.St} {H : Hp} {sI s : Shared}
theorem Down.here (w : Down X pins B a cls d σ H sI s) : Inv X pins σ H s := w.inv.landed w.nb w.fl.1 w.up w.os w.bare
/-- the suite's view -/
theorem Down.view (w : Down X pins B a cls d σ H sI s) : ∃ oe : Obj, s.heap.get? a = some oe ∧ L2N.Zn cls d oe ∧ (∃ vs, oe.data = .fields vs) ∧ Inv (X.suite a ((a, oe) :: (X.pn ++ pins))) [] σ H s := by
  obtain ⟨oe, vs, h1, h2, h3⟩ := w.fl.there
  have out := frames_apart w.fl.2.2.1 h1 h3
  refine ⟨oe, h1, h2, ⟨vs, h3⟩, w.here.suite h1 h3 w.na (fun z => out ?_) fun z => out ?_⟩
  · exact List.mem_filterMap.mpr ⟨X.env, List.mem_cons_self, by rw [w.frm, z]⟩
  · obtain ⟨e, he, q⟩ := List.mem_filterMap.mp z
    exact List.mem_filterMap.mpr ⟨e, List.mem_cons_of_mem _ he, q⟩
/-- once more on the ground -/
theorem Down.again {Q : Unit → Shared → Prop} {E : Value → Shared → Prop} {A : Around} (w : Down X pins B a cls d σ H sI s) (q : ∀ s2, Down X pins B a cls d σ H sI s2 → Q () s2) : wpAny (model X.prog X.w) A (setFlight (.ref a) none) Q E s :=
  HandSPX.lands_againZ w.fl fun h2 fl2 up2 => q _ ⟨w.stk, w.frm, w.inv, w.nb, w.up.trans up2, fl2, w.na, w.os, w.bare⟩
/-- no clause takes it: it goes on -/
theorem Down.on {L : Flow → Shared → Prop} (w : Down X pins B a cls d σ H sI s) (tk : L2N.Takes X Wout) (q : Wout cls d σ H) : wpAny (model X.prog X.w) X.A (handleBy (.ref a) X.env []) L X.xe s := by
  refine wpAny_handleBy_nil ?_
  obtain ⟨_, _, _, oe, vs, fr, _, _, p1, _, p3, p4, _⟩ := id w.fl
  have out : wpAny (model X.prog X.w) X.A (setFlight (.ref a) X.env.frame) (fun _ s2 => wpAny (model X.prog X.w) X.A (throw (.ref a) : Sem Flow) L X.xe s2) X.xe s := by
    rw [w.frm]
    refine HandSPX.setFlight_upZ w.fl fun h2 held up2 => wpAny_throw (tk _ _ ⟨a, B, sI, pins, σ, H, cls, d, rfl, w.inv, w.nb, w.up.trans up2, .inr (.inr ?_), w.na, w.os, w.bare, q⟩)
    rw [w.stk]; exact held
  unfold PySem.passOn
  refine wpAny_bind (wpAny_field p1 p3 p4 ?_)
  have ne : ¬ ((Value.ref fr == Value.none) = true) := by simp
  rw [if_neg ne]
  first
    | exact wpAny_bind (wpAny_pure (wpAny_bind out))
    | exact wpAny_bind out
/-- the clause's class is looked up -/
theorem Down.class {q : Clause} {x : Str} {np : Pos} {Q : Value → Shared → Prop} {E : Value → Shared → Prop} (w : Down X pins B a cls d σ H sI s) (hc : Names X x q.cls) (h : Q q.cls s) : wpAny (model X.prog X.w) (X.A.mark (some (.ref a))) (eval (.Name x np) X.env) Q E s := by
  obtain ⟨oe, _, _, _, J⟩ := w.view
  obtain ⟨hg, hd, hm | ⟨hm, hv, hn⟩⟩ := hc
  · exact ld_glob (X := X.suite a ((a, oe) :: (X.pn ++ pins))) J hg hm h hd
  · exact ld_blt (X := X.suite a ((a, oe) :: (X.pn ++ pins))) J hg hm hv h hn hd
theorem Down.match_ {c : Value} {b : Bool} (w : Down X pins B a cls d σ H sI s) (e : PySem.W.exmOne X.K cls c = some b) : PySem.W.Looks (model X.prog X.w) s.heap (excMatches (.ref a) c) b := by
  obtain ⟨oe, h1, h2, _, _⟩ := w.view
  exact PySem.W.exm_one w.here.kIn (fun A Q E s k q => wpAny_typeOf_ref (k _ _ h1) (by rw [h2.1]; exact q)) e
theorem clauses_run {pins' : List (Addr × Obj)} (tk : L2N.Takes X Wout) (hN : X.N.Nodup) : ∀ {hs : List ExceptHandler} {l : List Clause}, ClausesOk X hs l → Down X pins B a cls d σ H sI s → wTry X.K Wout D l cls d σ H →
    wpAny (model X.prog X.w) X.A (handleBy (.ref a) X.env hs) (SP X pins D) X.xe s := by
  intro hs l hk w
  induction hk with
  | none => exact fun q => w.on tk q
  | @bare x q b body p1 p2 hs l hc hq hb r ih =>
    rintro ⟨k, e1, yes, no⟩
    refine wpAny_handleBy_cons (codeAny_handlers_test (w.class hc ((w.match_ e1).here ?_))) (by intro z; cases z)
    cases k with
    | false => exact ih (no rfl)
    | true =>
      refine codeAny_handlers_suite (w.again fun s2 w2 => ?_)
      obtain ⟨oe, h1, h2, h3, J⟩ := w2.view
      have go := yes rfl a w.na
      unfold Clause.runs at go
      rw [hq] at go
      refine wpAny_mono ((hb a oe cls d (X.pn ++ pins) h2 h3).run [] s2 σ H D J go) (fun f s3 z => ?_) (fun _ _ z => z.elim)
      cases f with
      | next => obtain ⟨σ3, H3, J3, z⟩ := z; exact ⟨σ3, H3, J3.unsuite w.inv.ok, z⟩
      | brk => obtain ⟨σ3, H3, J3, z⟩ := z; exact ⟨σ3, H3, J3.unsuite w.inv.ok, z⟩
      | cont => obtain ⟨σ3, H3, J3, z⟩ := z; exact ⟨σ3, H3, J3.unsuite w.inv.ok, z⟩
      | ret u => obtain ⟨v, σ3, H3, J3, rv, z⟩ := z; exact ⟨v, σ3, H3, J3.unsuite w.inv.ok, rv, z⟩
  | @named x y i q b body p1 p2 hs l hc hq hi hy hb r ih =>
    rintro ⟨k, e1, yes, no⟩
    refine wpAny_handleBy_cons (codeAny_handlers_test (w.class hc ((w.match_ e1).here ?_))) (by intro z; cases z)
    cases k with
    | false => exact ih (no rfl)
    | true =>
      refine codeAny_handlers_suite_as (w.again fun s2 w2 => ?_)
      obtain ⟨oe, h1, h2, h3, J⟩ := w2.view
      have go := yes rfl a w.na
      unfold Clause.runs at go
      rw [hq] at go
      refine store_ok (X := X.suite a ((a, oe) :: (X.pn ++ pins))) (v := .ref a) J hN hi (.inl hy) rfl (fun s3 J3 => ?_) (.inr hy)
      have off : ∀ {σ4 : L2.St} {H4 : Hp} {s4 : Shared} {Q : Shared → Prop}, Inv (X.suite a ((a, oe) :: (X.pn ++ pins))) [] σ4 H4 s4 → (∀ s5, Inv X pins (σ4.set i none) H4 s5 → Q s5) → wpAny (model X.prog X.w) X.A (do bindName X.env y .none; unbindBehindTheSuite X.env y p2) (fun _ s5 => Q s5) X.xe s4 :=
        fun J4 hQ => gone_ok (J4.unsuite w.inv.ok) hN hi hy hQ
      refine wpAny_mono ((hb a oe cls d (X.pn ++ pins) h2 h3).run [] s3 _ H (Ends.gone D i) J3 go) (fun f s4 z => ?_) (fun _ _ z => z.elim)
      cases f with
      | next => obtain ⟨σ4, H4, J4, z⟩ := z; exact off J4 fun s5 J5 => ⟨_, _, J5, z⟩
      | brk => obtain ⟨σ4, H4, J4, z⟩ := z; exact off J4 fun s5 J5 => ⟨_, _, J5, z⟩
      | cont => obtain ⟨σ4, H4, J4, z⟩ := z; exact off J4 fun s5 J5 => ⟨_, _, J5, z⟩
      | ret u => obtain ⟨v, σ4, H4, J4, rv, z⟩ := z; exact off J4 fun s5 J5 => ⟨_, _, _, J5, rv, z⟩
end
/-- the statement -/
theorem ps_try {body : List Stmt} {h : ExceptHandler} {hs : List ExceptHandler} {l : List Clause} {pos : Pos} {tb : WX → TS} (stk : X.stack = X.env :: X.outer) (frm : X.env.frame = some X.env.locals) (hN : X.N.Nodup) (tk : L2N.Takes X Wout)
    (hb : ∀ (W : WX) (pn : List (Addr × Obj)) (xe : Value → Shared → Prop), L2N.Takes (X.tr pn xe) W → PassesOwn (model X.prog X.w) X.A X.env xe → PSs (X.tr pn xe) body (tb W)) (hc : ClausesOk X (h :: hs) l) :
    PS X (.Try body (h :: hs) [] [] pos) (fun D σ H => tb (wTry X.K Wout D l) D σ H) := by
  refine ⟨fun pins s σ H D I q => wpAny_Try_except ?_⟩
  have fr : X.A.frames = some (X.env :: X.outer) := by rw [I.ok.frames, stk]
  have caught := hb (wTry X.K Wout D l) (X.pn ++ pins) (fun e s₁ => wpAny (model X.prog X.w) X.A (noteFrame e X.env) (fun _ s₂ => wpAny (model X.prog X.w) X.A (setFlight e none) (fun _ s₃ => wpAny (model X.prog X.w) X.A (handleBy e X.env (h :: hs)) (SP X pins D) X.xe s₃) X.xe s₂) X.xe s₁)
    (fun u s1 air => by
      obtain ⟨a, B, sI, pins', σ', H', cls, d, rfl, J, nb, up, sky, na, os, ag, w⟩ := air
      have sky' : Sky B (X.env :: X.outer) a (L2N.Zn cls d) X.env.locals s1.heap := by rw [← stk]; exact sky
      exact L2N.Sky.land L2N.Zn.steady fr frm sky' fun h2 fl2 up2 => clauses_run (pins' := pins') tk hN hc ⟨stk, frm, J.ofTry I.ok, nb, up.trans up2, fl2, na, os, ag⟩ w) PassesOwn.looking
  refine wpAny_mono (caught.run [] s σ H D (I.toTry _) q) (fun f s1 z => ?_) (fun e s1 z => z)
  cases f with
  | next => obtain ⟨σ1, H1, J, z⟩ := z; exact wpAny_execs_nil ⟨σ1, H1, J.ofTry I.ok, z⟩
  | brk => obtain ⟨σ1, H1, J, z⟩ := z; exact ⟨σ1, H1, J.ofTry I.ok, z⟩
  | cont => obtain ⟨σ1, H1, J, z⟩ := z; exact ⟨σ1, H1, J.ofTry I.ok, z⟩
  | ret u => obtain ⟨v, σ1, H1, J, rv, z⟩ := z; exact ⟨v, σ1, H1, J.ofTry I.ok, rv, z⟩
end
end Rf

namespace Rf
open PySem PySem.Spec PyProof.Rows L2
/-! ### another base -/
structure SameG (G G' : Gx) : Prop where
  K : G'.K = G.K
  fa : G'.fa = G.fa
  ca : G'.ca = G.ca
  fn : G'.fn = G.fn
  ps : G'.ps = G.ps
  cf : G'.cf = G.cf
theorem SameG.symm {G G' : Gx} (s : SameG G G') : SameG G' G := ⟨s.K.symm, s.fa.symm, s.ca.symm, s.fn.symm, s.ps.symm, s.cf.symm⟩
section
variable {G G' : Gx} {W : Wd} {n : Nat} {H : Hp}
mutual
theorem DV.gx (s : SameG G G') : ∀ {d : D} {v : V}, DV G W n H d v → DV G' W n H d v
  | .non, _, h => h
  | .bl _, _, h => h
  | .int _, _, h => h
  | .str _, _, h => h
  | .tup ds, v, h => by
    obtain ⟨a, xs, e1, hs, hd⟩ := h
    exact ⟨a, xs, e1, by rw [s.K]; exact hs, DVs.gx s hd⟩
  | .lst ds, v, h => by
    obtain ⟨a, xs, e1, f, hH, hd⟩ := h
    exact ⟨a, xs, e1, f, hH, DVs.gx s hd⟩
  | .frz ds, v, h => by
    obtain ⟨a, xs, e1, hs, hd⟩ := h
    exact ⟨a, xs, e1, by rw [s.K]; exact hs, DVs.gx s hd⟩
  | .dct ks vs, v, h => by
    obtain ⟨a, kvs, e1, f, hR, hk, hd⟩ := h
    exact ⟨a, kvs, e1, f, hR, hk, DVs.gx s hd⟩
  | .ref k, v, h => h
  | .fn f, v, h => by show v = _; rw [s.fa]; exact h
  | .met k f, v, h => by
    obtain ⟨p, e1, hH, hk, f⟩ := h
    exact ⟨p, e1, by rw [s.fa]; exact hH, hk, f⟩
  | .exc _ _, _, h => h.elim
  | .exv c ds, v, h => by
    obtain ⟨vs, h1, h2⟩ := h
    exact ⟨vs, by unfold ExvR; rw [s.cf, s.ca]; exact h1, DVs.gx s h2⟩
theorem DVs.gx (s : SameG G G') : ∀ {ds : List D} {xs : List V}, DVs G W n H ds xs → DVs G' W n H ds xs
  | [], _, h => h
  | d :: ds, xs, h => by
    obtain ⟨y, ys, e1, h1, h2⟩ := h
    exact ⟨y, ys, e1, DV.gx s h1, DVs.gx s h2⟩
end
theorem obR.gx (s : SameG G G') {k : Nat} {ob : Ob} (h : obR G W H n k ob) : obR G' W H n k ob := by
  cases ob with
  | lst ds => obtain ⟨xs, h1, h2⟩ := h; exact ⟨xs, h1, DVs.gx s h2⟩
  | dct ks vs => obtain ⟨xs, h1, h2, h3⟩ := h; exact ⟨xs, h1, h2, DVs.gx s h3⟩
  | ins c fs => obtain ⟨dx, gs, h1, h2, h3⟩ := h; exact ⟨dx, gs, by rw [s.ca]; exact h1, by rw [s.fn]; exact h2, DVs.gx s h3⟩
  | dead => trivial
theorem RS.gx (s : SameG G G') {bd : Nat → Nat} {base : Nat} {st : Sto} (r : RS G bd base W H st) : RS G' bd base W H st := ⟨fun k ob e => obR.gx s (r.obj k ob e), r.inj, r.fF, r.fH, r.bdl, r.bl⟩
theorem ExcR.gx (s : SameG G G') {d : D} {cls : Value} {dd : Option Addr} (h : ExcR G W H d cls dd) : ExcR G' W H d cls dd := by
  cases d with
  | exc c ds =>
    obtain ⟨h1, vs, e1, e2⟩ := h
    exact ⟨by rw [s.ca]; exact h1, vs, by unfold XdR; rw [s.cf]; exact e1, DVs.gx s e2⟩
  | _ => exact h
theorem DVx.gx (s : SameG G G') (hp : ∀ q ∈ G.pn, q ∈ G'.pn) {d : D} {v : V} (h : DVx G W n H d v) : DVx G' W n H d v := by
  cases d with
  | exc c ds =>
    obtain ⟨q, hq, e1, e2, vs, e3, e6⟩ := h
    exact ⟨q, hp q hq, e1, e2, vs, by unfold XdR; rw [s.cf]; exact e3, DVs.gx s e6⟩
  | _ => exact DV.gx s h
theorem EnR.gx (s : SameG G G') (hp : ∀ q ∈ G.pn, q ∈ G'.pn) {ρ : En} {σ : L2.St} (h : EnR G W n H ρ σ) : EnR G' W n H ρ σ := ⟨h.1, fun i d e => let ⟨v, e1, e2⟩ := h.2 i d e; ⟨v, e1, DVx.gx s hp e2⟩⟩
theorem noX_at {ρ : En} (h : noX ρ = true) {i : Nat} {d : D} (e : ρ[i]? = some (some d)) : isExc d = false := by
  have := List.all_eq_true.mp h _ (List.mem_of_getElem? e)
  simpa using this
theorem EnR.gx0 (s : SameG G G') {ρ : En} {σ : L2.St} (hn : noX ρ = true) (h : EnR G W n H ρ σ) : EnR G' W n H ρ σ := ⟨h.1, fun i d e => let ⟨v, e1, e2⟩ := h.2 i d e; ⟨v, e1, .of (DV.gx s (e2.dv (noX_at hn e)))⟩⟩
theorem Post.gx (s : SameG G G') {bd : Nat → Nat} {base : Nat} {W' : Wd} {H' : Hp} {st st' : Sto} (p : Post G bd base W H st W' H' st') : Post G' bd base W H st W' H' st' := ⟨p.ext, RS.gx s p.rs⟩
end
end Rf

/-! try in the evaluator -/
namespace Rf
open PySem PySem.Spec PyProof.Rows L2
theorem sameX (G : Gx) (q : Xp) : SameG G (G.withX q) := ⟨rfl, rfl, rfl, rfl, rfl, rfl⟩
section
variable {G : Gx} {T : Tx} {N : List Str} {C : Call} {lv : Nat} {Wx : WX} {sc : Scope} {X : Cx}
theorem Gok.hot (g : Gok G T) (q : Xp) : Gok (G.withX q) { T with hot := true } :=
  ⟨g.fn, g.keep, g.binds, g.bi, g.kb, fun c x fl e => let ⟨h, k⟩ := g.cl c x fl e; ⟨h, k.elim (fun k => .inl ⟨k.1, ⟨k.2.mg, k.2.T, k.2.no, k.2.ne, k.2.le, k.2.xf, k.2.ini⟩⟩) fun k => .inr ⟨k.1, ⟨k.2.mg, k.2.Z⟩⟩⟩, g.kt, g.cn, g.exm, fun p hp W n H => let ⟨u, v, e1, e2, e3⟩ := g.cst p hp W n H; ⟨u, v, e1, e2, DV.gx (sameX G q) e3⟩⟩
/-- the suite's context -/
theorem Xok.suite (o : Xok G T N C lv Wx sc X) (hh : T.hot = false) {a : Addr} {oe : Obj} {c : Nat} {dd : Option Addr} {pn : List (Addr × Obj)} (hz : L2N.Zn (.ref (G.ca c)) dd oe) (hf : ∃ vs, oe.data = .fields vs) :
    Xok (G.withX ((a, oe), c, dd)) { T with hot := true } N C lv wx0 sc (X.suite a ((a, oe) :: pn)) where
  prog := o.prog
  w := o.w
  K := o.K
  mg := o.mg
  base := o.base
  calm := fun h => by cases h
  room := fun h => by cases h
  un := o.un
  hN := o.hN
  nd := o.nd
  hsc := o.hsc
  tk := takesN
  g := o.g.hot _
  calls := fun h => by cases h
  ar := o.ar
  l2 := o.l2
  kp := o.kp
  pn0 := fun h => by cases h
  pn := fun q hq => by
    have e : q = ((a, oe), c, dd) := by simpa [Gx.withX] using hq
    subst e
    exact ⟨List.mem_cons_self, hz.zc, hf⟩
  hots := fun q f hf => ⟨(o.hots q f hf).run⟩
  heat := fun _ => by
    obtain ⟨vs, hv⟩ := hf
    exact ⟨((a, oe), c, dd), rfl, ⟨rfl, vs, hv, hz.2.2 vs hv⟩, ⟨(o.room hh).dp, (o.room hh).un⟩⟩
theorem Xs.suite (xs : Xs X) {a : Addr} {pn : List (Addr × Obj)} : Xs (X.suite a pn) := ⟨PassesOwn.never, xs.fn, xs.kind, xs.stk, xs.frm⟩
theorem Xs.body (xs : Xs X) {pn : List (Addr × Obj)} {xe : Value → Shared → Prop} (h : PassesOwn (model X.prog X.w) X.A X.env xe) : Xs (X.tr pn xe) := ⟨h, xs.fn, xs.kind, xs.stk, xs.frm⟩
theorem Xok.body (o : Xok G T N C lv Wx sc X) (hh : T.hot = false) {W : WX} {pn : List (Addr × Obj)} {xe : Value → Shared → Prop} (tk : L2N.Takes (X.tr pn xe) W) : Xok G T N C lv W sc (X.tr pn xe) where
  prog := o.prog
  w := o.w
  K := o.K
  mg := o.mg
  base := o.base
  calm := o.calm
  room := o.room
  un := o.un
  hN := o.hN
  nd := o.nd
  hsc := o.hsc
  tk := tk
  g := o.g
  calls := o.calls
  ar := o.ar
  l2 := o.l2
  kp := o.kp
  pn0 := o.pn0
  pn := fun q hq => by rw [o.pn0 hh] at hq; cases hq
  hots := o.hots
  heat := fun h => by rw [hh] at h; cases h
theorem chkH_ife {i : Option Nat} {c : E} {a b : List S} {p : Stmt} (h : chkH T N i sc (.ife c a b) p = true) : ∃ pc pa pb pos, p = .If pc pa pb pos ∧ chkE T N sc c pc = true ∧ chkHs T N i sc a pa = true ∧ chkHs T N i sc b pb = true := by
  unfold chkH at h
  split at h <;> first | contradiction | skip
  rename_i z; cases z
  obtain ⟨h1, h⟩ := and2 h
  obtain ⟨h2, h3⟩ := and2 h
  exact ⟨_, _, _, _, rfl, h1, h2, h3⟩
mutual
theorem simH {i : Option Nat} : (s : S) → {p : Stmt} → Xok G T N C lv Wx sc X → Xs X → chkH T N i sc s p = true → PS X p (rdS G Wx fun base ρ st => evS C base s ρ st)
  | .ret e, p, o, xs, h => by
    unfold chkH at h
    split at h <;> first | contradiction | skip
    rename_i z; cases z
    exact st_ret (simE _ o h).pe
  | .asg t e, p, o, xs, h => by
    unfold chkH at h
    split at h <;> first | contradiction | skip
    rename_i z; cases z
    obtain ⟨h1, h⟩ := and2 h
    obtain ⟨h2, h⟩ := and2 h
    obtain ⟨h3, h4⟩ := and2 h
    exact st_set o xs h1 (simE _ o h3).pe (swF_ok xs.kind o.hsc h4)
  | .ife c a b, p, o, xs, h => by
    obtain ⟨pc, pa, pb, pos, rfl, h1, h2, h3⟩ := chkH_ife h
    exact st_ife (simE c o h1).pt (simHs a o xs h2) (simHs b o xs h3)
  | .pass, p, o, xs, h => by
    unfold chkH at h
    split at h <;> first | contradiction | skip
    exact st_pass
  | .par _ _, p, o, xs, h => by unfold chkH at h; contradiction
  | .expr _, p, o, xs, h => by unfold chkH at h; contradiction
  | .retN, p, o, xs, h => by unfold chkH at h; contradiction
  | .forS _ _ _, p, o, xs, h => by unfold chkH at h; contradiction
  | .forK _ _ _, p, o, xs, h => by unfold chkH at h; contradiction
  | .whl _ _, p, o, xs, h => by unfold chkH at h; contradiction
  | .brk, p, o, xs, h => by unfold chkH at h; contradiction
  | .cnt, p, o, xs, h => by unfold chkH at h; contradiction
  | .raise _ _, p, o, xs, h => by unfold chkH at h; contradiction
  | .tryS _ _, p, o, xs, h => by unfold chkH at h; contradiction
  | .del _ _, p, o, xs, h => by unfold chkH at h; contradiction
  | .freeze _, p, o, xs, h => by unfold chkH at h; contradiction
  | .freezeK _ _, p, o, xs, h => by unfold chkH at h; contradiction
  | .never, p, o, xs, h => by unfold chkH at h; contradiction
theorem simHs {i : Option Nat} : (ss : List S) → {ps : List Stmt} → Xok G T N C lv Wx sc X → Xs X → chkHs T N i sc ss ps = true → PSs X ps (rdS G Wx fun base ρ st => evSs C base ss ρ st)
  | [], [], _, _, _ => st_nil
  | [], _ :: _, _, _, h => by unfold chkHs at h; contradiction
  | _ :: _, [], _, _, h => by unfold chkHs at h; contradiction
  | s :: ss, p :: ps, o, xs, h => by
    unfold chkHs at h
    obtain ⟨h1, h2⟩ := and2 h
    exact st_cons (simH s o xs h1) (simHs ss o xs h2)
end
/-- the clauses that the evaluator's handlers are -/
def clauses (G : Gx) (C : Call) : List Hd → List Clause
  | [] => []
  | .mk h _ _ i b :: hs => ⟨.ref (G.ca h), i, fun a cls d D σ H => ∀ oe, L2N.Zn cls d oe → (∃ vs, oe.data = .fields vs) → ∃ c, cls = .ref (G.ca c) ∧ rdS (G.withX ((a, oe), c, d)) wx0 (fun base ρ st => evSs C base b ρ st) D σ H⟩ :: clauses G C hs
theorem exmB_ok {h : Nat} {cs ns : List Nat} (g : Gok G T) (e : exmB T h cs ns = true) : (∀ c ∈ cs, PySem.W.exmOne G.K (.ref (G.ca c)) (.ref (G.ca h)) = some true) ∧ ∀ c ∈ ns, PySem.W.exmOne G.K (.ref (G.ca c)) (.ref (G.ca h)) = some false := by
  obtain ⟨e1, e2⟩ := and2 e
  constructor
  · intro c hc
    obtain ⟨p, hp, e⟩ := List.any_eq_true.mp (List.all_eq_true.mp e1 c hc)
    have := g.exm p hp
    rw [of_decide_eq_true e] at this
    exact this
  · intro c hc
    obtain ⟨p, hp, e⟩ := List.any_eq_true.mp (List.all_eq_true.mp e2 c hc)
    have := g.exm p hp
    rw [of_decide_eq_true e] at this
    exact this
theorem clauses_ok (o : Xok G T N C lv Wx sc X) (hh : T.hot = false) (xs : Xs X) : ∀ {hs : List Hd} {ps : List ExceptHandler}, chkHd T N sc hs ps = true → ClausesOk X ps (clauses G C hs)
  | [], [], _ => .none
  | [], _ :: _, h => by cases h
  | .mk h cs ns i b :: hs, ps, ck => by
    unfold chkHd at ck
    split at ck <;> first | contradiction | skip
    rename_i hq
    cases hq
    rename_i x p1 on pb p2 ps
    obtain ⟨g1, ck⟩ := and2 ck
    obtain ⟨g2, ck⟩ := and2 ck
    obtain ⟨g3, ck⟩ := and2 ck
    obtain ⟨g4, ck⟩ := and2 ck
    obtain ⟨g5, ck⟩ := and2 ck
    obtain ⟨g6, g7⟩ := and2 ck
    obtain ⟨gl, hd⟩ := glB_ok o g1
    have r := clauses_ok o hh xs g7
    have nm := o.g.cn _ _ (of_decide_eq_true g2)
    have nms : Names X _ (.ref (G.ca h)) := ⟨gl, hd, .inl (by rw [o.mg]; exact nm)⟩
    have su : SuiteOk X pb fun a cls d D σ H => ∀ oe, L2N.Zn cls d oe → (∃ vs, oe.data = .fields vs) → ∃ c, cls = .ref (G.ca c) ∧ rdS (G.withX ((a, oe), c, d)) wx0 (fun base ρ st => evSs C base b ρ st) D σ H := by
      intro a oe cls d pn hz hf
      refine ⟨fun pins s σ H D I q => ?_⟩
      obtain ⟨c, rfl, q2⟩ := q oe hz hf
      exact (simHs b (o.suite hh hz hf) xs.suite g6).run pins s σ H D I q2
    cases pb with
    | nil => cases g5
    | cons b0 body =>
      cases i with
      | none => cases on with
        | none => exact .bare nms rfl su r
        | some _ => cases g4
      | some j => cases on with
        | none => cases g4
        | some y =>
          obtain ⟨k1, k2⟩ := and2 g4
          refine .named (i := j) nms rfl ?_ ?_ su r
          · rw [o.hN]
            split at k1
            · rename_i e
              rw [e, of_decide_eq_true k1]
            · cases k1
          · show X.env.scope.names.lookup y = _
            rw [o.hsc]; exact isLoc_ok k2
theorem off_ok {W : Wd} {n : Nat} {H : Hp} {q : Xp} (hp : G.pn = []) {i : Option Nat} {ρ : En} {σ : L2.St} (en : EnR (G.withX q) W n H ρ σ) (hn : noX (offS i ρ) = true) : EnR G W n H (offS i ρ) (match i with | none => σ | some i => σ.set i none) := by
  have e2 : EnR (G.withX q) W n H (offS i ρ) (match i with | none => σ | some i => σ.set i none) := by
    cases i with
    | none => exact en
    | some i =>
      refine ⟨by show (ρ.set i none).length = (σ.set i none).length; rw [List.length_set, List.length_set]; exact en.1, fun j d e => ?_⟩
      have e' : (ρ.set i none)[j]? = some (some d) := e
      by_cases z : i = j
      · subst z
        by_cases z2 : i < ρ.length
        · rw [List.getElem?_set_self z2] at e'; cases e'
        · rw [List.getElem?_eq_none (by rw [List.length_set]; omega)] at e'; cases e'
      · rw [List.getElem?_set_ne z] at e'
        obtain ⟨v, h1, h2⟩ := en.2 j d e'
        exact ⟨v, by show (σ.set i none)[j]? = _; rw [List.getElem?_set_ne z]; exact h1, h2⟩
  exact EnR.gx0 (sameX G q).symm hn e2
/-- what the suite's end says of the whole's end -/
theorem suite_end {bd : Nat → Nat} {base : Nat} {W : Wd} {H : Hp} {st : Sto} {q : Xp} (hp : G.pn = []) {i : Option Nat} {fl : Fl} {D : Ends} (a : AnsS G bd base Wx W H st (hOff i fl) D) : AnsS (G.withX q) bd base wx0 W H st fl (match i with | none => D | some i => Ends.gone D i) := by
  have s := (sameX G q).symm
  cases fl with
  | nx ρ st' =>
    intro σ' W' H' p en
    have a' : AnsS G bd base Wx W H st (if noX (offS i ρ) then .nx (offS i ρ) st' else .bad) D := a
    split at a'
    · rename_i hn
      have z := off_ok hp en hn
      cases i with
      | none => exact a' _ _ _ (p.gx s) z
      | some i => exact a' _ _ _ (p.gx s) z
    · exact a'.elim
  | brk ρ st' =>
    intro σ' W' H' p en
    have a' : AnsS G bd base Wx W H st (if noX (offS i ρ) then .brk (offS i ρ) st' else .bad) D := a
    split at a'
    · rename_i hn
      have z := off_ok hp en hn
      cases i with
      | none => exact a' _ _ _ (p.gx s) z
      | some i => exact a' _ _ _ (p.gx s) z
    · exact a'.elim
  | cnt ρ st' =>
    intro σ' W' H' p en
    have a' : AnsS G bd base Wx W H st (if noX (offS i ρ) then .cnt (offS i ρ) st' else .bad) D := a
    split at a'
    · rename_i hn
      have z := off_ok hp en hn
      cases i with
      | none => exact a' _ _ _ (p.gx s) z
      | some i => exact a' _ _ _ (p.gx s) z
    · exact a'.elim
  | ret d st' =>
    intro v W' H' p dv
    have := a v W' H' (p.gx s) (DV.gx s dv)
    cases i with
    | none => exact this
    | some i => exact this
  | exc d ρ st' => exact a.elim
  | bad => exact a.elim
theorem clauses_say (o : Xok G T N C lv Wx sc X) (hh : T.hot = false) {D : Ends} {bd : Nat → Nat} {base : Nat} {W : Wd} {H : Hp} {st : Sto} {ρ : En} {σ : L2.St} {c : Nat} {ds : List Rf.D} {cls : Value} {dd : Option Addr} (r : RS G bd base W H st) (en : EnR G W st.length H ρ σ) (x : ExcR G W H (.exc c ds) cls dd) :
    ∀ {hs : List Hd} {ps : List ExceptHandler}, chkHd T N sc hs ps = true → AnsS G bd base Wx W H st (evHs C base hs c ds ρ st) D → wTry X.K Wx D (clauses G C hs) cls dd σ H
  | [], _, _, a => a σ cls dd W H (Post.refl r) en x
  | .mk h cs ns i b :: hs, ps, ck, a => by
    unfold chkHd at ck
    split at ck <;> first | contradiction | skip
    rename_i hq
    cases hq
    obtain ⟨g1, ck⟩ := and2 ck
    obtain ⟨g2, ck⟩ := and2 ck
    obtain ⟨g3, ck⟩ := and2 ck
    obtain ⟨g4, ck⟩ := and2 ck
    obtain ⟨g5, ck⟩ := and2 ck
    obtain ⟨g6, g7⟩ := and2 ck
    obtain ⟨m1, m2⟩ := exmB_ok o.g g3
    have a' : AnsS G bd base Wx W H st (if c ∈ cs then (match hOn i c ds ρ with
      | some ρ => hOff i (evSs C base b ρ st)
      | none => .bad) else if c ∈ ns then evHs C base hs c ds ρ st else .bad) D := a
    obtain ⟨e1, vs, e3, e6⟩ := x
    subst e1
    by_cases hc : c ∈ cs
    · rw [if_pos hc] at a'
      refine ⟨true, by rw [o.K]; exact m1 c hc, fun _ a0 na => ?_, (fun z => by cases z)⟩
      cases i with
      | none =>
        have a2 : AnsS G bd base Wx W H st (hOff none (evSs C base b ρ st)) D := a'
        intro oe hz hf
        refine ⟨c, rfl, W, bd, base, ρ, st, RS.gx (sameX G _) r, EnR.gx (sameX G _) (fun q hq => by rw [o.pn0 hh] at hq; cases hq) en, suite_end (o.pn0 hh) a2⟩
      | some i =>
        have a2 : AnsS G bd base Wx W H st (match (if i < ρ.length then some (ρ.set i (some (.exc c ds))) else none) with
          | some ρ => hOff (some i) (evSs C base b ρ st)
          | none => .bad) D := a'
        by_cases hi : i < ρ.length
        · rw [if_pos hi] at a2
          intro oe hz hf
          refine ⟨c, rfl, W, bd, base, ρ.set i (some (.exc c ds)), st, RS.gx (sameX G _) r, ?_, suite_end (o.pn0 hh) a2⟩
          have en' := EnR.gx (sameX G ((a0, oe), c, dd)) (fun q hq => by rw [o.pn0 hh] at hq; cases hq) en
          refine ⟨by rw [List.length_set, List.length_set]; exact en'.1, fun j d e => ?_⟩
          by_cases z : i = j
          · subst z
            rw [List.getElem?_set_self hi] at e
            cases e
            refine ⟨.ref a0, List.getElem?_set_self (by rw [← en'.1]; exact hi), ((a0, oe), c, dd), List.mem_cons_self, rfl, rfl, vs, e3, DVs.gx (sameX G _) e6⟩
          · rw [List.getElem?_set_ne z] at e
            obtain ⟨v, h1, h2⟩ := en'.2 j d e
            exact ⟨v, by rw [List.getElem?_set_ne z]; exact h1, h2⟩
        · rw [if_neg hi] at a2; exact a2.elim
    · rw [if_neg hc] at a'
      by_cases hn : c ∈ ns
      · rw [if_pos hn] at a'
        refine ⟨false, by rw [o.K]; exact m2 c hn, (fun z => by cases z), fun _ => ?_⟩
        exact clauses_say o hh r en ⟨rfl, vs, e3, e6⟩ g7 a'
      · rw [if_neg hn] at a'; exact a'.elim
theorem st_try (o : Xok G T N C lv Wx sc X) (hh : T.hot = false) (xs : Xs X) {b : List S} {hs : List Hd} {pb : List Stmt} {h : ExceptHandler} {ph : List ExceptHandler} {pos : Pos} (hb : ∀ (W : WX) (X' : Cx), Xok G T N C lv W sc X' → Xs X' → PSs X' pb (rdS G W fun base ρ st => evSs C base b ρ st))
    (ck : chkHd T N sc hs (h :: ph) = true) : PS X (.Try pb (h :: ph) [] [] pos) (rdS G Wx fun base ρ st => evS C base (.tryS b hs) ρ st) := by
  refine PS.weak (ps_try (tb := fun W => rdS G W fun base ρ st => evSs C base b ρ st) xs.stk xs.frm (by rw [o.hN]; exact o.nd) o.tk (fun W pn xe tk ow => hb W _ (o.body hh tk) (xs.body ow)) (clauses_ok o hh xs ck)) fun D σ H ⟨W, bd, base, ρ, st, r, en, q⟩ => ?_
  refine ⟨W, bd, base, ρ, st, r, en, ?_⟩
  have q' : AnsS G bd base Wx W H st (match evSs C base b ρ st with
    | .exc d ρ st => (match d with
      | .exc c ds => evHs C base hs c ds ρ st
      | _ => .bad)
    | r => r) D := q
  dsimp only
  cases e : evSs C base b ρ st with
  | exc d ρ' st' =>
    rw [e] at q'
    intro σ' cls dd W' H' p en' x
    cases d with
    | exc c ds => exact clauses_say o hh p.rs en' x ck (AnsS.shift p q')
    | _ => exact q'.elim
  | nx ρ' st' => rw [e] at q'; exact q'
  | ret d st' => rw [e] at q'; exact q'
  | brk ρ' st' => rw [e] at q'; exact q'
  | cnt ρ' st' => rw [e] at q'; exact q'
  | bad => rw [e] at q'; exact q'
end
end Rf

namespace Rf
open PySem PySem.Spec PyProof.Rows L2
section
variable {G : Gx} {T : Tx} {N : List Str} {C : Call} {lv : Nat} {sc : Scope}
theorem chkTg_nm {i : Nat} {p : Expr} (h : chkTg T N sc (.nm i) p = true) : ∃ x pos, p = .Name x pos := by
  unfold chkTg at h
  split at h <;> first | contradiction | skip
  exact ⟨_, _, rfl⟩
theorem noSwC {tg p : Expr} {l : Nat} {env : Env} (h : isTgC tg = true) : swapsWith p (some tg) l env = pure false := by
  cases tg <;> first | (cases h; done) | (cases p <;> rfl)
theorem tgC_comp {p : Expr} (h : noComp p = true) {tg : Expr} {l : Nat} {env : Env} : swapsWith p (some tg) l env = pure false := noSw h
theorem chk_comp {e : E} {pe : Expr} {g : Comprehension} {scope : Scope} {pos : Pos} (h : chkE T N sc e (.ListComp pe [g] scope pos) = true) : ∃ bx own t it c e' tg pit ifs, e = .comp bx own t it c e' ∧ g = ⟨tg, pit, ifs, 0⟩ ∧
    blkC N sc scope (own.map fun i => (N.getD i (Str.ofString ""), i)) = true ∧ chkI T N sc it tg pit = true ∧ chkTn N scope (relS scope sc) own t tg = true ∧ chkIf T N (relS scope sc) c ifs = true ∧ chkE T N (relS scope sc) e' pe = true := by
  unfold chkE at h
  split at h <;> first | contradiction | skip
  · rename_i z; cases z
    obtain ⟨_, h⟩ := and2 h
    obtain ⟨h1, h2⟩ := and2 h
    obtain ⟨h2, h3⟩ := and2 h2
    obtain ⟨h3, h4⟩ := and2 h3
    obtain ⟨h4, h5⟩ := and2 h4
    exact ⟨_, _, _, _, _, _, _, _, _, rfl, rfl, h1, h2, h3, h4, h5⟩
  · rename_i z
    injection z with z1 z2
    injection z2 with z3 z4
    cases z4
theorem st_asgN {Wx : WX} {X : Cx} (o : Xok G T N C lv Wx sc X) (hh : T.hot = false) (xs : Xs X) {i : Nat} {e : E} {x : Str} {p : Expr} {px pos : Pos} (h1 : tgB N sc i x = true) (h2 : chkE T N sc e p = true) (h3 : (swF sc x p || swT sc x px p) = true) :
    PS X (.Assign [.Name x px] p pos) (rdS G Wx fun base ρ st => evS C base (.asg (.nm i) e) ρ st) := by
  rcases Bool.or_eq_true_iff.mp h3 with h | h
  · exact st_set o xs h1 (simE e o h2).pe (swF_ok xs.kind o.hsc h)
  · cases p with
    | ListComp pe gs scope ppos =>
      have hg : ∃ g, gs = [g] := by
        cases gs with
        | nil => cases h
        | cons g r => cases r with
          | nil => exact ⟨g, rfl⟩
          | cons _ _ => cases h
      obtain ⟨g, rfl⟩ := hg
      obtain ⟨bx, own, t, it, c, e', tg, pit, ifs, rfl, rfl, g1, g2, g3, g4, g5⟩ := chk_comp h2
      refine st_comp o hh xs h1 h g1 ?_ g3 (fun X' o' => simIf c o' g4) (fun X' o' => (simE e' o' g5).pe)
      by_cases hk : ∃ i, it = .keys i
      · obtain ⟨i, rfl⟩ := hk
        obtain ⟨y, p0, rfl, hv⟩ := chk_keys g2
        exact .inl ⟨i, y, p0, rfl, rfl, hv⟩
      · exact .inr (simI it o hk g2)
    | _ => cases h
theorem st_raiseA {Wx : WX} {X : Cx} (o : Xok G T N C lv Wx sc X) (hh : T.hot = false) {c : Nat} {x : Str} {es : List E} {ps : List Expr} {p0 pos pos2 : Pos} (h1 : glB sc x = true) (h2 : (match T.cls c with | some q => decide (x = q.1) && decide (es.length = q.2.length) | none => false) = true) (h4 : chkEs T N sc es ps = true) (h : PA X ps (rdEs G C Wx es)) :
    PS X (.Raise (some (.Call (.Name x p0) ps [] pos)) none pos2) (rdS G Wx fun base ρ st => evS C base (.raise c es) ρ st) := by
  have ns := chkEs_star h4
  cases e : T.cls c with
  | none => rw [e] at h2; cases h2
  | some q =>
    rw [e] at h2
    obtain ⟨g1, g2⟩ := and2 h2
    obtain ⟨y, fl⟩ := q
    have e1 : x = y := of_decide_eq_true g1
    have e2 : es.length = fl.length := of_decide_eq_true g2
    subst e1
    cases ps with
    | nil =>
      have : es = [] := chkEs_nil h4
      subst this
      have : fl = [] := List.eq_nil_of_length_eq_zero e2.symm
      subst this
      exact st_raise0 o hh h1 e
    | cons p ps => exact st_raise o hh o.l2 h1 e e2 (fun z => by subst z; unfold chkEs at h4; contradiction) h ns
theorem st_tryA {Wx : WX} {X : Cx} (o : Xok G T N C lv Wx sc X) (hh : T.hot = false) (xs : Xs X) {b : List S} {hs : List Hd} {pb : List Stmt} {ph : List ExceptHandler} {pos : Pos} (hb : ∀ (W : WX) (X' : Cx), Xok G T N C lv W sc X' → Xs X' → PSs X' pb (rdS G W fun base ρ st => evSs C base b ρ st))
    (h1 : (!ph.isEmpty) = true) (ck : chkHd T N sc hs ph = true) : PS X (.Try pb ph [] [] pos) (rdS G Wx fun base ρ st => evS C base (.tryS b hs) ρ st) := by
  cases ph with
  | nil => cases h1
  | cons e es => exact st_try o hh xs hb ck
section
variable (hh : T.hot = false)
include hh
mutual
theorem simS : (s : S) → {p : Stmt} → {Wx : WX} → {sc : Scope} → {X : Cx} → Xok G T N C lv Wx sc X → Xs X → chkS T N sc s p = true → PS X p (rdS G Wx fun base ρ st => evS C base s ρ st)
  | .asg t e, p, Wx, sc, X, o, xs, h => by
    unfold chkS at h
    split at h <;> first | contradiction | skip
    · rename_i z; cases z
      obtain ⟨h1, h2⟩ := and2 h
      obtain ⟨h2, h3⟩ := and2 h2
      exact st_asgN o hh xs h1 h2 h3
    · rename_i z; cases z
      obtain ⟨h1, h2⟩ := and2 h
      obtain ⟨h2, h3⟩ := and2 h2
      obtain ⟨h3, h5⟩ := and2 h3
      exact st_asg o (simE e o h3).pe (simTg hh t o xs h2) (noSwC h1) (swNo_ok o.hsc h5) (chkTg_star h2)
  | .par is es, p, Wx, sc, X, o, xs, h => by
    unfold chkS at h
    split at h <;> first | contradiction | skip
    · rename_i z; cases z
      obtain ⟨h1, h2⟩ := and2 h
      obtain ⟨h2, h3⟩ := and2 h2
      exact st_par o hh xs h1 h2 h3 (s_cons (simE _ o h2).pe (s_cons (simE _ o h3).pe s_nil (chkE_star h3)) (chkE_star h2))
    · rename_i z; cases z
      obtain ⟨h1, h2⟩ := and2 h
      obtain ⟨h2, h3⟩ := and2 h2
      obtain ⟨h3, h4⟩ := and2 h3
      exact st_par3 o hh xs h1 h2 h3 h4 (s_cons (simE _ o h2).pe (s_cons (simE _ o h3).pe (s_cons (simE _ o h4).pe s_nil (chkE_star h4)) (chkE_star h3)) (chkE_star h2))
  | .expr e, p, Wx, sc, X, o, xs, h => by
    unfold chkS at h
    split at h <;> first | contradiction | skip
    rename_i z; cases z
    obtain ⟨h1, h2⟩ := and2 h
    exact st_expr o (simE e o h1).pe h2
  | .ret e, p, Wx, sc, X, o, xs, h => by
    unfold chkS at h
    split at h <;> first | contradiction | skip
    rename_i z; cases z
    exact st_ret (simE e o h).pe
  | .retN, p, Wx, sc, X, o, xs, h => by
    unfold chkS at h
    split at h <;> first | contradiction | skip
    exact st_retN
  | .ife c a b, p, Wx, sc, X, o, xs, h => by
    unfold chkS at h
    split at h <;> first | contradiction | skip
    rename_i z; cases z
    obtain ⟨h1, h2⟩ := and2 h
    obtain ⟨h2, h3⟩ := and2 h2
    exact st_ife (simE c o h1).pt (simSs a o xs h2) (simSs b o xs h3)
  | .forS t it b, p, Wx, sc, X, o, xs, h => by
    unfold chkS at h
    split at h <;> first | contradiction | skip
    rename_i z; cases z
    obtain ⟨h1, h2⟩ := and2 h
    obtain ⟨h2, h3⟩ := and2 h2
    obtain ⟨h3, h4⟩ := and2 h3
    have z := simI it o (noKeys_ok h3) h2
    exact st_for o hh xs h1 z.1 z.2 (simSs b o xs h4)
  | .forK t i b, p, Wx, sc, X, o, xs, h => by
    unfold chkS at h
    split at h <;> first | contradiction | skip
    rename_i z; cases z
    obtain ⟨h1, h2⟩ := and2 h
    obtain ⟨h2, h3⟩ := and2 h2
    exact st_fork o hh xs h1 h2 (simSs b o xs h3)
  | .whl c b, p, Wx, sc, X, o, xs, h => by
    unfold chkS at h
    split at h <;> first | contradiction | skip
    rename_i z; cases z
    obtain ⟨h1, h2⟩ := and2 h
    exact st_whl o xs (simE c o h1).pt (simSs b o xs h2)
  | .brk, p, Wx, sc, X, o, xs, h => by
    unfold chkS at h
    split at h <;> first | contradiction | skip
    exact st_brk
  | .cnt, p, Wx, sc, X, o, xs, h => by
    unfold chkS at h
    split at h <;> first | contradiction | skip
    exact st_cnt
  | .pass, p, Wx, sc, X, o, xs, h => by
    unfold chkS at h
    split at h <;> first | contradiction | skip
    exact st_pass
  | .never, p, Wx, sc, X, o, xs, h => ⟨fun pins s σ H D I ⟨W, bd, base, ρ, st, r, en, q⟩ => q.elim⟩
  | .raise c es, p, Wx, sc, X, o, xs, h => by
    unfold chkS at h
    split at h <;> first | contradiction | skip
    rename_i z; cases z
    obtain ⟨h1, h⟩ := and2 h
    obtain ⟨h2, h4⟩ := and2 h
    exact st_raiseA o hh h1 h2 h4 (simEs es o h4)
  | .tryS b hs, p, Wx, sc, X, o, xs, h => by
    unfold chkS at h
    split at h <;> first | contradiction | skip
    rename_i z; cases z
    obtain ⟨h1, h⟩ := and2 h
    obtain ⟨h2, h3⟩ := and2 h
    exact st_tryA o hh xs (fun W X' o' xs' => simSs b o' xs' h2) h1 h3
  | .freezeK i k, p, Wx, sc, X, o, xs, h => by
    unfold chkS at h
    contradiction
  | .del a b, p, Wx, sc, X, o, xs, h => by
    unfold chkS at h
    contradiction
  | .freeze i, p, Wx, sc, X, o, xs, h => by
    unfold chkS at h
    contradiction
theorem simSs : (ss : List S) → {ps : List Stmt} → {Wx : WX} → {sc : Scope} → {X : Cx} → Xok G T N C lv Wx sc X → Xs X → chkSs T N sc ss ps = true → PSs X ps (rdS G Wx fun base ρ st => evSs C base ss ρ st)
  | [], ps, Wx, sc, X, o, xs, h => by
    unfold chkSs at h
    split at h <;> first | contradiction | skip
    exact st_nil
  | s :: ss, ps, Wx, sc, X, o, xs, h => by
    unfold chkSs at h
    split at h <;> first | contradiction | skip
    · rename_i z; cases z
      exact st_freeze (simSs _ o xs h)
    · rename_i z; cases z
      exact st_freezeK (simSs _ o xs h)
    · rename_i z; cases z
      obtain ⟨h1, h2⟩ := and2 h
      exact st_cons (simS _ o xs h1) (simSs _ o xs h2)
end
end
end
/-! ### defs -/
structure Dok (G : Gx) (T : Tx) (f : Nat) (fd : Fd) : Prop where
  ex : ∃ x qual params body scope dvs kws N, FunD G.K x qual params body scope dvs kws (G.fa f) (G.fd f) ∧ FnScope N (G.ps f) scope ∧ fd.np = (G.ps f).length ∧ fd.ns = N.length ∧ chkSs T N scope fd.body body = true ∧ (f ∈ T.hots → chkHs { T with hot := true } N none scope fd.body body = true)
  bnd : Binds G.K (G.fd f) (G.ps f) []
theorem start_ok {G : Gx} {W : Wd} {n : Nat} {H : Hp} {N : List Str} : ∀ {ds : List D} {vs : List V}, DVs G W n H ds vs → ∀ m, EnR G W n H (ds.map some ++ List.replicate m none) (vs.map some ++ List.replicate m none) := by
  intro ds vs h m
  refine ⟨by simp [h.len], fun i d e => ?_⟩
  by_cases q : i < ds.length
  · rw [List.getElem?_append_left (by simpa using q)] at e
    rw [List.getElem?_map] at e
    cases e1 : ds[i]? with
    | none => rw [e1] at e; cases e
    | some d' =>
      rw [e1] at e
      cases e
      obtain ⟨v, e2, hv⟩ := h.get e1
      refine ⟨v, ?_, DVx.of hv⟩
      rw [List.getElem?_append_left (by rw [List.length_map, h.len]; exact q), List.getElem?_map, e2]
      rfl
  · rw [List.getElem?_append_right (by simp; omega)] at e
    rw [List.getElem?_replicate] at e
    split at e <;> cases e
theorem fn_bad {G : Gx} {C : Call} {lv f : Nat} (h : ∀ ds st b, C f ds st b = .bad) : FnOk G.P G.w G.K G.mg G.base (L2N.CX G.P G.w) lv (G.fa f) (G.fd f) (G.ps f) (spF G C f) := by
  have no : ∀ vs H Q E, ¬ spF G C f vs H Q E := by
    rintro vs H Q E ⟨W, bd, base, st, ds, _, _, _, a⟩
    rw [h] at a
    exact a
  exact ⟨fun vs H Q E q => absurd q (no _ _ _ _), fun A outer s H args us vs Q E _ _ _ _ q => absurd q (no _ _ _ _)⟩
/-! ### the same while an exception is handled -/
theorem startx_ok {G : Gx} {W : Wd} {n : Nat} {H : Hp} {ds : List D} {vs : List V} (h : DVxs G W n H ds vs) (m : Nat) : EnR G W n H (ds.map some ++ List.replicate m none) (vs.map some ++ List.replicate m none) := by
  refine ⟨by simp [h.1], fun i d e => ?_⟩
  by_cases q : i < ds.length
  · rw [List.getElem?_append_left (by simpa using q), List.getElem?_map] at e
    cases e1 : ds[i]? with
    | none => rw [e1] at e; cases e
    | some d' =>
      rw [e1] at e
      cases e
      obtain ⟨v, e2, hv⟩ := h.2 i _ e1
      refine ⟨v, ?_, hv⟩
      rw [List.getElem?_append_left (by rw [List.length_map, h.1]; exact q), List.getElem?_map, e2]
      rfl
  · rw [List.getElem?_append_right (by simp; omega), List.getElem?_replicate] at e
    split at e <;> cases e
theorem fnq_bad {G : Gx} {q : Xp} {C : Call} {lv f : Nat} (h : ∀ ds st b, C f ds st b = .bad) : FnQ G q C lv f := by
  refine ⟨fun A outer s H args us vs Q E _ _ _ _ _ _ _ z => ?_⟩
  obtain ⟨W, bd, base, st, ds, _, _, _, a⟩ := z
  rw [h] at a
  exact a.elim
theorem fnq_of {G : Gx} {q : Xp} {C : Call} {k f : Nat} {x qual : Str} {params : Arguments} {body : List Stmt} {scope : Scope} {dvs : List V} {kws : List (Str × V)} {N : List Str} (F : FunD G.K x qual params body scope dvs kws (G.fa f) (G.fd f)) (S : FnScope N (G.ps f) scope)
    (hbody : ∀ (A : Around) (outer : List Env) (s : Shared) (H : Hp) (vs : List V) (Q : VK) (E : XK) (cdv : Value), L2H.Hot1 A q.1 → Zc (.ref (G.ca q.2.1)) q.2.2 q.1.2 → L2H.RoomH k (A.deeper (envOfC qual scope s.heap.objs.size (G.fa f) cdv)) → spX (G.withX q) C f vs H Q E →
      ∃ t, PSs (L2H.cxH (L2N.CX G.P G.w) G.P G.w G.K G.mg G.base N qual scope (G.fa f) cdv A outer s H E q.1) body t ∧ t { nx := fun _ H' => Q .non H', rt := Q } (L2.start N vs) H) : FnQ G q C (k + 1) f := by
  refine ⟨fun A outer s H args us vs Q E hr hot hpin hz e0 hb r hsp => ?_⟩
  obtain ⟨oc, od, dV, kV, doc, pm, an, cdv, ct, osl, e2, lk, hcd, _, _⟩ := F.ex
  rw [e2] at hb lk
  obtain ⟨_, _, _, _, _, _, _, hl, _⟩ := id hsp
  have hl : vs.length = (G.ps f).length := hl
  have KX : G.K.In s.heap := e0.mod.kin.keeps fun b o e => (e0.bs b o e).1
  have lim : s.heap.NoLimit := e0.mod.nolimit.keeps fun b o e => (e0.bs b o e).1
  have kinds : ∀ y ∈ (G.ps f).zip us, scope.names.lookup y.1 = some .local ∨ (scope.names.lookup y.1 = some .cell ∧ ((cellsFrom (s.heap.objs.size + 1) scope.names []).lookup y.1).isSome = true) := fun ⟨n, v⟩ hy => (S.par n (List.of_mem_zip hy).1).elim .inl fun z => .inr ⟨z, PySem.W.cellsFrom_some _ _ _ (.inl z)⟩
  refine codeAny_call_function hr.depth (KX _ _ lk) rfl S.co S.gen rfl (PySem.W.codeRec_of KX hcd) (hb _ _ _ _ (wpAny_newFunctionEnv_cells S.kind kinds fun env he s1 y => ?_))
  subst he
  refine ⟨lim.keeps y.toInCall.keep, codeAny_func ?_⟩
  obtain ⟨t, ht, hq⟩ := hbody A outer s H vs Q E cdv hot hz (hr.deeper _) hsp
  have I : Inv (L2H.cxH (L2N.CX G.P G.w) G.P G.w G.K G.mg G.base N qual scope (G.fa f) cdv A outer s H E q.1) [] (L2.start N vs) H s1 := L2H.inv_startH S hpin e0 hl r y
  refine wpAny_mono (ht.run [] s1 (L2.start N vs) H _ I hq) (fun fl s' z => ?_) fun e s' z => z
  cases fl with
  | ret u =>
    obtain ⟨v, σ', H', J, rv, z⟩ := z
    exact ⟨v, H', J.os, J.bare, J.base, J.hok, rv, z⟩
  | next =>
    obtain ⟨σ', H', J, z⟩ := z
    exact ⟨V.non, H', J.os, J.bare, J.base, J.hok, rfl, z⟩
  | brk =>
    obtain ⟨_, _, _, z⟩ := z
    exact z.elim
  | cont =>
    obtain ⟨_, _, _, z⟩ := z
    exact z.elim
theorem callN_ar {G : Gx} {T : Tx} {Tb : Nat → Option Fd} (hd : ∀ f fd, Tb f = some fd → Dok G T f fd) (n f : Nat) (ds : List D) (st : Sto) (b : Nat) (hb : callN Tb n f ds st b ≠ .bad) : ds.length = (G.ps f).length ∧ PySem.W.keepIn G.K (.ref (G.fa f)) = true ∧ Binds G.K (G.fd f) (G.ps f) [] := by
  cases n with
  | zero => exact absurd rfl hb
  | succ m =>
    have hb' : (match Tb f with | some fd => runFd (callN Tb m) fd ds st b | none => .bad) ≠ .bad := hb
    cases e2 : Tb f with
    | none => rw [e2] at hb'; exact absurd rfl hb'
    | some fd2 =>
      rw [e2] at hb'
      obtain ⟨_, _, _, _, _, _, _, _, F2, _, hnp2, _⟩ := (hd f fd2 e2).ex
      refine ⟨?_, F2.kp, (hd f fd2 e2).bnd⟩
      have hb2 : runFd (callN Tb m) fd2 ds st b ≠ .bad := hb'
      unfold runFd at hb2
      split at hb2
      · rename_i z; rw [z.1, hnp2]
      · exact absurd rfl hb2
theorem calls_all {G : Gx} {T : Tx} (g : Gok G T) (hh : T.hot = false) (hp : G.pn = []) (Tb : Nat → Option Fd) (hd : ∀ f fd, Tb f = some fd → Dok G T f fd) : ∀ n, Calls G (callN Tb n) (n + 2) ∧ ∀ q, ∀ f ∈ T.hots, FnQ G q (callN Tb n) (n + 2) f
  | 0 => ⟨fun f => fn_bad fun _ _ _ => rfl, fun q f _ => fnq_bad fun _ _ _ => rfl⟩
  | n + 1 => by
    have ih := calls_all g hh hp Tb hd n
    have none_ : ∀ f, Tb f = none → ∀ ds st b, callN Tb (n + 1) f ds st b = .bad := fun f e ds st b => by
      show (match Tb f with | some fd => runFd (callN Tb n) fd ds st b | none => .bad) = _
      rw [e]
    have some_ : ∀ f fd, Tb f = some fd → ∀ ds st b, callN Tb (n + 1) f ds st b = runFd (callN Tb n) fd ds st b := fun f fd e ds st b => by
      show (match Tb f with | some fd => runFd (callN Tb n) fd ds st b | none => .bad) = _
      rw [e]
    refine ⟨fun f => ?_, fun q f hf => ?_⟩
    · cases e : Tb f with
      | none => exact fn_bad (none_ f e)
      | some fd =>
        obtain ⟨x, qual, params, body, scope, dvs, kws, N, F, S, hnp, hns, hc, _⟩ := (hd f fd e).ex
        refine F.ok S (fun vs H Q E h => ?_) fun cdv A outer s H vs Q E hr h => ?_
        · obtain ⟨_, _, _, _, _, _, _, hl, _⟩ := h
          exact hl
        · obtain ⟨W, bd, base, st, ds, r, dv, hl, a⟩ := h
          have a' : Ans (DV G) G bd base (fun cls dd _ H' => E cls dd H') [] W H st (runFd (callN Tb n) fd ds st base) Q := by
            rw [← some_ f fd e]; exact a
          unfold runFd at a'
          split at a'
          rotate_left
          · exact a'.elim
          rename_i hlen
          refine ⟨rdS G (fun cls dd _ H' => E cls dd H') fun base ρ st => evSs (callN Tb n) base fd.body ρ st, ?_, ?_⟩
          · refine simSs (G := G) (T := T) (N := N) (C := callN Tb n) (lv := n + 2) (sc := scope) hh fd.body ?_ ?_ hc
            · refine ⟨rfl, rfl, rfl, rfl, rfl, fun _ => rfl, fun _ => hr, ?_, rfl, S.nd, rfl, ?_, g, fun _ => ih.1, fun f' ds' st' b' hb => (callN_ar hd n f' ds' st' b' hb).1, by omega, fun f' ds' st' b' hb => (callN_ar hd n f' ds' st' b' hb).2, fun _ => hp, fun q hq => (by rw [hp] at hq; cases hq), ih.2, fun z => (by rw [hh] at z; cases z)⟩
              · have hu := hr.un
                exact (by omega : (A.deeper (envOfC qual scope s.heap.objs.size (G.fa f) cdv)).units + 65 < cLine)
              · exact L2N.takes_of (X := cxOf (L2N.CX G.P G.w) G.P G.w G.K G.mg G.base N qual scope (G.fa f) cdv A outer s H E) (E := E) rfl rfl rfl rfl
            · exact ⟨passes_of (X := cxOf (L2N.CX G.P G.w) G.P G.w G.K G.mg G.base N qual scope (G.fa f) cdv A outer s H E) rfl, fun _ => rfl, S.kind, rfl, rfl⟩
          · refine ⟨W, bd, base, ds.map some ++ List.replicate (fd.ns - fd.np) none, st, r, ?_, ?_⟩
            · show EnR G W st.length H (ds.map some ++ List.replicate (fd.ns - fd.np) none) (vs.map some ++ List.replicate (N.length - vs.length) none)
              have : fd.ns - fd.np = N.length - vs.length := by rw [hns, hnp, hl]
              rw [this]
              exact start_ok (N := N) dv _
            · dsimp only
              cases e3 : evSs (callN Tb n) base fd.body (ds.map some ++ List.replicate (fd.ns - fd.np) none) st with
              | ret d st' => rw [e3] at a'; exact a'
              | nx ρ' st' => rw [e3] at a'; exact fun σ' W' H' p en => a' .non W' H' p rfl
              | exc d ρ' st' => rw [e3] at a'; exact fun σ' cls dd W' H' p en x => a' cls dd W' H' p x
              | brk _ _ => rw [e3] at a'; exact a'.elim
              | cnt _ _ => rw [e3] at a'; exact a'.elim
              | bad => rw [e3] at a'; exact a'.elim
    · cases e : Tb f with
      | none => exact fnq_bad (none_ f e)
      | some fd =>
        obtain ⟨x, qual, params, body, scope, dvs, kws, N, F, S, hnp, hns, _, hc⟩ := (hd f fd e).ex
        refine fnq_of F S fun A outer s H vs Q E cdv hot hz hr h => ?_
        obtain ⟨W, bd, base, st, ds, r, dv, hl, a⟩ := h
        have a' : Ans (DV (G.withX q)) (G.withX q) bd base (fun cls dd _ H' => E cls dd H') [] W H st (runFd (callN Tb n) fd ds st base) Q := by
          rw [← some_ f fd e]; exact a
        unfold runFd at a'
        split at a'
        rotate_left
        · exact a'.elim
        rename_i hlen
        refine ⟨rdS (G.withX q) (fun cls dd _ H' => E cls dd H') fun base ρ st => evSs (callN Tb n) base fd.body ρ st, ?_, ?_⟩
        · refine simHs (G := G.withX q) (T := { T with hot := true }) (N := N) (C := callN Tb n) (lv := n + 2) (sc := scope) (i := none) fd.body ?_ ?_ (hc hf)
          · refine ⟨rfl, rfl, rfl, rfl, rfl, fun z => (by cases z), fun z => (by cases z), ?_, rfl, S.nd, rfl, ?_, g.hot q, fun z => (by cases z), fun f' ds' st' b' hb => (callN_ar hd n f' ds' st' b' hb).1, by omega, fun f' ds' st' b' hb => (callN_ar hd n f' ds' st' b' hb).2, fun z => (by cases z), fun p hp' => ?_, fun q' f' hf' => ⟨(ih.2 q' f' hf').run⟩, fun _ => ⟨q, rfl, hot, hr⟩⟩
            · have hu := hr.un
              exact (by omega : (A.deeper (envOfC qual scope s.heap.objs.size (G.fa f) cdv)).units + 65 < cLine)
            · exact L2N.takes_of (X := L2H.cxH (L2N.CX G.P G.w) G.P G.w G.K G.mg G.base N qual scope (G.fa f) cdv A outer s H E q.1) (E := E) rfl rfl rfl rfl
            · have e1 : p = q := by simpa [Gx.withX] using hp'
              subst e1
              obtain ⟨_, vs', e2, _⟩ := hot
              exact ⟨List.mem_cons_self, hz, vs', e2⟩
          · exact ⟨passes_of (X := L2H.cxH (L2N.CX G.P G.w) G.P G.w G.K G.mg G.base N qual scope (G.fa f) cdv A outer s H E q.1) rfl, fun _ => rfl, S.kind, rfl, rfl⟩
        · refine ⟨W, bd, base, ds.map some ++ List.replicate (fd.ns - fd.np) none, st, r, ?_, ?_⟩
          · show EnR (G.withX q) W st.length H (ds.map some ++ List.replicate (fd.ns - fd.np) none) (vs.map some ++ List.replicate (N.length - vs.length) none)
            have hl' : vs.length = (G.ps f).length := hl
            have : fd.ns - fd.np = N.length - vs.length := by rw [hns, hnp, hl']
            rw [this]
            exact startx_ok dv _
          · dsimp only
            cases e3 : evSs (callN Tb n) base fd.body (ds.map some ++ List.replicate (fd.ns - fd.np) none) st with
            | ret d st' => rw [e3] at a'; exact a'
            | nx ρ' st' => rw [e3] at a'; exact fun σ' W' H' p en => a' .non W' H' p rfl
            | exc d ρ' st' => rw [e3] at a'; exact fun σ' cls dd W' H' p en x => a' cls dd W' H' p x
            | brk _ _ => rw [e3] at a'; exact a'.elim
            | cnt _ _ => rw [e3] at a'; exact a'.elim
            | bad => rw [e3] at a'; exact a'.elim
end Rf

/-! Facts of our own about the program's head: constants, exception classes. -/
namespace Rf
open PySem PySem.Spec PyProof.Rows L2
mutual
/-- this value of the module is this data -/
def cstV (K : PySem.W.Frag) : D → Value → Bool
  | .non, .none => true
  | .bl b, .bool c => b == c
  | .int i, .int j _ => decide (i = j)
  | .str s, .str y _ => decide (y.cps.toList = s)
  | .tup ds, .ref a => (match K.lookup a with
    | some ⟨oc, _, .seq its _, _⟩ => decide (oc = .type "tuple") && (decide (its.size ≤ sizeLine) && cstVs K ds its.toList)
    | _ => false)
  | _, _ => false
def cstVs (K : PySem.W.Frag) : List D → List Value → Bool
  | [], [] => true
  | d :: ds, u :: us => cstV K d u && cstVs K ds us
  | _, _ => false
end
mutual
theorem cstV_ok {G : Gx} {K : PySem.W.Frag} (hK : G.K = K) {W : Wd} {n : Nat} {H : Hp} : ∀ {d : D} {u : Value}, cstV K d u = true → ∃ v, RelV v u ∧ DV G W n H d v
  | .non, u, h => by cases u <;> first | exact ⟨.non, rfl, rfl⟩ | cases h
  | .bl b, u, h => by
    cases u with
    | bool c =>
      have e : b = c := by simpa [cstV] using h
      subst e
      exact ⟨.bl b, rfl, rfl⟩
    | _ => cases h
  | .int i, u, h => by
    cases u with
    | int j t =>
      have e : i = j := of_decide_eq_true h
      subst e
      exact ⟨.int i, ⟨t, rfl⟩, rfl⟩
    | _ => cases h
  | .str s, u, h => by
    cases u with
    | str y t =>
      have e : y.cps.toList = s := of_decide_eq_true h
      subst e
      exact ⟨.str y, ⟨t, rfl⟩, by show V.str y = V.str ⟨y.cps.toList.toArray⟩; simp⟩
    | _ => cases h
  | .tup ds, u, h => by
    cases u with
    | ref a =>
      have h' : (match K.lookup a with
        | some ⟨oc, _, .seq its _, _⟩ => decide (oc = .type "tuple") && (decide (its.size ≤ sizeLine) && cstVs K ds its.toList)
        | _ => false) = true := by
        unfold cstV at h
        exact h
      cases e : K.lookup a with
      | none => rw [e] at h'; cases h'
      | some o =>
        obtain ⟨oc, od, dt, osl⟩ := o
        rw [e] at h'
        cases dt with
        | seq its k =>
          obtain ⟨h1, h⟩ := Bool.and_eq_true_iff.mp h'
          obtain ⟨h2, h3⟩ := Bool.and_eq_true_iff.mp h
          obtain ⟨xs, r, dv⟩ := cstVs_ok hK h3 (W := W) (n := n) (H := H)
          refine ⟨.ref a, rfl, a, xs, rfl, ?_, dv⟩
          rw [hK]
          exact .inr ⟨_, its, k, e, of_decide_eq_true h1, rfl, of_decide_eq_true h2, r⟩
        | _ => cases h'
    | _ => cases h
  | .lst _, u, h => by cases u <;> cases h
  | .frz _, u, h => by cases u <;> cases h
  | .dct _ _, u, h => by cases u <;> cases h
  | .ref _, u, h => by cases u <;> cases h
  | .fn _, u, h => by cases u <;> cases h
  | .met _ _, u, h => by cases u <;> cases h
  | .exc _ _, u, h => by cases u <;> cases h
  | .exv _ _, u, h => by cases u <;> cases h
theorem cstVs_ok {G : Gx} {K : PySem.W.Frag} (hK : G.K = K) {W : Wd} {n : Nat} {H : Hp} : ∀ {ds : List D} {us : List Value}, cstVs K ds us = true → ∃ xs, Vals xs us ∧ DVs G W n H ds xs
  | [], [], _ => ⟨[], .nil, rfl⟩
  | [], _ :: _, h => by cases h
  | _ :: _, [], h => by cases h
  | d :: ds, u :: us, h => by
    obtain ⟨h1, h2⟩ := Bool.and_eq_true_iff.mp (show (cstV K d u && cstVs K ds us) = true from h)
    obtain ⟨v, r1, d1⟩ := cstV_ok hK h1 (W := W) (n := n) (H := H)
    obtain ⟨vs, r2, d2⟩ := cstVs_ok hK h2 (W := W) (n := n) (H := H)
    exact ⟨v :: vs, .cons r1 r2, v, vs, rfl, d1, d2⟩
end
/-- an exception class over ValueError, its fields kept by its own __init__ -/
def xclB (K : PySem.W.Frag) (C : Addr) : Bool := (match K.lookup C with
  | some ⟨oc, _, .cls cd, sl⟩ => (match cd.mro, sl.toList with
    | .ref C' :: bm, [_, _, _, _, some n, _] => decide (oc = .type "type") && (decide (C' = C) && (decide (n = .builtin "ValueError.__new__") && (!cd.hasDel && (cd.hasDict && PySem.HandSPX.refsVE bm))))
    | _, _ => false)
  | _ => false) && (decide (PySem.W.findIn K (.ref C) "__setattr__" = some (some (.builtin "object.__setattr__"))) && (decide (PySem.W.subIn K (.ref C) (.type "BaseException") = some true) && (decide (PySem.W.typeIn K (.ref C) = some (.type "type")) &&
    (PySem.W.keepIn K (.ref C) && xfB K C))))
theorem xclB_ok {K : PySem.W.Frag} {C : Addr} (h : xclB K C = true) : OexC K C ∧ XfC K C := by
  obtain ⟨h1, h⟩ := Bool.and_eq_true_iff.mp h
  obtain ⟨h2, h⟩ := Bool.and_eq_true_iff.mp h
  obtain ⟨h3, h⟩ := Bool.and_eq_true_iff.mp h
  obtain ⟨h4, h⟩ := Bool.and_eq_true_iff.mp h
  obtain ⟨h5, h6⟩ := Bool.and_eq_true_iff.mp h
  refine ⟨⟨?_, of_decide_eq_true h2, of_decide_eq_true h3, of_decide_eq_true h4, h5⟩, xfB_ok h6⟩
  cases e : K.lookup C with
  | none => rw [e] at h1; cases h1
  | some o =>
    obtain ⟨oc, dd, dt, sl⟩ := o
    rw [e] at h1
    cases dt with
    | cls cd =>
      obtain ⟨nm, bs, mro, ns, qn, hd, sn, sub, ab, col, del⟩ := cd
      obtain ⟨l⟩ := sl
      dsimp only at h1
      cases mro with
      | nil => cases h1
      | cons m bm => cases m with
        | ref C' =>
          match l, h1 with
          | [k0, k1, k2, k3, some n, k5], h1 =>
            obtain ⟨g1, h⟩ := Bool.and_eq_true_iff.mp h1
            obtain ⟨g2, h⟩ := Bool.and_eq_true_iff.mp h
            obtain ⟨g3, h⟩ := Bool.and_eq_true_iff.mp h
            obtain ⟨g4, h⟩ := Bool.and_eq_true_iff.mp h
            obtain ⟨g5, g6⟩ := Bool.and_eq_true_iff.mp h
            have e1 := of_decide_eq_true g1
            have e2 := of_decide_eq_true g2
            have e3 := of_decide_eq_true g3
            have e4 : del = false := by simpa using g4
            subst e1 e2 e3 e4
            have e5 : hd = true := g5
            subst e5
            exact ⟨nm, qn, ns, bs, bm, sn, sub, ab, col, dd, k0, k1, k2, k3, k5, rfl, g6⟩
        | _ => cases h1
    | _ => cases h1
/-- isinstance may ask instances of this class -/
def excB (K : PySem.W.Frag) (C : Addr) : Bool := decide (PySem.W.findIn K (.ref C) "__getattribute__" = some (some (.builtin "BaseException.__getattribute__"))) && (decide (PySem.W.findIn K (.ref C) "__getattr__" = some none) && (decide (PySem.W.subIn K (.ref C) (.type "BaseException") = some true) &&
  (PySem.W.hasDictIn K C && (decide (PySem.W.findIn K (.ref C) "__class__" = some (some (.builtin "object.__class__"))) && (decide (PySem.W.specialIn K (.builtin "object.__class__") "__get__" = some (some (.builtin "getset_descriptor.__get__"))) &&
    (decide (PySem.W.takesIn K (.builtin "object.__class__") = some true) && decide (PySem.W.mroIn K C (.type "object") = some true)))))))
theorem excB_ok {K : PySem.W.Frag} {C : Addr} (h : excB K C = true) : ExcC K C := by
  obtain ⟨h1, h⟩ := Bool.and_eq_true_iff.mp h
  obtain ⟨h2, h⟩ := Bool.and_eq_true_iff.mp h
  obtain ⟨h3, h⟩ := Bool.and_eq_true_iff.mp h
  obtain ⟨h4, h⟩ := Bool.and_eq_true_iff.mp h
  obtain ⟨h5, h⟩ := Bool.and_eq_true_iff.mp h
  obtain ⟨h6, h⟩ := Bool.and_eq_true_iff.mp h
  obtain ⟨h7, h8⟩ := Bool.and_eq_true_iff.mp h
  exact ⟨of_decide_eq_true h1, of_decide_eq_true h2, of_decide_eq_true h3, h4, of_decide_eq_true h5, of_decide_eq_true h6, of_decide_eq_true h7, of_decide_eq_true h8⟩
/-- a class without an __init__ of its own -/
def barB (K : PySem.W.Frag) (C : Addr) : Bool := PySem.W.excIn K C veT "ValueError.__new__" && (PySem.W.keepIn K (.ref C) && (decide (PySem.W.subIn K (.ref C) (.type "BaseException") = some true) && decide (PySem.W.typeIn K (.ref C) = some (.type "type"))))
theorem barB_ok {K : PySem.W.Frag} {C : Addr} (h : barB K C = true) : OexZ K C := by
  obtain ⟨h1, h⟩ := Bool.and_eq_true_iff.mp h
  obtain ⟨h2, h⟩ := Bool.and_eq_true_iff.mp h
  obtain ⟨h3, h4⟩ := Bool.and_eq_true_iff.mp h
  exact ⟨h1, h2, of_decide_eq_true h3, of_decide_eq_true h4⟩
inductive Fx where
  | cst (x : Str) (d : D)
  | xcl (x : Str)
  | ini (x : Str)
  | exc (x : Str)
  | bar (x : Str)
  | kit (x h : Str) (b : Bool)
def Fx.ok (K : PySem.W.Frag) : Fx → Bool
  | .cst x d => (match PySem.W.nsIn K mainGlobals x with
    | some (some u) => cstV K d u
    | _ => false)
  | .xcl x => xclB K (He.ga K x)
  | .ini x => decide (PySem.W.findIn K (.ref (He.ga K x)) "__init__" = some (some (.ref (He.ma K (He.ga K x) "__init__")))) && decide (PySem.W.typeIn K (.ref (He.ma K (He.ga K x) "__init__")) = some (.type "function"))
  | .exc x => excB K (He.ga K x)
  | .bar x => barB K (He.ga K x)
  | .kit x h b => decide (PySem.W.kitOne K (.ref (He.ga K x)) (.ref (He.ga K h)) = some b)
/-! ### the Hook -/
abbrev AlX : Type := He.AlD × Bool
def obsX (fa : List He.Fa) (fn : List He.DefD) (fx : List Fx) (K : PySem.W.Frag) : AlX := (He.obsD fa fn K, fx.all fun f => f.ok K)
def obsXG (n : Nat) (fa : List He.Fa) (fn : List He.DefD) (fx : List Fx) (g : Addr → Option Obj) : AlX := obsX fa fn fx (He.frG g (He.asD g n))
/-- what the end leans on -/
structure SaysX (fa : List He.Fa) (fn : List He.DefD) (fx : List Fx) (K : PySem.W.Frag) : Prop where
  d : He.SaysD fa fn K
  x : ∀ f ∈ fx, f.ok K = true
theorem saysX_of {fa : List He.Fa} {fn : List He.DefD} {fx : List Fx} {K : PySem.W.Frag} (h : obsX fa fn fx K = (He.valD fn, true)) : SaysX fa fn fx K :=
  ⟨congrArg Prod.fst h, fun f hf => List.all_eq_true.mp (congrArg Prod.snd h) f hf⟩
def hookX (n : Nat) (fa : List He.Fa) (fn : List He.DefD) (fx : List Fx) : PySem.W.Hook where
  α := AlX
  obs := fun s => obsXG n fa fn fx s.heap.get?
  val := fun _ => (He.valD fn, true)
  says := fun _ h => ∃ K : PySem.W.Frag, K.In h ∧ SaysX fa fn fx K
  of := fun _ _ e => ⟨_, He.frG_in, saysX_of e⟩
  keeps := fun _ _ _ ⟨K, hK, c⟩ k => ⟨K, PySem.W.Frag.In.keeps hK k, c⟩
theorem obsXG_eq {n : Nat} {fa : List He.Fa} {fn : List He.DefD} {fx : List Fx} {g : Addr → Option Obj} {s : Shared} (h : ∀ a, g a = s.heap.get? a) : obsXG n fa fn fx g = (hookX n fa fn fx).obs s := by
  have e : g = s.heap.get? := funext h
  rw [e] <;> rfl
end Rf

/-! From the head's facts and the evaluator's answer to the law. -/
namespace Rf
open PySem PySem.Spec PyProof.Rows L2
def BindsOk (d : He.DefD) (ps : List Str) : Prop := ∀ (kV doc pm : Value) (an : Option Addr) (cdv ct : Value) (us : List Value), us.length = ps.length → bindArgs (PySem.W.fnOf d.name d.qual d.params d.body d.scope .none kV doc pm an cdv ct) ⟨us, []⟩ = pure (ps.zip us)
structure DefOk (T : Tx) (d : He.DefD) (ps N : List Str) (fd : Fd) : Prop where
  b : BindsOk d ps
  sc : FnScope N ps d.scope
  np : fd.np = ps.length
  ns : fd.ns = N.length
  ck : chkSs T N d.scope fd.body d.body = true
  dfl : d.dfl = []
  kwd : d.kwd = []
  at_ : d.at_.2 = none
/-- a law's defs -/
structure Df where
  d : He.DefD
  ps : List Str
  N : List Str
  fd : Fd
def AllD (T : Tx) : List Df → Prop
  | [] => True
  | x :: xs => DefOk T x.d x.ps x.N x.fd ∧ AllD T xs
theorem AllD.get {T : Tx} : ∀ {xs : List Df} {i : Nat} {x : Df}, AllD T xs → xs[i]? = some x → DefOk T x.d x.ps x.N x.fd
  | [], i, _, _, e => by simp at e
  | y :: ys, 0, x, h, e => by
    simp at e; subst e
    exact h.1
  | y :: ys, i + 1, x, h, e => AllD.get h.2 (by simpa using e)
def KbOk (xs : List Df) (q : Nat × Nat × List Nat × List Str) : Prop := ∃ x, xs[q.1]? = some x ∧ ∀ (kV doc pm : Value) (an : Option Addr) (cdv ct : Value) (us ws : List Value), us.length = q.2.1 → ws.length = q.2.2.2.length →
  bindArgs (PySem.W.fnOf x.d.name x.d.qual x.d.params x.d.body x.d.scope .none kV doc pm an cdv ct) ⟨us, q.2.2.2.zip ws⟩ = pure (x.ps.zip (us ++ q.2.2.1.map fun i => ws.getD i .none))
def AllK (xs : List Df) : List (Nat × Nat × List Nat × List Str) → Prop
  | [] => True
  | q :: qs => KbOk xs q ∧ AllK xs qs
theorem AllK.get {xs : List Df} : ∀ {qs : List (Nat × Nat × List Nat × List Str)} {q : Nat × Nat × List Nat × List Str}, AllK xs qs → q ∈ qs → KbOk xs q
  | p :: qs, q, h, e => by
    rcases List.mem_cons.mp e with rfl | e
    · exact h.1
    · exact AllK.get h.2 e
/-- an exception class: its name, its fields, its __init__ if it is raised -/
structure Xd where
  x : Str
  fl : List Str
  ini : Option Df
  /-- made without an __init__ of its own -/
  bare : Bool := false
structure IniOk (x : Str) (fl : List Str) (f : Df) : Prop where
  at_ : f.d.at_ = (x, some ("__init__" : Str))
  b : BindsOk f.d f.ps
  kw : ∀ (kV doc pm : Value) (an : Option Addr) (cdv ct v : Value) (ws : List Value), ws.length = fl.length → bindArgs (PySem.W.fnOf f.d.name f.d.qual f.d.params f.d.body f.d.scope .none kV doc pm an cdv ct) ⟨[v], fl.zip ws⟩ = pure (f.ps.zip (v :: ws))
  sc : FnScope f.N f.ps f.d.scope
  ck : chkInit f.N f.d.scope fl 1 f.d.body = true
  l1 : f.ps.length = fl.length + 1
  l2 : f.N.length = f.ps.length
  ne : fl ≠ []
  le : fl.length ≤ 100
  dfl : f.d.dfl = []
  kwd : f.d.kwd = []
def XdOk (q : Xd) : Prop := ∀ f, q.ini = some f → IniOk q.x q.fl f
def AllX : List Xd → Prop
  | [] => True
  | q :: qs => XdOk q ∧ AllX qs
theorem AllX.get : ∀ {qs : List Xd} {i : Nat} {q : Xd}, AllX qs → qs[i]? = some q → XdOk q
  | [], i, _, _, e => by simp at e
  | y :: ys, 0, x, h, e => by
    simp at e; subst e
    exact h.1
  | y :: ys, i + 1, x, h, e => AllX.get h.2 (by simpa using e)
/-- the defs that are called within an except suite, looked at once more -/
def hotB (T : Tx) (xs : List Df) (i : Nat) : Bool := match xs[i]? with
  | some x => chkHs { T with hot := true } x.N none x.d.scope x.fd.body x.d.body
  | none => false
theorem bare_of {exs : List Xd} (h : (exs.all fun q => q.ini.isSome || (!q.bare || q.fl.isEmpty)) = true) : ∀ (i : Nat) (q : Xd), exs[i]? = some q → q.ini = none → q.bare = true → q.fl = [] := fun i q e h1 h2 => by
  have z := List.all_eq_true.mp h q (List.mem_of_getElem? e)
  rw [h1, h2] at z
  simpa using z
/-- what a law's head knows -/
structure Lw where
  xs : List Df
  exs : List Xd
  exms : List (Nat × Nat × Bool)
  consts : List (String × D)
  kbs : List (Nat × Nat × List Nat × List Str)
  kits : List (Nat × Nat × Bool) := []
  hots : List Nat := []
def Lw.xn (l : Lw) (c : Nat) : Str := match l.exs[c]? with
  | some q => q.x
  | none => ""
def Lw.facts (l : Lw) : List He.Fa := l.xs.map (fun x => He.Fa.glo x.d.at_.1) ++ (biNames.map He.Fa.free ++ (l.exs.map (fun q => He.Fa.glo q.x) ++ (l.exs.flatMap (fun q => match q.ini with
  | some _ => q.fl.map fun f => He.Fa.noat q.x f
  | none => []) ++ l.exms.map fun p => He.Fa.exm (l.xn p.1) (l.xn p.2.1) p.2.2)))
def Lw.defs (l : Lw) : List He.DefD := l.xs.map Df.d ++ l.exs.filterMap fun q => q.ini.map Df.d
def Lw.fxs (l : Lw) : List Fx := l.consts.map (fun p => Fx.cst (Str.ofString p.1) p.2) ++ l.exs.flatMap fun q => match q.ini with
  | some _ => [Fx.xcl q.x, Fx.ini q.x]
  | none => if q.bare then [Fx.bar q.x] else []
def Lw.fxk (l : Lw) : List Fx := l.fxs ++ l.kits.flatMap fun p => [Fx.exc (l.xn p.1), Fx.kit (l.xn p.1) (l.xn p.2.1) p.2.2]
def Lw.tx (l : Lw) : Tx := { fname := fun i => (l.xs[i]?).map fun x => x.d.at_.1, mname := fun _ => none, consts := l.consts, kbs := l.kbs, cls := fun c => match l.exs[c]? with | some ⟨x, fl, some _, _⟩ => some (x, fl) | some ⟨x, _, none, true⟩ => some (x, []) | _ => none, cnm := fun c => (l.exs[c]?).map Xd.x, exms := l.exms, kits := l.kits, hots := l.hots }
def tbOf (xs : List Df) : Nat → Option Fd := fun i => (xs[i]?).map Df.fd
theorem factM {fa : List He.Fa} {fn : List He.DefD} {K : PySem.W.Frag} (c : He.SaysD fa fn K) {f : He.Fa} (h : f ∈ fa) : f.ok K = true := by
  obtain ⟨i, hi, e⟩ := List.getElem_of_mem h
  exact c.fact i (by rw [List.getElem?_eq_getElem hi, e])
theorem getD_vals : ∀ {perm : List Nat} {zs : List V} {ws : List Value}, Vals zs ws → Vals (perm.map fun i => zs.getD i .non) (perm.map fun i => ws.getD i .none)
  | [], _, _, _ => .nil
  | i :: perm, zs, ws, h => by
    refine .cons ?_ (getD_vals h)
    cases e : zs[i]? with
    | none =>
      have e2 : ws[i]? = none := by
        rw [List.getElem?_eq_none_iff] at e ⊢
        rw [← h.length]; exact e
      simp only [List.getD, e, e2]
      rfl
    | some v =>
      obtain ⟨u, e2, hv⟩ := h.get e
      simp only [List.getD, e, e2]
      exact hv
section
variable {G G' : Gx} {W : Wd} {n : Nat} {H : Hp}
theorem spF.gx (s : SameG G G') {C : Call} {f : Nat} {vs : List V} {Q : VK} {E : XK} (h : spF G C f vs H Q E) : spF G' C f vs H Q E := by
  obtain ⟨W, bd, base, st, ds, r, dv, hl, a⟩ := h
  refine ⟨W, bd, base, st, ds, RS.gx s r, DVs.gx s dv, by rw [s.ps]; exact hl, ?_⟩
  cases e : C f ds st base with
  | ok d st' =>
    rw [e] at a
    exact fun v W' H' p dv => a v W' H' ⟨p.ext, RS.gx s.symm p.rs⟩ (DV.gx s.symm dv)
  | exc d st' =>
    rw [e] at a
    exact fun cls dd W' H' p x => a cls dd W' H' ⟨p.ext, RS.gx s.symm p.rs⟩ (ExcR.gx s.symm x)
  | bad => rw [e] at a; exact a
end
/-- the program's facts, and the law's promise -/
theorem law_facts {P : Program} {w : World} {K : PySem.W.Frag} {h : Heap} {mg : Str → Option Value} {f : Addr} {l : Lw} {i0 lv : Nat} {x0 : Df}
    (all : AllD l.tx l.xs) (allK : AllK l.xs l.kbs) (allX : AllX l.exs) (hex : ∀ p ∈ l.exms, p.1 < l.exs.length ∧ p.2.1 < l.exs.length) (hbare : ∀ (i : Nat) (q : Xd), l.exs[i]? = some q → q.ini = none → q.bare = true → q.fl = []) (hkx : ∀ p ∈ l.kits, p.1 < l.exs.length ∧ p.2.1 < l.exs.length) (hht : (l.hots.all fun i => hotB l.tx l.xs i) = true) (e0 : l.xs[i0]? = some x0) (hn0 : x0.d.at_.1 = ("law" : Str)) (hp0 : x0.ps = [("script" : Str)])
    (KX : K.In h) (hG : h.Ns mainGlobals mg) (hfa : mg ("law" : Str) = some (.ref f)) (c : SaysX l.facts l.defs l.fxk K) :
    ∃ (G : Nat → FuncData) (gx0 : Gx), gx0.K = K ∧ (gx0.ps i0).length = 1 ∧ (∀ (s : Shared) (v : Value), BindsTo s (G i0) ⟨[v], []⟩ [("script", v)]) ∧ ∀ base : Heap, K.In base → base.Ns mainGlobals mg → 
      FnOk P w K mg base (L2N.CX P w) (lv + 2) f (G i0) [("script" : Str)] (spF gx0 (callN (tbOf l.xs) lv) i0) := by
  obtain ⟨xs, exs, exms, consts, kbs, kits, hots⟩ := l
  generalize hL : (⟨xs, exs, exms, consts, kbs, kits, hots⟩ : Lw) = L at all c hht
  have hx : L.xs = xs := by rw [← hL]
  have hk : L.kbs = kbs := by rw [← hL]
  have hxs : L.exs = exs := by rw [← hL]
  dsimp only at allK allX hex hbare hkx e0 ⊢
  have at0 : ∀ (i : Nat) (x : Df), xs[i]? = some x → He.fAd K x.d.at_ = He.ga K x.d.at_.1 := fun i x e => by
    have z := all.get (by rw [← hx] at e; exact e)
    unfold He.fAd
    rw [z.at_]
  have mem1 : ∀ {fa : He.Fa}, fa ∈ L.xs.map (fun x => He.Fa.glo x.d.at_.1) → fa.ok K = true := fun h => factM c.d (List.mem_append_left _ h)
  have mem2 : ∀ {fa : He.Fa}, fa ∈ biNames.map He.Fa.free → fa.ok K = true := fun h => factM c.d (List.mem_append_right _ (List.mem_append_left _ h))
  have mem3 : ∀ {fa : He.Fa}, fa ∈ L.exs.map (fun q => He.Fa.glo q.x) → fa.ok K = true := fun h => factM c.d (List.mem_append_right _ (List.mem_append_right _ (List.mem_append_left _ h)))
  have mem4 : ∀ {fa : He.Fa}, (fa ∈ L.exs.flatMap (fun q => match q.ini with
    | some _ => q.fl.map fun f => He.Fa.noat q.x f
    | none => [])) → fa.ok K = true := fun h => factM c.d (List.mem_append_right _ (List.mem_append_right _ (List.mem_append_right _ (List.mem_append_left _ h))))
  have mem5 : ∀ {fa : He.Fa}, (fa ∈ L.exms.map fun p => He.Fa.exm (L.xn p.1) (L.xn p.2.1) p.2.2) → fa.ok K = true := fun h => factM c.d (List.mem_append_right _ (List.mem_append_right _ (List.mem_append_right _ (List.mem_append_right _ h))))
  have fns : ∀ (i : Nat) (x : Df), xs[i]? = some x → mg x.d.at_.1 = some (.ref (He.ga K x.d.at_.1)) := fun i x e =>
    He.glo_ok KX hG (mem1 (List.mem_map.mpr ⟨x, by rw [hx]; exact List.mem_of_getElem? e, rfl⟩))
  have xgl : ∀ (i : Nat) (q : Xd), exs[i]? = some q → mg q.x = some (.ref (He.ga K q.x)) := fun i q e =>
    He.glo_ok KX hG (mem3 (List.mem_map.mpr ⟨q, by rw [hxs]; exact List.mem_of_getElem? e, rfl⟩))
  have dmem : ∀ d ∈ L.defs, ∃ fd, FunD K d.name d.qual d.params d.body d.scope (d.dvs K) (d.kws K) (He.fAd K d.at_) fd := fun d hd => by
    obtain ⟨i, hi⟩ := List.getElem?_of_mem hd
    exact c.d.def_ i hi
  have ex : ∀ i : Nat, ∃ fd : FuncData, ∀ x : Df, xs[i]? = some x → FunD K x.d.name x.d.qual x.d.params x.d.body x.d.scope [] [] (He.ga K x.d.at_.1) fd := by
    have one : ∀ (i : Nat) (x : Df), xs[i]? = some x → ∃ fd, FunD K x.d.name x.d.qual x.d.params x.d.body x.d.scope [] [] (He.ga K x.d.at_.1) fd := fun i x e => by
      obtain ⟨fd, F⟩ := dmem x.d (List.mem_append_left _ (List.mem_map.mpr ⟨x, by rw [hx]; exact List.mem_of_getElem? e, rfl⟩))
      have z := all.get (by rw [← hx] at e; exact e)
      unfold He.DefD.dvs He.DefD.kws at F
      rw [z.dfl, z.kwd, at0 i x e] at F
      exact ⟨fd, F⟩
    intro i
    cases e : xs[i]? with
    | none =>
      obtain ⟨fd, _⟩ := one i0 x0 e0
      exact ⟨fd, fun x z => by cases z⟩
    | some x =>
      obtain ⟨fd, F⟩ := one i x e
      exact ⟨fd, fun y z => by cases z; exact F⟩
  obtain ⟨fd, hfd⟩ := Classical.skolem.mp ex
  have ad : ∀ (i : Nat) (x : Df), xs[i]? = some x → DefOk L.tx x.d x.ps x.N x.fd := fun i x e => all.get (by rw [← hx] at e; exact e)
  have bnd : ∀ (i : Nat) (x : Df), xs[i]? = some x → Binds K (fd i) x.ps [] := fun i x e => FunD.bindsN (hfd i x e) ((ad i x e).b)
  refine ⟨fd, { P := P, w := w, K := K, mg := mg, base := h, fa := fun i => match xs[i]? with | some x => He.ga K x.d.at_.1 | none => 0, ca := fun c => match exs[c]? with | some q => He.ga K q.x | none => 0, fn := fun _ => "", fd := fd, ps := fun i => match xs[i]? with | some x => x.ps | none => [], cf := fun c => match exs[c]? with | some q => q.fl | none => [] }, rfl, by dsimp only; rw [e0]; show x0.ps.length = 1; rw [hp0]; rfl, fun s v => ?_, fun base _ _ => ?_⟩
  · have z := FunD.bindsA (ps := x0.ps) (hfd i0 x0 e0) (ad _ _ e0).b s [v] (by rw [hp0]; rfl)
    rw [hp0] at z
    exact z
  generalize hgx : ({ P := P, w := w, K := K, mg := mg, base := base, fa := fun i => match xs[i]? with | some x => He.ga K x.d.at_.1 | none => 0, ca := fun c => match exs[c]? with | some q => He.ga K q.x | none => 0, fn := fun _ => "", fd := fd, ps := fun i => match xs[i]? with | some x => x.ps | none => [], cf := fun c => match exs[c]? with | some q => q.fl | none => [] } : Gx) = gx
  have hfa1 : ∀ (i : Nat) (x : Df), xs[i]? = some x → gx.fa i = He.ga K x.d.at_.1 := fun i x e => by
    rw [← hgx]; dsimp only; rw [e]
  have hps1 : ∀ (i : Nat) (x : Df), xs[i]? = some x → gx.ps i = x.ps := fun i x e => by
    rw [← hgx]; dsimp only; rw [e]
  have hca1 : ∀ (i : Nat) (q : Xd), exs[i]? = some q → gx.ca i = He.ga K q.x := fun i q e => by
    rw [← hgx]; dsimp only; rw [e]
  have hcf1 : ∀ (i : Nat) (q : Xd), exs[i]? = some q → gx.cf i = q.fl := fun i q e => by
    rw [← hgx]; dsimp only; rw [e]
  have hK : gx.K = K := by rw [← hgx]
  have hmg : gx.mg = mg := by rw [← hgx]
  have hfdg : gx.fd = fd := by rw [← hgx]
  have hpn : gx.pn = [] := by rw [← hgx]
  have hP : gx.P = P := by rw [← hgx]
  have hw : gx.w = w := by rw [← hgx]
  have hb : gx.base = base := by rw [← hgx]
  have xn1 : ∀ (i : Nat) (q : Xd), exs[i]? = some q → L.xn i = q.x := fun i q e => by unfold Lw.xn; rw [hxs, e]
  have g : Gok gx L.tx := by
    refine ⟨fun i y e => ?_, fun i y e => ?_, fun i y e => ?_, fun y hy => ?_, fun q hq => ?_, fun i x fl e => ?_, fun p hp => ?_, fun i x e => ?_, fun p hp => ?_, fun p hp W n H => ?_⟩
    · cases e1 : xs[i]? with
      | none => simp [Lw.tx, hx, e1] at e
      | some x =>
        have : y = x.d.at_.1 := by simpa [Lw.tx, hx, e1] using e.symm
        rw [this, hmg, hfa1 i x e1]
        exact fns i x e1
    · cases e1 : xs[i]? with
      | none => simp [Lw.tx, hx, e1] at e
      | some x =>
        rw [hK, hfa1 i x e1]
        exact (hfd i x e1).kp
    · cases e1 : xs[i]? with
      | none => simp [Lw.tx, hx, e1] at e
      | some x =>
        rw [hK, hfdg, hps1 i x e1]
        exact bnd i x e1
    · rw [hmg]
      exact He.free_ok KX hG (mem2 (List.mem_map.mpr ⟨y, hy, rfl⟩))
    · obtain ⟨x, e1, hb⟩ := allK.get (by rw [← hk]; exact hq)
      rw [hK, hfdg, hps1 _ x e1]
      obtain ⟨oc, od, dV, kV, doc, pm, an, cdv, ct, osl, e2, lk, hcd, hD, _⟩ := (hfd _ x e1).ex
      refine ⟨fun s us ws X l1 l2 => ?_, fun r1 r2 => r1.append (getD_vals r2)⟩
      rw [e2]
      rcases hD with ⟨_, rfl⟩ | ⟨z, _⟩
      · exact .of_eq (hb kV doc pm an cdv ct us ws l1 l2)
      · exact absurd rfl z
    · have e' : (match exs[i]? with | some ⟨x, fl, some _, _⟩ => some (x, fl) | some ⟨x, _, none, true⟩ => some (x, []) | _ => none) = some (x, fl) := by rw [← hxs]; exact e
      cases e1 : exs[i]? with
      | none => rw [e1] at e'; cases e'
      | some q =>
        obtain ⟨qx, qfl, qi, qb⟩ := q
        cases qi with
        | none =>
          cases qb with
          | false => rw [e1] at e'; cases e'
          | true =>
            rw [e1] at e'
            cases e'
            have hm : (⟨x, qfl, none, true⟩ : Xd) ∈ L.exs := by rw [hxs]; exact List.mem_of_getElem? e1
            have fx : (Fx.bar x).ok K = true := c.x _ (List.mem_append_left _ (List.mem_append_right _ (List.mem_flatMap.mpr ⟨_, hm, by simp⟩)))
            have e0' := hbare i _ e1 rfl rfl
            dsimp only at e0'
            refine ⟨by rw [hcf1 i _ e1]; exact e0', .inr ⟨rfl, ?_, ?_⟩⟩
            · rw [hmg, hca1 i _ e1]; exact xgl i _ e1
            · rw [hK, hca1 i _ e1]; exact barB_ok fx
        | some fi =>
          rw [e1] at e'
          cases e'
          have io := AllX.get allX e1 fi rfl
          have hm : (⟨x, fl, some fi, qb⟩ : Xd) ∈ L.exs := by rw [hxs]; exact List.mem_of_getElem? e1
          have fx : ∀ {f : Fx}, f ∈ [Fx.xcl x, Fx.ini x] → f.ok K = true := fun {f} hf => c.x f (List.mem_append_left _ (List.mem_append_right _ (List.mem_flatMap.mpr ⟨_, hm, hf⟩)))
          obtain ⟨o1, o2⟩ := xclB_ok (show xclB K (He.ga K x) = true from fx (f := .xcl x) (by simp))
          obtain ⟨i1, i2⟩ := Bool.and_eq_true_iff.mp (show (decide (PySem.W.findIn K (.ref (He.ga K x)) "__init__" = some (some (.ref (He.ma K (He.ga K x) "__init__")))) && decide (PySem.W.typeIn K (.ref (He.ma K (He.ga K x) "__init__")) = some (.type "function"))) = true from fx (f := .ini x) (by simp))
          refine ⟨hcf1 i _ e1, .inl ⟨io.ne, ?_, ?_, ?_, ?_, ?_, ?_, ?_⟩⟩
          · rw [hmg, hca1 i _ e1]; exact xgl i _ e1
          · rw [hK, hca1 i _ e1]; exact o1
          · rw [hK, hca1 i _ e1, hcf1 i _ e1]
            exact fun f hf => He.noat_ok (mem4 (List.mem_flatMap.mpr ⟨_, hm, List.mem_map.mpr ⟨f, hf, rfl⟩⟩))
          · rw [hcf1 i _ e1]; exact io.ne
          · rw [hcf1 i _ e1]; exact io.le
          · rw [hK, hca1 i _ e1]; exact o2
          · obtain ⟨fd2, F⟩ := dmem fi.d (List.mem_append_right _ (List.mem_filterMap.mpr ⟨_, hm, rfl⟩))
            unfold He.DefD.dvs He.DefD.kws at F
            rw [io.dfl, io.kwd] at F
            have ea : He.fAd K fi.d.at_ = He.ma K (He.ga K x) "__init__" := by
              unfold He.fAd
              rw [io.at_]
            rw [ea] at F
            refine ⟨He.ma K (He.ga K x) ("__init__" : Str), fd2, fi.ps, ?_, ?_, ?_, ?_, ?_, ?_⟩
            · rw [hK, hca1 i _ e1]; exact of_decide_eq_true i1
            · rw [hK]; exact of_decide_eq_true i2
            · rw [hK]; exact FunD.bindsN F io.b
            · rw [hK, hcf1 i _ e1]
              intro s v ws X l1
              obtain ⟨oc, od, dV, kV, doc, pm, an, cdv, ct, osl, e2, lk, hcd, hD, _⟩ := F.ex
              rw [e2]
              rcases hD with ⟨_, rfl⟩ | ⟨z, _⟩
              · exact .of_eq (io.kw kV doc pm an cdv ct v ws l1)
              · exact absurd rfl z
            · rw [hcf1 i _ e1]; exact io.l1
            · rw [hK, hca1 i _ e1, hcf1 i _ e1]
              exact init_ok F io.sc io.ck io.l1 io.l2
    · have hp' : p ∈ kits := by
        have : L.kits = kits := by rw [← hL]
        rw [← this]; exact hp
      obtain ⟨b1, b2⟩ := hkx p hp'
      have nm : ∀ i, i < exs.length → gx.ca i = He.ga K (L.xn i) := fun i hi => by
        have e1 : exs[i]? = some exs[i] := List.getElem?_eq_getElem hi
        rw [hca1 i _ e1, xn1 i _ e1]
      have z : ∀ {f : Fx}, f ∈ [Fx.exc (L.xn p.1), Fx.kit (L.xn p.1) (L.xn p.2.1) p.2.2] → f.ok K = true := fun {f} hf => c.x f (List.mem_append_right _ (List.mem_flatMap.mpr ⟨p, hp, hf⟩))
      rw [hK, nm _ b1, nm _ b2]
      exact ⟨excB_ok (z (f := .exc (L.xn p.1)) (by simp)), of_decide_eq_true (z (f := .kit (L.xn p.1) (L.xn p.2.1) p.2.2) (by simp))⟩
    · have e' : (exs[i]?).map Xd.x = some x := by rw [← hxs]; exact e
      cases e1 : exs[i]? with
      | none => rw [e1] at e'; cases e'
      | some q =>
        rw [e1] at e'
        cases e'
        rw [hmg, hca1 i q e1]
        exact xgl i q e1
    · have z := He.exm_ok (mem5 (List.mem_map.mpr ⟨p, hp, rfl⟩))
      have nm : ∀ i, i < exs.length → gx.ca i = He.ga K (L.xn i) := fun i hi => by
        have e1 : exs[i]? = some exs[i] := List.getElem?_eq_getElem hi
        rw [hca1 i _ e1, xn1 i _ e1]
      have hp' : p ∈ exms := by
        have : L.exms = exms := by rw [← hL]
        rw [← this]; exact hp
      obtain ⟨b1, b2⟩ := hex p hp'
      rw [hK, nm _ b1, nm _ b2]
      exact z
    · have z := c.x _ (List.mem_append_left _ (List.mem_append_left _ (List.mem_map.mpr ⟨p, hp, rfl⟩)))
      have z' : (match PySem.W.nsIn K mainGlobals (Str.ofString p.1) with
        | some (some u) => cstV K p.2 u
        | _ => false) = true := z
      cases e1 : PySem.W.nsIn K mainGlobals (Str.ofString p.1) with
      | none => rw [e1] at z'; cases z'
      | some o => cases o with
        | none => rw [e1] at z'; cases z'
        | some u =>
          rw [e1] at z'
          obtain ⟨v, r, dv⟩ := cstV_ok hK z' (W := W) (n := n) (H := H)
          exact ⟨u, v, by rw [hmg]; exact PySem.W.mg_of KX hG e1, r, dv⟩
  have hd : ∀ i fd', tbOf xs i = some fd' → Dok gx L.tx i fd' := fun i fd' e => by
    cases e1 : xs[i]? with
    | none => simp [tbOf, e1] at e
    | some x =>
      have e2 : fd' = x.fd := by simpa [tbOf, e1] using e.symm
      have z := ad i x e1
      refine ⟨⟨x.d.name, x.d.qual, x.d.params, x.d.body, x.d.scope, [], [], x.N, ?_, ?_, ?_, ?_, ?_, fun hi => ?_⟩, by rw [hK, hfdg, hps1 i x e1]; exact bnd i x e1⟩
      · rw [hK, hfdg, hfa1 i x e1]; exact hfd i x e1
      · rw [hps1 i x e1]; exact z.sc
      · rw [hps1 i x e1, e2]; exact z.np
      · rw [e2]; exact z.ns
      · rw [e2]; exact z.ck
      · have y := List.all_eq_true.mp hht i hi
        unfold hotB at y
        rw [hx, e1] at y
        rw [e2]
        exact y
  have F := (calls_all g rfl hpn (tbOf xs) hd lv).1 i0
  have hfa0 : gx.fa i0 = f := by
    rw [hfa1 i0 x0 e0, hn0]
    have := fns i0 x0 e0
    rw [hn0, hfa] at this
    injection this with this
    injection this with this
    exact this.symm
  rw [hfa0, hps1 i0 x0 e0, hp0, hfdg, hK, hmg] at F
  rw [hP, hw, hb] at F
  refine F.imp fun vs H Q E q => ?_
  rw [hx] at q
  refine spF.gx ?_ q
  rw [← hgx]
  exact ⟨rfl, rfl, rfl, rfl, rfl, rfl⟩
/-- the law's answer -/
theorem law_sp {gx : Gx} {C : Call} {i0 : Nat} {H : Hp} {a : Addr} {ns : List Int} (hps : (gx.ps i0).length = 1) (hS : SqL gx.K H a (ns.map V.int)) (hev : ∃ st, C i0 [.frz (ns.map D.int)] [] 0 = .ok (.bl true) st) :
    spF gx C i0 [.ref a] H (fun v _ => v = .bl true) fun _ _ _ => False := by
  obtain ⟨st, hev⟩ := hev
  refine ⟨⟨fun _ => 0, fun b => b = a ∧ H a ≠ none⟩, fun _ => 0, 0, [], [.frz (ns.map D.int)], ⟨fun k ob e => by simp at e, fun j k hj => ?_, fun k hk => ?_, fun b hb => ?_, fun k hk => by omega, by simp⟩, ?_, ?_, ?_⟩
  · obtain ⟨_, e, _⟩ := hj; simp at e
  · obtain ⟨_, e, _⟩ := hk; simp at e
  · obtain ⟨rfl, hb⟩ := hb
    cases e : H b with
    | none => exact absurd e hb
    | some o => exact ⟨o, rfl⟩
  · refine ⟨.ref a, [], rfl, ⟨a, ns.map V.int, rfl, ?_, ?_⟩, rfl⟩
    · rcases hS with h | h
      · refine .inl ⟨h, rfl, ?_⟩
        rcases h with h | ⟨o, h⟩ <;> (rw [h]; simp)
      · exact .inr h
    · induction ns with
      | nil => rfl
      | cons n ns ih =>
        clear hev hS
        have : ∀ ms : List Int, DVs gx ⟨fun _ => 0, fun b => b = a ∧ H a ≠ none⟩ ([] : Sto).length H (ms.map D.int) (ms.map V.int) := by
          intro ms
          induction ms with
          | nil => rfl
          | cons m ms ih => exact ⟨_, _, rfl, rfl, ih⟩
        exact this (n :: ns)
  · rw [hps]; rfl
  · rw [hev]
    intro v W' H' p dv
    exact dv
/-- THE END: what the head's Hook says, and the evaluator's answer, are the law's walk -/
theorem law_walk {l : PySem.W.OpenLaw} {n lv : Nat} {q : Program} {loose : List Str} {XP : (Str → Option Value) → Heap → Prop} {d : DefRec} {L : Lw} {i0 : Nat} {x0 : Df}
    (hn : l.most = some n) (hn2 : n ≤ sizeLine) (hdf : d.params.defaults = []) (hr : Room (lv + 2) callerA) (hd : d.name = ("law" : Str))
    (all : AllD L.tx L.xs) (allK : AllK L.xs L.kbs) (allX : AllX L.exs) (hex : ∀ p ∈ L.exms, p.1 < L.exs.length ∧ p.2.1 < L.exs.length) (hbare : ∀ (i : Nat) (q : Xd), L.exs[i]? = some q → q.ini = none → q.bare = true → q.fl = []) (hkx : ∀ p ∈ L.kits, p.1 < L.exs.length ∧ p.2.1 < L.exs.length) (hht : (L.hots.all fun i => hotB L.tx L.xs i) = true) (e0 : L.xs[i0]? = some x0) (hn0 : x0.d.at_.1 = ("law" : Str)) (hp0 : x0.ps = [("script" : Str)])
    (hev : ∀ ns : List Int, ns.length ≤ n → (∀ z ∈ ns, Builtin.Int.intBits z ≤ 1048576) → ∃ st, callN (tbOf L.xs) lv i0 [.frz (ns.map D.int)] [] 0 = .ok (.bl true) st) :
    PySem.W.WalkO q loose XP (fun _ h => ∃ K : PySem.W.Frag, K.In h ∧ SaysX L.facts L.defs L.fxk K) l.row.toRowW d [] (fun f vs => PySem.call f vs) := by
  refine LamX.walk_ofTsE (k := lv + 2) (n := n) (x := ("script" : Str)) (CX := fun w => L2N.CX l.prog w) hn hn2 hdf hr (fun w mg fa h Y G hmg => ?_) (fun w H s e s' z => ?_)
  · obtain ⟨K, KX, c⟩ := Y
    rw [hd] at hmg
    obtain ⟨fd, gx0, hK, hps, hb, hF⟩ := law_facts (P := l.prog) (w := w) (lv := lv) all allK allX hex hbare hkx hht e0 hn0 hp0 KX G hmg c
    refine ⟨K, KX, fd i0, [], spF gx0 (callN (tbOf L.xs) lv) i0, by simp, by simp, by simp, hb, fun H a ns hl hbits _ hS => law_sp hps (by rw [hK]; exact hS) (hev ns hl hbits), fun base hk hg _ => hF base hk hg⟩
  · obtain ⟨a, B, H', cls, dd, _, _, _, _, _, _, _, z⟩ := z
    exact z
end Rf

/-! Plain facts of the evaluator. -/
namespace Rf
@[simp] theorem bind_ok' {α β : Type} (a : α) (st : Sto) (f : α → Sto → R β) : (R.ok a st).bind f = f a st := rfl
@[simp] theorem bind_bad' {α β : Type} (f : α → Sto → R β) : (R.bad : R α).bind f = .bad := rfl
@[simp] theorem opt_some' {α : Type} (a : α) (st : Sto) : opt (some a) st = .ok a st := rfl
@[simp] theorem opt_none' {α : Type} (st : Sto) : opt (none : Option α) st = .bad := rfl
@[simp] theorem vw_int' (st : Sto) (i : Int) : vw st (.int i) = .int i := rfl
@[simp] theorem vw_bl' (st : Sto) (b : Bool) : vw st (.bl b) = .bl b := rfl
@[simp] theorem vw_non' (st : Sto) : vw st .non = .non := rfl
@[simp] theorem vw_str' (st : Sto) (s : List Nat) : vw st (.str s) = .str s := rfl
@[simp] theorem vw_tup' (st : Sto) (ds : List D) : vw st (.tup ds) = .tup ds := rfl
@[simp] theorem vw_lst' (st : Sto) (ds : List D) : vw st (.lst ds) = .lst ds := rfl
@[simp] theorem vw_frz' (st : Sto) (ds : List D) : vw st (.frz ds) = .frz ds := rfl
@[simp] theorem vw_dct' (st : Sto) (ks : List Ky) (ds : List D) : vw st (.dct ks ds) = .dct ks ds := rfl
/-- the turns of a comprehension, each with its answer -/
theorem compD_pure {f : D → Sto → R (Option D)} {st : Sto} (g : D → Option D) : ∀ {xs : List D}, (∀ x ∈ xs, f x st = .ok (g x) st) → compD f (fun _ => true) xs st = .ok (xs.filterMap g) st
  | [], _ => rfl
  | x :: xs, h => by
    show (if true = true then (match f x st with
      | .ok y st => (match compD f (fun _ => true) xs st with
        | .ok ys st => .ok (match y with | some y => y :: ys | none => ys) st
        | _ => .bad)
      | _ => .bad) else R.bad) = _
    rw [if_pos rfl, h x List.mem_cons_self]
    dsimp only
    rw [compD_pure g fun y hy => h y (List.mem_cons_of_mem _ hy)]
    dsimp only
    cases e : g x with
    | none => rw [List.filterMap_cons_none e]
    | some y => rw [List.filterMap_cons_some e]
/-- a loop's invariant by the items that are done -/
theorem forD_inv {f : D → En → Sto → Fl} (I : List D → En → Sto → Prop) : ∀ {xs done : List D} {ρ : En} {st : Sto}, I done ρ st →
    (∀ (d : List D) (x : D) (r : List D), done ++ xs = d ++ x :: r → done.length ≤ d.length → ∀ (ρ : En) (st : Sto), I d ρ st → ∃ ρ' st', (f x ρ st = .nx ρ' st' ∨ f x ρ st = .cnt ρ' st') ∧ I (d ++ [x]) ρ' st') →
    ∃ ρ' st', forD f (fun _ => true) xs ρ st = .nx ρ' st' ∧ I (done ++ xs) ρ' st'
  | [], done, ρ, st, h, _ => ⟨ρ, st, rfl, by rw [List.append_nil]; exact h⟩
  | x :: xs, done, ρ, st, h, step => by
    obtain ⟨ρ1, st1, e, h1⟩ := step done x xs rfl (Nat.le_refl _) ρ st h
    obtain ⟨ρ2, st2, e2, h2⟩ := forD_inv I (xs := xs) (done := done ++ [x]) (ρ := ρ1) (st := st1) h1 fun d y r hd hl ρ st hi => step d y r (by rw [← hd]; simp) (by simp at hl; omega) ρ st hi
    refine ⟨ρ2, st2, ?_, by rw [List.append_assoc] at h2; exact h2⟩
    show (if true = true then (match f x ρ st with
      | .nx ρ st => forD f (fun _ => true) xs ρ st
      | .cnt ρ st => forD f (fun _ => true) xs ρ st
      | .brk ρ st => .nx ρ st
      | .ret d st => .ret d st
      | .exc d ρ st => .exc d ρ st
      | .bad => .bad) else Fl.bad) = _
    rw [if_pos rfl]
    rcases e with e | e <;> (rw [e]; exact e2)
/-- a call whose answer is plain, what it made being dropped -/
theorem callR_sc {C : Call} {base f : Nat} {ds : List D} {st : Sto} {d : D} {g : Sto} (h : C f ds st st.length = .ok d (st ++ g)) (hp : plain d = true) : callR C base true f ds st = .ok d st := by
  show (match C f ds st st.length with
      | .ok d st' => if plain d then R.ok d (st'.take st.length) else R.bad
      | .exc d st' => R.exc d (st'.take st.length)
      | .bad => R.bad) = _
  rw [h]
  dsimp only
  rw [if_pos hp]
  simp
theorem callR_un {C : Call} {base f : Nat} {ds : List D} {st : Sto} : callR C base false f ds st = C f ds st base := rfl
theorem compD_map {α : Type} {f : D → Sto → R (Option D)} {st : Sto} {φ : α → D} (g : α → Option D) {xs : List α} (h : ∀ x ∈ xs, f (φ x) st = .ok (g x) st) : compD f (fun _ => true) (xs.map φ) st = .ok (xs.filterMap g) st := by
  induction xs with
  | nil => rfl
  | cons x xs ih =>
    show (if true = true then (match f (φ x) st with
      | .ok y st => (match compD f (fun _ => true) (xs.map φ) st with
        | .ok ys st => .ok (match y with | some y => y :: ys | none => ys) st
        | _ => .bad)
      | _ => .bad) else R.bad) = _
    rw [if_pos rfl, h x List.mem_cons_self]
    dsimp only
    rw [ih fun y hy => h y (List.mem_cons_of_mem _ hy)]
    dsimp only
    cases e : g x with
    | none => rw [List.filterMap_cons_none e]
    | some y => rw [List.filterMap_cons_some e]
theorem intsOf_map {α : Type} (f : α → Int) : ∀ xs : List α, intsOf (xs.map fun x => .int (f x)) = some (xs.map f)
  | [] => rfl
  | x :: xs => by show (intsOf (xs.map fun x => .int (f x))).map (f x :: ·) = _; rw [intsOf_map f xs]; rfl
theorem boolsOf_map {α : Type} (f : α → Bool) : ∀ xs : List α, boolsOf (xs.map fun x => .bl (f x)) = some (xs.map f)
  | [] => rfl
  | x :: xs => by show (boolsOf (xs.map fun x => .bl (f x))).map (f x :: ·) = _; rw [boolsOf_map f xs]; rfl
theorem filterMap_some' {α β : Type} (f : α → β) (xs : List α) : xs.filterMap (fun x => some (f x)) = xs.map f := by simp
theorem compDD_map {α : Type} {f : D → Sto → R (List D)} {st : Sto} {φ : α → D} (g : α → List D) {xs : List α} (h : ∀ x ∈ xs, f (φ x) st = .ok (g x) st) : compDD f (fun _ => true) (xs.map φ) st = .ok (xs.flatMap g) st := by
  induction xs with
  | nil => rfl
  | cons x xs ih =>
    show (if true = true then (match f (φ x) st with
      | .ok y st => (match compDD f (fun _ => true) (xs.map φ) st with
        | .ok ys st => .ok (y ++ ys) st
        | _ => .bad)
      | _ => .bad) else R.bad) = _
    rw [if_pos rfl, h x List.mem_cons_self]
    dsimp only
    rw [ih fun y hy => h y (List.mem_cons_of_mem _ hy)]
    rw [List.flatMap_cons]
/-- the pairs of neighbours -/
theorem zip_next {α : Type} (φ : α → D) (xs : List α) : (xs.map φ).zipWith (fun d e => D.tup [d, e]) (cutL (xs.map φ) (some 1) none) = (xs.zip xs.tail).map fun p => D.tup [φ p.1, φ p.2] := by
  have e : cutL (xs.map φ) (some 1) none = xs.tail.map φ := by
    cases xs with
    | nil => rfl
    | cons x xs =>
      show ((φ x :: xs.map φ).drop (min (1 : Int).toNat (φ x :: xs.map φ).length)).take _ = _
      have : min (1 : Int).toNat (φ x :: xs.map φ).length = 1 := by simp
      rw [this]
      simp [sIx]
      exact List.take_of_length_le (by simp)
  rw [e, List.zipWith_map]
  rw [List.zip, List.map_zipWith]
theorem forD_map {α : Type} {f : D → En → Sto → Fl} {φ : α → D} (I : List α → En → Sto → Prop) {xs : List α} {ρ : En} {st : Sto} (h0 : I [] ρ st)
    (step : ∀ (d : List α) (x : α) (r : List α), xs = d ++ x :: r → ∀ (ρ : En) (st : Sto), I d ρ st → ∃ ρ' st', (f (φ x) ρ st = .nx ρ' st' ∨ f (φ x) ρ st = .cnt ρ' st') ∧ I (d ++ [x]) ρ' st') :
    ∃ ρ' st', forD f (fun _ => true) (xs.map φ) ρ st = .nx ρ' st' ∧ I xs ρ' st' := by
  have key : ∀ (r d : List α) (ρ : En) (st : Sto), xs = d ++ r → I d ρ st → ∃ ρ' st', forD f (fun _ => true) (r.map φ) ρ st = .nx ρ' st' ∧ I xs ρ' st' := by
    intro r
    induction r with
    | nil => intro d ρ st e h; exact ⟨ρ, st, rfl, by rw [e, List.append_nil]; exact h⟩
    | cons x r ih =>
      intro d ρ st e h
      obtain ⟨ρ1, st1, e1, h1⟩ := step d x r e ρ st h
      obtain ⟨ρ2, st2, e2, h2⟩ := ih (d ++ [x]) ρ1 st1 (by rw [e]; simp) h1
      refine ⟨ρ2, st2, ?_, h2⟩
      show (if true = true then (match f (φ x) ρ st with
        | .nx ρ st => forD f (fun _ => true) (r.map φ) ρ st
        | .cnt ρ st => forD f (fun _ => true) (r.map φ) ρ st
        | .brk ρ st => .nx ρ st
        | .ret d st => .ret d st
        | .exc d ρ st => .exc d ρ st
        | .bad => .bad) else Fl.bad) = _
      rw [if_pos rfl]
      rcases e1 with e1 | e1 <;> (rw [e1]; exact e2)
  exact key xs [] ρ st rfl h0
@[simp] theorem last_get (st : Sto) (o : Ob) : (st ++ [o])[st.length]? = some o := by simp
@[simp] theorem last_set (st : Sto) (o o' : Ob) : (st ++ [o]).set st.length o' = st ++ [o'] := by simp
@[simp] theorem vw_last_lst (st : Sto) (ds : List D) : vw (st ++ [.lst ds]) (.ref st.length) = .lst ds := by simp [vw]
@[simp] theorem vw_last_dct (st : Sto) (ks : List Ky) (ds : List D) : vw (st ++ [.dct ks ds]) (.ref st.length) = .dct ks ds := by simp [vw]
@[simp] theorem two_get0 (st : Sto) (a b : Ob) : (st ++ [a, b])[st.length]? = some a := by simp
@[simp] theorem two_get1 (st : Sto) (a b : Ob) : (st ++ [a, b])[st.length + 1]? = some b := by
  rw [List.getElem?_append_right (by omega)]
  simp
@[simp] theorem two_set0 (st : Sto) (a b c : Ob) : (st ++ [a, b]).set st.length c = st ++ [c, b] := by simp
@[simp] theorem two_set1 (st : Sto) (a b c : Ob) : (st ++ [a, b]).set (st.length + 1) c = st ++ [a, c] := by
  rw [List.set_append_right _ _ (by omega)]
  simp
@[simp] theorem vw_two0 (st : Sto) (ks : List Ky) (ds : List D) (b : Ob) : vw (st ++ [.dct ks ds, b]) (.ref st.length) = .dct ks ds := by simp [vw]
@[simp] theorem vw_two1 (st : Sto) (ds : List D) (a : Ob) : vw (st ++ [a, .lst ds]) (.ref (st.length + 1)) = .lst ds := by
  have e := two_get1 st a (.lst ds)
  show (match (st ++ [a, Ob.lst ds])[st.length + 1]? with
    | some (.lst ds) => D.lst ds
    | some (.dct ks vs) => .dct ks vs
    | _ => .ref (st.length + 1)) = _
  rw [e]
@[simp] theorem len_snoc (st : Sto) (a : Ob) : (st ++ [a]).length = st.length + 1 := by simp
@[simp] theorem app_two (st : Sto) (a b : Ob) : st ++ [a] ++ [b] = st ++ [a, b] := by simp
@[simp] theorem mkL_nil (st : Sto) : mkL true [] st = .ok (.ref st.length) (st ++ [.lst []]) := by
  unfold mkL
  rw [if_pos (by simp)]
  rfl
@[simp] theorem mkD_nil (st : Sto) : mkD true [] [] st = .ok (.ref st.length) (st ++ [.dct [] []]) := by
  unfold mkD
  rw [if_pos (by simp)]
  rfl
theorem mkL_unb {ds : List D} {st : Sto} (h : ds.length ≤ SL) : mkL false ds st = .ok (.lst ds) st := by
  unfold mkL
  rw [if_pos h]
  rfl
end Rf

/-! dicts from numbers to numbers -/
namespace Rf
abbrev Wt := List (Int × Int)
def wks (w : Wt) : List Ky := w.map fun p => .inl p.1
def wvs (w : Wt) : List D := w.map fun p => .int p.2
def wget : Wt → Int → Option Int
  | [], _ => none
  | p :: w, k => if p.1 = k then some p.2 else wget w k
def wput (w : Wt) (k v : Int) : Wt := if (wget w k).isSome then w.map fun p => (p.1, if p.1 = k then v else p.2) else w ++ [(k, v)]
theorem dGet_w : ∀ (w : Wt) (k : Int), dGet (wks w) (wvs w) (.inl k) = (wget w k).map .int
  | [], _ => rfl
  | p :: w, k => by
    show (if (Sum.inl p.1 : Ky) = .inl k then some (D.int p.2) else dGet (wks w) (wvs w) (.inl k)) = _
    unfold wget
    by_cases h : p.1 = k
    · rw [if_pos (by rw [h]), if_pos h]; rfl
    · rw [if_neg (by simpa using h), if_neg h]; exact dGet_w w k
theorem hasK_w : ∀ (w : Wt) (k : Int), hasK (wks w) (.inl k) = (wget w k).isSome
  | [], _ => rfl
  | p :: w, k => by
    show (decide ((Sum.inl p.1 : Ky) = .inl k) || hasK (wks w) (.inl k)) = _
    unfold wget
    by_cases h : p.1 = k
    · rw [if_pos h]; simp [h]
    · rw [if_neg h, hasK_w w k]; simp [h]
theorem putVs_w : ∀ (w : Wt) (k v : Int), putVs (wks w) (wvs w) (.inl k) (.int v) = w.map fun p => .int (if p.1 = k then v else p.2)
  | [], _, _ => rfl
  | p :: w, k, v => by
    show (if (Sum.inl p.1 : Ky) = .inl k then D.int v else .int p.2) :: putVs (wks w) (wvs w) (.inl k) (.int v) = _
    rw [putVs_w w k v]
    by_cases h : p.1 = k <;> simp [h]
theorem dPut_w (w : Wt) (k v : Int) : dPut (wks w) (wvs w) (.inl k) (.int v) = (wks (wput w k v), wvs (wput w k v)) := by
  unfold dPut wput
  rw [hasK_w]
  by_cases h : (wget w k).isSome = true
  · rw [if_pos h, if_pos h, putVs_w]
    simp [wks, wvs, Function.comp_def]
  · rw [if_neg h, if_neg h]
    simp [wks, wvs]
theorem wput_len (w : Wt) (k v : Int) : (wput w k v).length ≤ w.length + 1 := by
  unfold wput
  split <;> simp
theorem keyInts_w : ∀ w : Wt, keyInts (wks w) = some (w.map (·.1))
  | [] => rfl
  | p :: w => by
    show (keyInts (wks w)).map (p.1 :: ·) = _
    rw [keyInts_w w]; rfl
/-- its keys, each once -/
def keysOk (w : Wt) : Prop := (w.map (·.1)).Nodup
theorem wget_none {w : Wt} {k : Int} (h : wget w k = none) : k ∉ w.map (·.1) := by
  induction w with
  | nil => simp
  | cons p w ih =>
    unfold wget at h
    split at h
    · cases h
    · rename_i hn
      simp only [List.map_cons, List.mem_cons, not_or]
      exact ⟨fun z => hn z.symm, ih h⟩
theorem wput_keys {w : Wt} {k v : Int} (h : keysOk w) : keysOk (wput w k v) := by
  unfold wput
  split
  · unfold keysOk at h ⊢
    rw [List.map_map]
    exact h
  · rename_i hn
    have hn' : wget w k = none := by cases e : wget w k with
      | none => rfl
      | some _ => rw [e] at hn; exact absurd rfl hn
    unfold keysOk at h ⊢
    rw [List.map_append, List.nodup_append]
    exact ⟨h, by simp, fun a ha b hb => by
      simp at hb; subst hb
      intro z; subst z
      exact wget_none hn' ha⟩
/-- a sum over a dict: Σ f key value -/
def wsum (f : Int → Int → Int) (w : Wt) : Int := (w.map fun p => f p.1 p.2).sum
theorem wsum_app (f : Int → Int → Int) (a b : Wt) : wsum f (a ++ b) = wsum f a + wsum f b := by simp [wsum]
/-- writing changes a linear sum by the difference -/
theorem wsum_put {f : Int → Int → Int} (h0 : ∀ k, f k 0 = 0) {w : Wt} (hk : keysOk w) (k v : Int) : wsum f (wput w k v) = wsum f w + f k v - f k ((wget w k).getD 0) := by
  unfold wput
  by_cases h : (wget w k).isSome = true
  · rw [if_pos h]
    induction w with
    | nil => cases h
    | cons p w ih =>
      unfold keysOk at hk
      rw [List.map_cons, List.nodup_cons] at hk
      unfold wget at h ⊢
      by_cases e : p.1 = k
      · simp only [e, if_true]
        have hn : ∀ q ∈ w, q.1 ≠ k := fun q hq z => hk.1 (by rw [e, ← z]; exact List.mem_map.mpr ⟨q, hq, rfl⟩)
        have : (w.map fun p => (p.1, if p.1 = k then v else p.2)) = w := by
          have : ∀ w : Wt, (∀ q ∈ w, q.1 ≠ k) → (w.map fun p => (p.1, if p.1 = k then v else p.2)) = w := by
            intro w
            induction w with
            | nil => intro _; rfl
            | cons q w ih => intro hq; rw [List.map_cons, ih fun x hx => hq x (List.mem_cons_of_mem _ hx), if_neg (hq q List.mem_cons_self)]
          exact this w hn
        simp only [wsum, List.map_cons, List.sum_cons, e, if_true, this, Option.getD_some]
        omega
      · simp only [e, if_false] at h ⊢
        have ih := ih hk.2 h
        simp only [wsum, List.map_cons, List.sum_cons, e, if_false] at ih ⊢
        omega
  · rw [if_neg h]
    have hn' : wget w k = none := by cases e : wget w k with
      | none => rfl
      | some _ => rw [e] at h; exact absurd rfl h
    rw [hn', wsum_app]
    simp [wsum, h0]
/-! sorted -/
theorem insI_prm (x : Int) : ∀ xs : List Int, (insI x xs).Perm (x :: xs)
  | [] => .refl _
  | y :: ys => by
    unfold insI
    split
    · exact .refl _
    · exact ((insI_prm x ys).cons y).trans (.swap x y ys)
theorem sortI_prm : ∀ xs : List Int, (sortI xs).Perm xs
  | [] => .refl _
  | x :: xs => (insI_prm x (sortI xs)).trans ((sortI_prm xs).cons x)
def ascOr : List Int → Prop
  | [] => True
  | x :: xs => (∀ y ∈ xs, x ≤ y) ∧ ascOr xs
theorem insI_ascO {x : Int} : ∀ {xs : List Int}, ascOr xs → ascOr (insI x xs)
  | [], _ => ⟨by simp, trivial⟩
  | y :: ys, h => by
    unfold insI
    split
    · rename_i hl
      exact ⟨fun z hz => by
        rcases List.mem_cons.mp hz with rfl | hz
        · exact hl
        · have := h.1 z hz; omega, h⟩
    · rename_i hl
      refine ⟨fun z hz => ?_, insI_ascO h.2⟩
      rcases List.mem_cons.mp ((insI_prm x ys).mem_iff.mp hz) with rfl | hz
      · omega
      · exact h.1 z hz
theorem sortI_ascO : ∀ xs : List Int, ascOr (sortI xs)
  | [] => trivial
  | x :: xs => insI_ascO (sortI_ascO xs)
end Rf

/-! What is wanted of an answer: walking forward. -/
namespace Rf
/-- an answer, and what is wanted of it (shut: nothing is to unfold it) -/
structure OkR {α : Type} (r : R α) (Q : α → Sto → Prop) : Prop where
  out : ∃ a st, r = .ok a st ∧ Q a st
theorem okr_ok {α : Type} {a : α} {st : Sto} {Q : α → Sto → Prop} : OkR (.ok a st) Q ↔ Q a st := ⟨fun ⟨_, _, e, h⟩ => by cases e; exact h, fun h => ⟨_, _, rfl, h⟩⟩
theorem OkR.mono {α : Type} {r : R α} {Q Q' : α → Sto → Prop} (h : OkR r Q) (hq : ∀ a st, Q a st → Q' a st) : OkR r Q' := let ⟨a, st, e, g⟩ := h.out; ⟨a, st, e, hq a st g⟩
theorem OkR.eq {α : Type} {r : R α} {Q : α → Sto → Prop} (h : OkR r Q) : ∃ a st, r = .ok a st ∧ Q a st := h.out
theorem OkR.of_eq {α : Type} {r : R α} {a : α} {st : Sto} {Q : α → Sto → Prop} (e : r = .ok a st) (h : Q a st) : OkR r Q := ⟨a, st, e, h⟩
theorem okr_bind {α β : Type} {r : R α} {f : α → Sto → R β} {Q : β → Sto → Prop} : OkR (r.bind f) Q ↔ OkR r fun a st => OkR (f a st) Q := by
  constructor
  · intro h
    cases r with
    | ok a st => exact okr_ok.mpr h
    | exc d st => obtain ⟨_, _, e, _⟩ := h.out; cases e
    | bad => obtain ⟨_, _, e, _⟩ := h.out; cases e
  · intro h
    obtain ⟨a, st, e, g⟩ := h.out
    rw [e]; exact g
theorem okr_opt {α : Type} {o : Option α} {st : Sto} {Q : α → Sto → Prop} : OkR (opt o st) Q ↔ ∃ a, o = some a ∧ Q a st := by
  cases o with
  | none =>
    constructor
    · intro h
      obtain ⟨_, _, e, _⟩ := h.out
      cases e
    · rintro ⟨_, h, _⟩
      cases h
  | some a => exact ⟨fun h => ⟨a, rfl, okr_ok.mp h⟩, fun ⟨b, e, h⟩ => by cases e; exact okr_ok.mpr h⟩
/-- what a def's end must be -/
structure EndR (Q : D → Sto → Prop) (r : Fl) : Prop where
  out : (∃ d st, r = .ret d st ∧ Q d st) ∨ ∃ ρ st, r = .nx ρ st ∧ Q .non st
theorem endr_ret {Q : D → Sto → Prop} {d : D} {st : Sto} : EndR Q (.ret d st) ↔ Q d st := by
  constructor
  · intro h
    rcases h.out with ⟨_, _, e, g⟩ | ⟨_, _, e, g⟩
    · cases e; exact g
    · cases e
  · intro h
    exact ⟨.inl ⟨_, _, rfl, h⟩⟩
theorem endr_nx {Q : D → Sto → Prop} {ρ : En} {st : Sto} : EndR Q (.nx ρ st) ↔ Q .non st := by
  constructor
  · intro h
    rcases h.out with ⟨_, _, e, g⟩ | ⟨_, _, e, g⟩
    · cases e
    · cases e; exact g
  · intro h
    exact ⟨.inr ⟨_, _, rfl, h⟩⟩
section
variable {C : Call} {base : Nat} {P : Fl → Prop} {ρ : En} {st : Sto} {ss : List S}
theorem run_ok {fd : Fd} {ds : List D} {Q : D → Sto → Prop} (hl : ds.length = fd.np ∧ fd.np ≤ fd.ns) (h : EndR Q (evSs C base fd.body (ds.map some ++ List.replicate (fd.ns - fd.np) none) st)) : OkR (runFd C fd ds st base) Q := by
  unfold runFd
  rw [if_pos hl]
  rcases h.out with ⟨d, st', e, g⟩ | ⟨ρ, st', e, g⟩
  · rw [e]; exact okr_ok.mpr g
  · rw [e]; exact okr_ok.mpr g
theorem w_nil (h : P (.nx ρ st)) : P (evSs C base [] ρ st) := h
/-- the rest behind a statement -/
structure thenS (C : Call) (base : Nat) (ss : List S) (P : Fl → Prop) (r : Fl) : Prop where
  out : P (match r with
    | .nx ρ st => evSs C base ss ρ st
    | r => r)
theorem then_nx (h : P (evSs C base ss ρ st)) : thenS C base ss P (.nx ρ st) := ⟨h⟩
theorem then_ret {d : D} (h : P (.ret d st)) : thenS C base ss P (.ret d st) := ⟨h⟩
theorem then_brk (h : P (.brk ρ st)) : thenS C base ss P (.brk ρ st) := ⟨h⟩
theorem then_cnt (h : P (.cnt ρ st)) : thenS C base ss P (.cnt ρ st) := ⟨h⟩
theorem then_exc {d : D} (h : P (.exc d ρ st)) : thenS C base ss P (.exc d ρ st) := ⟨h⟩
theorem w_cons {s : S} (h : thenS C base ss P (evS C base s ρ st)) : P (evSs C base (s :: ss) ρ st) := h.out
theorem w_asg {i : Nat} {e : E} (h : OkR (evE C base e ρ st) fun d st => i < ρ.length ∧ P (evSs C base ss (ρ.set i (some d)) st)) : P (evSs C base (.asg (.nm i) e :: ss) ρ st) := by
  obtain ⟨d, st', e1, hi, hp⟩ := h.eq
  have : evSs C base (.asg (.nm i) e :: ss) ρ st = evSs C base ss (ρ.set i (some d)) st' := by
    simp only [evSs, evS, e1, asgR, if_pos hi]
  rw [this]; exact hp
theorem w_tg {t : Tg} {e : E} (h : OkR (evE C base e ρ st) fun d st => OkR (asgR C base t d ρ st) fun ρ st => P (evSs C base ss ρ st)) : P (evSs C base (.asg t e :: ss) ρ st) := by
  obtain ⟨d, st', e1, h⟩ := h.eq
  obtain ⟨ρ', st2, e2, h⟩ := h.eq
  have : evSs C base (.asg t e :: ss) ρ st = evSs C base ss ρ' st2 := by
    simp only [evSs, evS, e1, e2]
  rw [this]; exact h
theorem w_par {is : List Nat} {es : List E} (h : OkR (evEs C base es ρ st) fun ds st => is.length = ds.length ∧ (∀ i ∈ is, i < ρ.length) ∧ P (evSs C base ss ((is.zip ds).foldl (fun ρ p => ρ.set p.1 (some p.2)) ρ) st)) : P (evSs C base (.par is es :: ss) ρ st) := by
  obtain ⟨ds, st', e1, h1, h2, hp⟩ := h.eq
  have : evSs C base (.par is es :: ss) ρ st = evSs C base ss ((is.zip ds).foldl (fun ρ p => ρ.set p.1 (some p.2)) ρ) st' := by
    simp only [evSs, evS, e1]
    rw [if_pos ⟨h1, h2⟩]
  rw [this]; exact hp
theorem w_expr {e : E} (h : OkR (evE C base e ρ st) fun _ st => P (evSs C base ss ρ st)) : P (evSs C base (.expr e :: ss) ρ st) := by
  obtain ⟨d, st', e1, hp⟩ := h.eq
  have : evSs C base (.expr e :: ss) ρ st = evSs C base ss ρ st' := by simp only [evSs, evS, e1]
  rw [this]; exact hp
theorem w_ret {e : E} (h : OkR (evE C base e ρ st) fun d st => P (.ret d st)) : P (evSs C base (.ret e :: ss) ρ st) := by
  obtain ⟨d, st', e1, hp⟩ := h.eq
  have : evSs C base (.ret e :: ss) ρ st = .ret d st' := by simp only [evSs, evS, e1]
  rw [this]; exact hp
theorem w_ife {c : E} {a b : List S} (h : OkR (evE C base c ρ st) fun d st => ∃ k, truth (vw st d) = some k ∧ (k = true → thenS C base ss P (evSs C base a ρ st)) ∧ (k = false → thenS C base ss P (evSs C base b ρ st))) : P (evSs C base (.ife c a b :: ss) ρ st) := by
  obtain ⟨d, st', e1, k, e2, h1, h2⟩ := h.eq
  cases k with
  | true =>
    have : evS C base (.ife c a b) ρ st = evSs C base a ρ st' := by simp only [evS, e1, e2]
    refine w_cons ?_
    rw [this]; exact h1 rfl
  | false =>
    have : evS C base (.ife c a b) ρ st = evSs C base b ρ st' := by simp only [evS, e1, e2]
    refine w_cons ?_
    rw [this]; exact h2 rfl
theorem w_freeze {i : Nat} (h : thenS C base ss P (evS C base (.freeze i) ρ st)) : P (evSs C base (.freeze i :: ss) ρ st) := h.out
/-- a for over things that are known -/
theorem w_for {t : Tn} {it : I} {b : List S} {α : Type} {φ : α → D} {xs : List α} {st0 : Sto} (hi : evI C base it ρ st = .ok (xs.map φ, fun _ => true) st0) (I : List α → En → Sto → Prop) (h0 : I [] ρ st0)
    (step : ∀ (d : List α) (x : α) (r : List α), xs = d ++ x :: r → ∀ (ρ : En) (st : Sto), I d ρ st → (fun r => ∃ ρ' st', (r = .nx ρ' st' ∨ r = .cnt ρ' st') ∧ I (d ++ [x]) ρ' st') (forF (evSs C base b) t (φ x) ρ st))
    (h : ∀ ρ st, I xs ρ st → P (evSs C base ss ρ st)) : P (evSs C base (.forS t it b :: ss) ρ st) := by
  obtain ⟨ρ', st', e, hI⟩ := forD_map (f := forF (evSs C base b) t) I h0 step
  refine w_cons ?_
  have : evS C base (.forS t it b) ρ st = .nx ρ' st' := by
    simp only [evS, hi]
    exact e
  rw [this]
  exact then_nx (h _ _ hI)
/-- .. that may end it -/
theorem forD_may {α : Type} {f : D → En → Sto → Fl} {φ : α → D} {Pr : Fl → Prop} (I : List α → En → Sto → Prop) : ∀ (r d : List α) (ρ : En) (st : Sto), I d ρ st →
    (∀ (d' : List α) (x : α) (r' : List α), d ++ r = d' ++ x :: r' → ∀ (ρ : En) (st : Sto), I d' ρ st → (∃ ρ' st', (f (φ x) ρ st = .nx ρ' st' ∨ f (φ x) ρ st = .cnt ρ' st') ∧ I (d' ++ [x]) ρ' st') ∨ (∃ v st', f (φ x) ρ st = .ret v st' ∧ Pr (.ret v st')) ∨ (∃ ρ' st', f (φ x) ρ st = .brk ρ' st' ∧ Pr (.nx ρ' st')) ∨ (∃ v ρ' st', f (φ x) ρ st = .exc v ρ' st' ∧ Pr (.exc v ρ' st'))) →
    (∀ ρ st, I (d ++ r) ρ st → Pr (.nx ρ st)) → Pr (forD f (fun _ => true) (r.map φ) ρ st)
  | [], d, ρ, st, h, _, fin => fin ρ st (by rw [List.append_nil]; exact h)
  | x :: r, d, ρ, st, h, step, fin => by
    show Pr (if true = true then (match f (φ x) ρ st with
      | .nx ρ st => forD f (fun _ => true) (r.map φ) ρ st
      | .cnt ρ st => forD f (fun _ => true) (r.map φ) ρ st
      | .brk ρ st => .nx ρ st
      | .ret d st => .ret d st
      | .exc d ρ st => .exc d ρ st
      | .bad => .bad) else Fl.bad)
    rw [if_pos rfl]
    rcases step d x r rfl ρ st h with ⟨ρ', st', e, hI⟩ | ⟨v, st', e, hp⟩ | ⟨ρ', st', e, hp⟩ | ⟨v, ρ', st', e, hp⟩
    · have go := forD_may (f := f) (φ := φ) (Pr := Pr) I r (d ++ [x]) ρ' st' hI (fun d' y r' z => step d' y r' (by rw [← z]; simp)) (fun ρ st h => fin ρ st (by simpa using h))
      rcases e with e | e <;> (rw [e]; exact go)
    · rw [e]; exact hp
    · rw [e]; exact hp
    · rw [e]; exact hp
theorem w_forR {t : Tn} {it : I} {b : List S} {α : Type} {φ : α → D} {xs : List α} {st0 : Sto} (hi : evI C base it ρ st = .ok (xs.map φ, fun _ => true) st0) (I : List α → En → Sto → Prop) (h0 : I [] ρ st0)
    (step : ∀ (d : List α) (x : α) (r : List α), xs = d ++ x :: r → ∀ (ρ : En) (st : Sto), I d ρ st → (∃ ρ' st', (forF (evSs C base b) t (φ x) ρ st = .nx ρ' st' ∨ forF (evSs C base b) t (φ x) ρ st = .cnt ρ' st') ∧ I (d ++ [x]) ρ' st') ∨ (∃ v st', forF (evSs C base b) t (φ x) ρ st = .ret v st' ∧ P (.ret v st')) ∨ (∃ ρ' st', forF (evSs C base b) t (φ x) ρ st = .brk ρ' st' ∧ P (evSs C base ss ρ' st')) ∨ (∃ v ρ' st', forF (evSs C base b) t (φ x) ρ st = .exc v ρ' st' ∧ P (.exc v ρ' st')))
    (h : ∀ ρ st, I xs ρ st → P (evSs C base ss ρ st)) : P (evSs C base (.forS t it b :: ss) ρ st) := by
  refine w_cons ?_
  have e : evS C base (.forS t it b) ρ st = forD (forF (evSs C base b) t) (fun _ => true) (xs.map φ) ρ st0 := by simp only [evS, hi]
  rw [e]
  exact forD_may (Pr := thenS C base ss P) I xs [] ρ st0 h0 (fun d' x r' z ρ st hi => by
    rcases step d' x r' (by simpa using z) ρ st hi with a | ⟨v, s', e, p⟩ | ⟨ρ', s', e, p⟩ | ⟨v, ρ', s', e, p⟩
    · exact .inl a
    · exact .inr (.inl ⟨v, s', e, then_ret p⟩)
    · exact .inr (.inr (.inl ⟨ρ', s', e, then_nx p⟩))
    · exact .inr (.inr (.inr ⟨v, ρ', s', e, then_exc p⟩))) (fun ρ st hI => then_nx (h ρ st (by simpa using hI)))
/-- a while by a measure -/
theorem w_while {c : E} {b : List S} (I : Nat → En → Sto → Prop) {m : Nat} (h0 : I m ρ st)
    (step : ∀ m ρ st, I m ρ st → OkR (evE C base c ρ st) fun d st => ∃ k, truth (vw st d) = some k ∧ (k = false → P (evSs C base ss ρ st)) ∧ (k = true → (fun r => (∃ ρ' st' m', (r = .nx ρ' st' ∨ r = .cnt ρ' st') ∧ m' < m ∧ I m' ρ' st') ∨ (∃ v st', r = .ret v st' ∧ P (.ret v st')) ∨ (∃ ρ' st', r = .brk ρ' st' ∧ P (evSs C base ss ρ' st'))) (evSs C base b ρ st))) :
    P (evSs C base (.whl c b :: ss) ρ st) := by
  refine w_cons ?_
  induction m using Nat.strongRecOn generalizing ρ st with
  | _ m ih =>
    show thenS C base ss P (whlD _ ρ st)
    rw [whlD_step]
    obtain ⟨d, st', e1, k, e2, hf, ht⟩ := (step m ρ st h0).eq
    cases k with
    | false =>
      simp only [e1, e2]
      exact then_nx (hf rfl)
    | true =>
      simp only [e1, e2]
      rcases ht rfl with ⟨ρ', st2, m', e3, hm, hI⟩ | ⟨v, st2, e3, hp⟩ | ⟨ρ', st2, e3, hp⟩
      · rcases e3 with e3 | e3
        · simp only [e3]; exact ih m' hm hI
        · simp only [e3]; exact ih m' hm hI
      · simp only [e3]; exact then_ret hp
      · simp only [e3]; exact then_nx hp
end
/-! ### the pool of draws -/
def PO (k : Nat) (o : Ob) : Prop := ∃ a b c : Int, o = .lst [.int a, .int b, .int c] ∧ 0 ≤ a ∧ 0 ≤ b ∧ b < 2147483648 ∧ 0 ≤ c ∧ c ≤ k
/-- the pool stands at p -/
def PS (p k : Nat) (A : Sto) : Prop := ∃ o, A[p]? = some o ∧ PO k o
theorem PO.mono {k k' : Nat} {o : Ob} (h : PO k o) (hk : k ≤ k') : PO k' o := by
  obtain ⟨a, b, c, e, h1, h2, h3, h4, h5⟩ := h
  exact ⟨a, b, c, e, h1, h2, h3, h4, by omega⟩
theorem PS.mono {p k k' : Nat} {A : Sto} (h : PS p k A) (hk : k ≤ k') : PS p k' A := let ⟨o, e, h⟩ := h; ⟨o, e, h.mono hk⟩
theorem PS.lt {p k : Nat} {A : Sto} (h : PS p k A) : p < A.length := let ⟨_, e, _⟩ := h; (List.getElem?_eq_some_iff.mp e).1
theorem PS.app {p k : Nat} {A l : Sto} (h : PS p k A) : PS p k (A ++ l) := by
  obtain ⟨o, e, h1⟩ := h
  exact ⟨o, by rw [List.getElem?_append_left (List.getElem?_eq_some_iff.mp e).1]; exact e, h1⟩
/-- the same but for what stands at p -/
def Nr (p : Nat) (A A' : Sto) : Prop := ∃ o, A' = A.set p o
theorem Nr.refl {p k : Nat} {A : Sto} (h : PS p k A) : Nr p A A := by
  obtain ⟨o, e, _⟩ := h
  obtain ⟨hl, e⟩ := List.getElem?_eq_some_iff.mp e
  exact ⟨o, by rw [← e, List.set_getElem_self]⟩
theorem Nr.trans {p : Nat} {A B C : Sto} (h : Nr p A B) (g : Nr p B C) : Nr p A C := by
  obtain ⟨o, rfl⟩ := h
  obtain ⟨o2, rfl⟩ := g
  exact ⟨o2, by rw [List.set_set]⟩
theorem Nr.len {p : Nat} {A B : Sto} (h : Nr p A B) : B.length = A.length := by obtain ⟨o, rfl⟩ := h; simp
theorem Nr.app {p : Nat} {A B l : Sto} (h : Nr p (A ++ l) B) (hp : p < A.length) : ∃ A', B = A' ++ l ∧ Nr p A A' := by
  obtain ⟨o, rfl⟩ := h
  exact ⟨A.set p o, by rw [List.set_append_left _ _ hp], o, rfl⟩
/-- a def that draws: its scoped call writes into the pool alone -/
def Does (C : Call) (f : Nat) (ds : List D) (p K : Nat) (post : D → Prop) : Prop := ∀ (st : Sto) (base k : Nat), PS p k st → k + K ≤ 1000000000 → OkR (callR C base true f ds st) fun d st' => Nr p st st' ∧ PS p (k + K) st' ∧ post d
section
variable {C : Call} {f : Nat} {ds : List D} {p K : Nat} {post : D → Prop}
theorem Does.use {A loc : Sto} {base k : Nat} {Q : D → Sto → Prop} (h : Does C f ds p K post) (hp : PS p k A) (hk : k + K ≤ 1000000000) (q : ∀ d A', Nr p A A' → PS p (k + K) A' → post d → Q d (A' ++ loc)) : OkR (callR C base true f ds (A ++ loc)) Q := by
  refine (h (A ++ loc) base k hp.app hk).mono fun d st' ⟨h1, h2, h3⟩ => ?_
  obtain ⟨A', rfl, hn⟩ := h1.app hp.lt
  refine q d A' hn ?_ h3
  obtain ⟨o, e, h4⟩ := h2
  exact ⟨o, by rw [List.getElem?_append_left (by rw [hn.len]; exact hp.lt)] at e; exact e, h4⟩
theorem Does.use0 {A : Sto} {base k : Nat} {Q : D → Sto → Prop} (h : Does C f ds p K post) (hp : PS p k A) (hk : k + K ≤ 1000000000) (q : ∀ d A', Nr p A A' → PS p (k + K) A' → post d → Q d A') : OkR (callR C base true f ds A) Q :=
  (h A base k hp hk).mono fun d st' ⟨h1, h2, h3⟩ => q d st' h1 h2 h3
/-- from its body -/
theorem Does.of (h : ∀ (st : Sto) (k : Nat), PS p k st → k + K ≤ 1000000000 → OkR (C f ds st st.length) fun d st' => ∃ A l, st' = A ++ l ∧ Nr p st A ∧ PS p (k + K) A ∧ plain d = true ∧ post d) : Does C f ds p K post := by
  intro st base k hp hk
  obtain ⟨d, st', e, A, l, rfl, hn, h1, h2, h3⟩ := (h st k hp hk).eq
  have : callR C base true f ds st = .ok d A := by
    show (match C f ds st st.length with
      | .ok d st' => if plain d then R.ok d (st'.take st.length) else R.bad
      | .exc d st' => R.exc d (st'.take st.length)
      | .bad => R.bad) = _
    rw [e]
    dsimp only
    rw [if_pos h2, ← hn.len]
    simp
  rw [this]
  exact okr_ok.mpr ⟨hn, h1, h3⟩
theorem Does.mono {K' : Nat} {post' : D → Prop} (h : Does C f ds p K post) (hK : K ≤ K') (hq : ∀ d, post d → post' d) : Does C f ds p K' post' :=
  fun st base k hp hk => (h st base k hp (by omega)).mono fun d st' ⟨h1, h2, h3⟩ => ⟨h1, h2.mono (by omega), hq d h3⟩
end
end Rf

/-! Sizes of products; macros that walk an expression. -/
namespace Rf
theorem log_lt {i : Int} {k : Nat} (h1 : -(2 ^ k : Int) < i) (h2 : i < (2 ^ k : Int)) (hk : 0 < k) : i.natAbs.log2 < k := by
  have h3 : i.natAbs < 2 ^ k := by
    have : ((2 ^ k : Nat) : Int) = (2 : Int) ^ k := by norm_cast
    omega
  by_cases h0 : i.natAbs = 0
  · rw [h0]; simpa using hk
  · exact (Nat.log2_lt h0).mpr h3
theorem mul_ok {i j : Int} (h1 : -(2 ^ 300 : Int) < i) (h2 : i < (2 ^ 300 : Int)) (h3 : -(2 ^ 300 : Int) < j) (h4 : j < (2 ^ 300 : Int)) : mulOk i j = true := by
  have a := log_lt h1 h2 (by decide)
  have b := log_lt h3 h4 (by decide)
  exact decide_eq_true (by omega)
theorem div_ok {j : Int} (h1 : 0 < j) (h2 : j < (2 ^ 300 : Int)) : divOk j = true := by
  have b := log_lt (k := 300) (by omega) h2 (by decide)
  unfold divOk
  rw [decide_eq_true h1, decide_eq_true (by omega)]; rfl
theorem plains_mem {xs : List D} (h : plains xs = true) {x : D} (hx : x ∈ xs) : plain x = true := by
  induction xs with
  | nil => cases hx
  | cons y ys ih =>
    have h' : (plain y && plains ys) = true := h
    obtain ⟨h1, h2⟩ := Bool.and_eq_true_iff.mp h'
    rcases List.mem_cons.mp hx with rfl | hx
    · exact h1
    · exact ih h2 hx
theorem plains_of {xs : List D} (h : ∀ x ∈ xs, plain x = true) : plains xs = true := by
  induction xs with
  | nil => rfl
  | cons y ys ih =>
    show (plain y && plains ys) = true
    rw [h y List.mem_cons_self, ih fun x hx => h x (List.mem_cons_of_mem _ hx)]; rfl
theorem plain_tup {ds : List D} : plain (.tup ds) = plains ds := rfl
theorem plain_lst {ds : List D} : plain (.lst ds) = plains ds := rfl
theorem plains_strs (ts : List (List Nat)) : plains (ts.map .str) = true := plains_of fun x hx => by obtain ⟨t, _, rfl⟩ := List.mem_map.mp hx; rfl
theorem atI_nat {α : Type} {xs : List α} {v : Int} (h0 : 0 ≤ v) (h1 : v < xs.length) : atI xs v = some (xs[v.toNat]'(by omega)) := by
  have hb : v.toNat < xs.length := by omega
  unfold atI ixN
  rw [if_pos h0, if_pos h1]
  simp [hb]
/-- the end of a def that draws -/
theorem fin_ok {p k K : Nat} {st A : Sto} {d : D} {Q : Prop} (h1 : Nr p st A) (h2 : PS p (k + K) A) (h3 : plain d = true) (h4 : Q) : ∃ A' l, A = A' ++ l ∧ Nr p st A' ∧ PS p (k + K) A' ∧ plain d = true ∧ Q := ⟨A, [], by simp, h1, h2, h3, h4⟩
theorem fin_app {p k K : Nat} {st A l : Sto} {d : D} {Q : Prop} (h1 : Nr p st A) (h2 : PS p (k + K) A) (h3 : plain d = true) (h4 : Q) : ∃ A' l', A ++ l = A' ++ l' ∧ Nr p st A' ∧ PS p (k + K) A' ∧ plain d = true ∧ Q := ⟨A, l, rfl, h1, h2, h3, h4⟩
theorem ix_non : isExc .non = false := rfl
theorem ix_bl {b : Bool} : isExc (.bl b) = false := rfl
theorem ix_int {i : Int} : isExc (.int i) = false := rfl
theorem ix_str {s : List Nat} : isExc (.str s) = false := rfl
theorem ix_tup {ds : List D} : isExc (.tup ds) = false := rfl
theorem ix_lst {ds : List D} : isExc (.lst ds) = false := rfl
theorem ix_frz {ds : List D} : isExc (.frz ds) = false := rfl
theorem ix_dct {ks : List Ky} {ds : List D} : isExc (.dct ks ds) = false := rfl
theorem ix_ref {n : Nat} : isExc (.ref n) = false := rfl
theorem ix_fn {n : Nat} : isExc (.fn n) = false := rfl
theorem okr_if {α : Type} {c : Prop} [Decidable c] {r : R α} {Q : α → Sto → Prop} (h : c) (g : OkR r Q) : OkR (if c then r else .bad) Q := by rw [if_pos h]; exact g
theorem okr_some {α : Type} {a : α} {o : Option α} {st : Sto} {Q : α → Sto → Prop} (h : o = some a) (g : Q a st) : OkR (opt o st) Q := by rw [h]; exact okr_ok.mpr g
theorem lt_two {a b n : Nat} (ha : a < n) (hb : b < n) : ∀ i ∈ [a, b], i < n := fun i hi => by
  rcases List.mem_cons.mp hi with rfl | hi
  · exact ha
  · rcases List.mem_cons.mp hi with rfl | hi
    · exact hb
    · cases hi
theorem lt_three {a b c n : Nat} (ha : a < n) (hb : b < n) (hc : c < n) : ∀ i ∈ [a, b, c], i < n := fun i hi => by
  rcases List.mem_cons.mp hi with rfl | hi
  · exact ha
  · exact lt_two hb hc i hi
/-- a def's body that draws -/
def RunDoes (C : Call) (fd : Fd) (ds : List D) (p K : Nat) (post : D → Prop) : Prop := ∀ (st : Sto) (k : Nat), PS p k st → k + K ≤ 1000000000 → OkR (runFd C fd ds st st.length) fun d st' => ∃ A l, st' = A ++ l ∧ Nr p st A ∧ PS p (k + K) A ∧ plain d = true ∧ post d
theorem RunDoes.of {C C' : Call} {fd : Fd} {ds : List D} {p K : Nat} {post : D → Prop} {f : Nat} (h : RunDoes C fd ds p K post) (e : ∀ ds st b, C' f ds st b = runFd C fd ds st b) : Does C' f ds p K post :=
  Does.of fun st k hp hk => by rw [e]; exact h st k hp hk
/-- how a turn of a loop may end -/
structure LoR (J : En → Sto → Prop) (P : Fl → Prop) (Pn : En → Sto → Prop) (r : Fl) : Prop where
  out : (∃ ρ' st', (r = .nx ρ' st' ∨ r = .cnt ρ' st') ∧ J ρ' st') ∨ (∃ v st', r = .ret v st' ∧ P (.ret v st')) ∨ (∃ ρ' st', r = .brk ρ' st' ∧ Pn ρ' st') ∨ (∃ v ρ' st', r = .exc v ρ' st' ∧ P (.exc v ρ' st'))
section
variable {J : En → Sto → Prop} {P : Fl → Prop} {Pn : En → Sto → Prop} {ρ : En} {st : Sto}
theorem lor_nx (h : J ρ st) : LoR J P Pn (.nx ρ st) := ⟨.inl ⟨_, _, .inl rfl, h⟩⟩
theorem lor_cnt (h : J ρ st) : LoR J P Pn (.cnt ρ st) := ⟨.inl ⟨_, _, .inr rfl, h⟩⟩
theorem lor_ret {v : D} (h : P (.ret v st)) : LoR J P Pn (.ret v st) := ⟨.inr (.inl ⟨_, _, rfl, h⟩)⟩
theorem lor_brk (h : Pn ρ st) : LoR J P Pn (.brk ρ st) := ⟨.inr (.inr (.inl ⟨_, _, rfl, h⟩))⟩
theorem lor_exc {v : D} (h : P (.exc v ρ st)) : LoR J P Pn (.exc v ρ st) := ⟨.inr (.inr (.inr ⟨_, _, _, rfl, h⟩))⟩
end
section
variable {C : Call} {base : Nat} {P : Fl → Prop} {ρ : En} {st : Sto} {ss : List S}
theorem w_loop {t : Tn} {it : I} {b : List S} {α : Type} (φ : α → D) (xs : List α) (I : List α → En → Sto → Prop) {st0 : Sto} (hi : evI C base it ρ st = .ok (xs.map φ, fun _ => true) st0) (h0 : I [] ρ st0)
    (step : ∀ (d : List α) (x : α) (r : List α), xs = d ++ x :: r → ∀ (ρ : En) (st : Sto), I d ρ st → LoR (I (d ++ [x])) P (fun ρ st => P (evSs C base ss ρ st)) (forF (evSs C base b) t (φ x) ρ st))
    (h : ∀ ρ st, I xs ρ st → P (evSs C base ss ρ st)) : P (evSs C base (.forS t it b :: ss) ρ st) :=
  w_forR (φ := φ) (xs := xs) hi I h0 (fun d x r e ρ st hI => (step d x r e ρ st hI).out) h
theorem w_turns {c : E} {b : List S} (I : Nat → En → Sto → Prop) (m : Nat) (h0 : I m ρ st)
    (step : ∀ m ρ st, I m ρ st → OkR (evE C base c ρ st) fun d st => ∃ k, truth (vw st d) = some k ∧ (k = true → LoR (fun ρ st => ∃ m', m' < m ∧ I m' ρ st) P (fun ρ st => P (evSs C base ss ρ st)) (evSs C base b ρ st)) ∧ (k = false → P (evSs C base ss ρ st))) :
    P (evSs C base (.whl c b :: ss) ρ st) := by
  refine w_cons ?_
  induction m using Nat.strongRecOn generalizing ρ st with
  | _ m ih =>
    show thenS C base ss P (whlD _ ρ st)
    rw [whlD_step]
    obtain ⟨d, st', e1, k, e2, ht, hf⟩ := (step m ρ st h0).eq
    cases k with
    | false =>
      simp only [e1, e2]
      exact then_nx (hf rfl)
    | true =>
      simp only [e1, e2]
      rcases (ht rfl).out with ⟨ρ', st2, e3, m', hm, hI⟩ | ⟨v, st2, e3, hp⟩ | ⟨ρ', st2, e3, hp⟩ | ⟨v, ρ', st2, e3, hp⟩
      · rcases e3 with e3 | e3
        · simp only [e3]; exact ih m' hm hI
        · simp only [e3]; exact ih m' hm hI
      · simp only [e3]; exact then_ret hp
      · simp only [e3]; exact then_nx hp
      · simp only [e3]; exact then_exc hp
/-- a choice whose test is known -/
theorem w_if {c : E} {a b : List S} (k : Bool) (st' : Sto) (d : D) (e : evE C base c ρ st = .ok d st') (e2 : truth (vw st' d) = some k) (h1 : k = true → thenS C base ss P (evSs C base a ρ st')) (h2 : k = false → thenS C base ss P (evSs C base b ρ st')) : P (evSs C base (.ife c a b :: ss) ρ st) :=
  w_ife (OkR.of_eq e ⟨k, e2, h1, h2⟩)
end
theorem rng1_nat {n : Nat} (h : n < 1000000) : rng1L (.int (n : Int)) = some ((List.range n).map fun (i : Nat) => D.int (i : Int)) := by
  have h1 : decide ((n : Int) < 2 ^ 40) = true := decide_eq_true (by omega)
  have h2 : decide (-(2 ^ 40) < (n : Int)) = true := decide_eq_true (by omega)
  simp only [rng1L, h1, h2, Bool.and_self, if_true, Int.toNat_natCast]
theorem rng1_int {n : Int} (h0 : 0 ≤ n) (h : n < 1000000) : rng1L (.int n) = some ((List.range n.toNat).map fun (i : Nat) => D.int (i : Int)) := by
  have e : n = (n.toNat : Int) := by omega
  have z := rng1_nat (n := n.toNat) (by omega)
  rw [← e] at z
  exact z
theorem wok_plain {base n : Nat} {d : D} {b : Bool} (h : plain d = true) : (wOk base n d && b) = b := by
  unfold wOk
  rw [h, Bool.or_true, Bool.true_and]
section
variable {C : Call} {base : Nat} {ρ : En} {st st' : Sto} {e : E}
theorem evI_rng1 {n : Nat} (h : evE C base e ρ st = .ok (.int (n : Int)) st') (hn : n < 1000000) : evI C base (.rng1 e) ρ st = .ok ((List.range n).map fun (i : Nat) => D.int (i : Int), fun _ => true) st' := by
  rw [evI, h, bind_ok', rng1_nat hn, opt_some', bind_ok']
theorem evI_lst {ds : List D} (h : evE C base e ρ st = .ok (.lst ds) st') : evI C base (.val e) ρ st = .ok (ds, fun _ => true) st' := by
  rw [evI, h, bind_ok']
theorem evI_tup {ds : List D} (h : evE C base e ρ st = .ok (.tup ds) st') : evI C base (.val e) ρ st = .ok (ds, fun _ => true) st' := by
  rw [evI, h, bind_ok']
theorem evI_enl {ds : List D} (h : evE C base e ρ st = .ok (.lst ds) st') : evI C base (.enu e) ρ st = .ok (enuL ds, fun _ => true) st' := by
  rw [evI, h, bind_ok']
theorem evI_ent {ds : List D} (h : evE C base e ρ st = .ok (.tup ds) st') : evI C base (.enu e) ρ st = .ok (enuL ds, fun _ => true) st' := by
  rw [evI, h, bind_ok']
end
theorem top_get {A : Sto} {o : Ob} {q : Nat} (h : A.length = q) : (A ++ [o])[q]? = some o := by subst h; simp
theorem top_vl {A : Sto} {ds : List D} {q : Nat} (h : A.length = q) : vw (A ++ [.lst ds]) (.ref q) = .lst ds := by subst h; simp
theorem top_set {A : Sto} {o o' : Ob} {q : Nat} (h : A.length = q) : (A ++ [o]).set q o' = A ++ [o'] := by subst h; simp
theorem app_ok {A : Sto} {ds : List D} {q base : Nat} {x : D} {bx : Bool} (hq : A.length = q) (hp : plain x = true) (hl : ds.length < SL) : mtR .append bx base (.ref q) [x] (A ++ [.lst ds]) = .ok .non (A ++ [.lst (ds ++ [x])]) := by
  simp only [mtR, top_get hq, wok_plain hp, decide_eq_true hl, if_true, top_set hq]
/-- a def that draws nothing: its scoped call -/
abbrev Pur (C : Call) (f : Nat) (ds : List D) (r : D) : Prop := ∀ (st : Sto) (base : Nat), callR C base true f ds st = .ok r st
def RunPur (C : Call) (fd : Fd) (ds : List D) (r : D) : Prop := ∀ st : Sto, OkR (runFd C fd ds st st.length) fun d st' => d = r ∧ ∃ l, st' = st ++ l
theorem RunPur.of {C C' : Call} {fd : Fd} {ds : List D} {r : D} {f : Nat} (h : RunPur C fd ds r) (hp : plain r = true) (e : ∀ ds st b, C' f ds st b = runFd C fd ds st b) : Pur C' f ds r := by
  intro st base
  obtain ⟨d, st', e1, rfl, l, rfl⟩ := (h st).eq
  exact callR_sc (by rw [e]; exact e1) hp
theorem runPur_eq {C : Call} {fd : Fd} {ds : List D} {r : D} (h : ∀ st : Sto, runFd C fd ds st st.length = .ok r st) : RunPur C fd ds r := fun st => OkR.of_eq (h st) ⟨rfl, [], by simp⟩
theorem eqD_str (a b : List Nat) : eqD (.str a) (.str b) = some (decide (a = b)) := by
  have z : eqD (.str a) (.str b) = some (a == b) := rfl
  rw [z]
  by_cases h : a = b
  · rw [h]; simp
  · simp [h]
theorem digI_small {v : Int} (h0 : 0 ≤ v) (h9 : v ≤ 9) : digI v = [48 + v.toNat] := by
  have : v = 0 ∨ v = 1 ∨ v = 2 ∨ v = 3 ∨ v = 4 ∨ v = 5 ∨ v = 6 ∨ v = 7 ∨ v = 8 ∨ v = 9 := by omega
  rcases this with h | h | h | h | h | h | h | h | h | h <;> (subst h; decide +kernel)
theorem log_small {v : Int} (h0 : 0 ≤ v) (h9 : v ≤ 9) : v.natAbs.log2 < 1920 := by
  have := log_lt (i := v) (k := 10) (by omega) (by omega) (by decide)
  omega
section
variable {C : Call} {base : Nat} {P : Fl → Prop} {ρ : En} {st : Sto} {ss : List S}
theorem then_nil (h : P (evSs C base ss ρ st)) : thenS C base ss P (evSs C base [] ρ st) := ⟨h⟩
theorem then_ret_iff {d : D} : thenS C base ss P (.ret d st) ↔ P (.ret d st) := ⟨fun h => h.out, fun h => ⟨h⟩⟩
theorem then_nx_iff : thenS C base ss P (.nx ρ st) ↔ P (evSs C base ss ρ st) := ⟨fun h => h.out, fun h => ⟨h⟩⟩
end
theorem ife_t {b : Bool} {Q1 Q2 : Prop} (hb : b = true) (h : Q1) : ∃ k, some b = some k ∧ (k = true → Q1) ∧ (k = false → Q2) := ⟨true, by rw [hb], fun _ => h, (fun z => nomatch z)⟩
theorem ife_f {b : Bool} {Q1 Q2 : Prop} (hb : b = false) (h : Q2) : ∃ k, some b = some k ∧ (k = true → Q1) ∧ (k = false → Q2) := ⟨false, by rw [hb], (fun z => nomatch z), fun _ => h⟩
theorem ife_b {b : Bool} {Q1 Q2 : Prop} (h1 : b = true → Q1) (h2 : b = false → Q2) : ∃ k, some b = some k ∧ (k = true → Q1) ∧ (k = false → Q2) := ⟨b, rfl, h1, h2⟩
theorem okr_mkL {ds : List D} {st : Sto} {Q : D → Sto → Prop} (h : ds.length ≤ SL) (g : Q (.lst ds) st) : OkR (mkL false ds st) Q := by
  rw [mkL_unb h]; exact okr_ok.mpr g
theorem okr_mkT {ds : List D} {st : Sto} {Q : D → Sto → Prop} (h : ds.length ≤ SL) (g : Q (.tup ds) st) : OkR (mkT ds st) Q := by
  unfold mkT
  rw [if_pos h]; exact okr_ok.mpr g
theorem at_0 {α : Type} {a : α} {l : List α} : atI (a :: l) 0 = some a := atI_nat (by decide) (by simp <;> omega)
theorem at_1 {α : Type} {a b : α} {l : List α} : atI (a :: b :: l) 1 = some b := atI_nat (by decide) (by simp <;> omega)
theorem at_2 {α : Type} {a b c : α} {l : List α} : atI (a :: b :: c :: l) 2 = some c := atI_nat (by decide) (by simp <;> omega)
theorem at_3 {α : Type} {a b c d : α} {l : List α} : atI (a :: b :: c :: d :: l) 3 = some d := atI_nat (by decide) (by simp <;> omega)
theorem at_4 {α : Type} {a b c d e : α} {l : List α} : atI (a :: b :: c :: d :: e :: l) 4 = some e := atI_nat (by decide) (by simp <;> omega)
theorem in_2 (a b c : List Nat) : inD (.str a) (.tup [.str b, .str c]) = some (b == a || (c == a || false)) := rfl
theorem in_3 (a b c d : List Nat) : inD (.str a) (.tup [.str b, .str c, .str d]) = some (b == a || (c == a || (d == a || false))) := rfl
theorem in_4 (a b c d e : List Nat) : inD (.str a) (.tup [.str b, .str c, .str d, .str e]) = some (b == a || (c == a || (d == a || (e == a || false)))) := rfl
theorem in_str (c : Nat) (z : List Nat) : inD (.str [c]) (.str z) = some (decide (c ∈ z)) := rfl
theorem sl_eq : SL = 16777216 := rfl
theorem enuL_map {α : Type} (f : α → D) (xs : List α) : enuL (xs.map f) = ((List.range xs.length).zip xs).map fun q : Nat × α => D.tup [.int (q.1 : Int), f q.2] := by
  unfold enuL
  apply List.ext_getElem
  · simp
  · intro i h1 h2
    simp
section
variable {C : Call} {base : Nat} {P : Fl → Prop} {ρ : En} {st : Sto} {ss : List S}
/-- a loop over numbered things -/
theorem w_loopE {t : Tn} {it : I} {b : List S} {α : Type} (φ : α → D) (xs : List α) (I : List α → En → Sto → Prop) {st0 : Sto} (hi : evI C base it ρ st = .ok (enuL (xs.map φ), fun _ => true) st0) (h0 : I [] ρ st0)
    (step : ∀ (d : List α) (x : α) (r : List α), xs = d ++ x :: r → ∀ (ρ : En) (st : Sto), I d ρ st → LoR (I (d ++ [x])) P (fun ρ st => P (evSs C base ss ρ st)) (forF (evSs C base b) t (.tup [.int (d.length : Int), φ x]) ρ st))
    (h : ∀ ρ st, I xs ρ st → P (evSs C base ss ρ st)) : P (evSs C base (.forS t it b :: ss) ρ st) := by
  refine w_loop (fun q : Nat × α => .tup [.int (q.1 : Int), φ q.2]) ((List.range xs.length).zip xs) (fun d ρ s => I (d.map (·.2)) ρ s) (st0 := st0) (by rw [hi, enuL_map]) h0 ?_ ?_
  · intro d q r hd ρ s hI
    have e2 := congrArg (List.map Prod.snd) hd
    rw [List.map_snd_zip (by simp), List.map_append, List.map_cons] at e2
    have e1 := congrArg (List.map Prod.fst) hd
    rw [List.map_fst_zip (by simp), List.map_append, List.map_cons] at e1
    have e3 := congrArg (fun l => l[d.length]?) e1
    have hlt : d.length < xs.length := by have := congrArg List.length e2; simp at this; omega
    have e4 : q.1 = d.length := by
      simp [hlt] at e3
      exact e3.symm
    have z := step _ _ _ e2 ρ s hI
    rw [List.length_map] at z
    rw [List.map_append, e4]
    exact z
  · intro ρ s hI
    rw [List.map_snd_zip (by simp)] at hI
    exact h ρ s hI
end
theorem eqD_int (a b : Int) : eqD (.int a) (.int b) = some (decide (a = b)) := by
  have z : eqD (.int a) (.int b) = some (a == b) := rfl
  rw [z]
  by_cases h : a = b
  · rw [h]; simp
  · simp [h]
theorem pds_of {n : Nat} {xs : List D} (h : ∀ x ∈ xs, pd n x = true) : pds n xs = true := by
  induction xs with
  | nil => rfl
  | cons x xs ih =>
    show (pd n x && pds n xs) = true
    rw [h x List.mem_cons_self, ih fun y hy => h y (List.mem_cons_of_mem _ hy)]; rfl
theorem eqD_nil {ts : List (List Nat)} (h : ∀ t ∈ ts, ∀ c ∈ t, c < 1114112) : eqD (.lst (ts.map D.str)) (.lst []) = some (decide (ts = [])) := by
  have z : pd 60 (.lst (ts.map D.str)) = true := pds_of fun x hx => by
    obtain ⟨t, ht, rfl⟩ := List.mem_map.mp hx
    show (t.all fun c => decide (c < 1114112)) = true
    rw [List.all_eq_true]
    intro c hc
    exact decide_eq_true (h t ht c hc)
  show (if sc2 (.lst (ts.map D.str)) (.lst []) then some (eqv (.lst (ts.map D.str)) (.lst [])) else if pd 60 (.lst (ts.map D.str)) && pd 60 (.lst []) then some (eqv (.lst (ts.map D.str)) (.lst [])) else none) = _
  rw [z]
  cases ts <;> rfl
theorem w_frz {C : Call} {base i n : Nat} {P : Fl → Prop} {ρ : En} {A : Sto} {ds : List D} {ss : List S} (hv : getV ρ i = some (.ref n)) (hn : A.length = n) (hb : base ≤ n) (h : P (evSs C base ss (ρ.set i (some (.lst ds))) (A ++ [.dead]))) : P (evSs C base (.freeze i :: ss) ρ (A ++ [.lst ds])) := by
  refine w_freeze ?_
  have e : evS C base (.freeze i) ρ (A ++ [.lst ds]) = .nx (ρ.set i (some (.lst ds))) (A ++ [.dead]) := by
    simp only [evS, hv, hb, if_true, top_get hn, top_set hn]
  rw [e]
  exact then_nx h
/-- so many draws later -/
structure At (p k : Nat) (st : Sto) (j : Nat) (A : Sto) : Prop where
  nr : Nr p st A
  ps : PS p (k + j) A
theorem At.start {p k : Nat} {st : Sto} (h : PS p k st) : At p k st 0 st := ⟨.refl h, h⟩
theorem At.up {p k i j : Nat} {st A : Sto} (h : At p k st i A) (hj : i ≤ j) : At p k st j A := ⟨h.nr, h.ps.mono (by omega)⟩
theorem Does.go {C : Call} {f : Nat} {ds : List D} {p K k j base : Nat} {post : D → Prop} {st A : Sto} {Q : D → Sto → Prop} (h : Does C f ds p K post) (ha : At p k st j A) (hk : k + (j + K) ≤ 1000000000) (q : ∀ d A', At p k st (j + K) A' → post d → Q d A') : OkR (callR C base true f ds A) Q :=
  h.use0 ha.ps (by omega) fun d A' hn hp hq => q d A' ⟨ha.nr.trans hn, hp.mono (by omega)⟩ hq
theorem fin_at {p k K j : Nat} {st A : Sto} {d : D} {Q : Prop} (h : At p k st j A) (hj : j ≤ K) (h3 : plain d = true) (h4 : Q) : ∃ A' l, A = A' ++ l ∧ Nr p st A' ∧ PS p (k + K) A' ∧ plain d = true ∧ Q := fin_ok h.nr (h.ps.mono (by omega)) h3 h4
theorem eqD_nilD {ds : List D} (h : ∀ d ∈ ds, pd 59 d = true) : eqD (.lst ds) (.lst []) = some (decide (ds = [])) := by
  have z : pd 60 (.lst ds) = true := pds_of h
  show (if sc2 (.lst ds) (.lst []) then some (eqv (.lst ds) (.lst [])) else if pd 60 (.lst ds) && pd 60 (.lst []) then some (eqv (.lst ds) (.lst [])) else none) = _
  rw [z]
  cases ds <;> rfl
theorem compD_okr {f : D → Sto → R (Option D)} (J : Nat → Sto → Prop) (Pd : D → Prop) (N : Nat) (step : ∀ x i st, i < N → J i st → OkR (f x st) fun y st' => (∃ d, y = some d ∧ Pd d) ∧ J (i + 1) st') : ∀ (xs : List D) (i : Nat) (st : Sto), i + xs.length ≤ N → J i st → OkR (compD f (fun _ => true) xs st) fun ys st' => ys.length = xs.length ∧ (∀ d ∈ ys, Pd d) ∧ J (i + xs.length) st'
  | [], i, st, _, h => okr_ok.mpr ⟨rfl, by simp, h⟩
  | x :: xs, i, st, hn, h => by
    obtain ⟨y, st1, e1, ⟨d, rfl, hd⟩, h1⟩ := (step x i st (by simp at hn; omega) h).eq
    obtain ⟨ys, st2, e2, h2, h3, h4⟩ := (compD_okr J Pd N step xs (i + 1) st1 (by simp at hn; omega) h1).eq
    have he : i + 1 + xs.length = i + (xs.length + 1) := by omega
    rw [he] at h4
    refine OkR.of_eq (a := d :: ys) (st := st2) ?_ ⟨by simp [h2], fun z hz => ?_, h4⟩
    · show (if true = true then (match f x st with
        | .ok y st => (match compD f (fun _ => true) xs st with
          | .ok ys st => .ok (match y with | some y => y :: ys | none => ys) st
          | _ => .bad)
        | _ => .bad) else R.bad) = _
      rw [if_pos rfl, e1]
      dsimp only
      rw [e2]
    · rcases List.mem_cons.mp hz with rfl | hz
      · exact hd
      · exact h3 z hz
theorem okr_comp {f : D → Sto → R (Option D)} {keep : Sto → Bool} {xs : List D} {st : Sto} {bx : Bool} {Q : D → Sto → Prop} (h : OkR (compD f keep xs st) fun ys st' => OkR (mkL bx ys st') Q) : OkR (match compD f keep xs st with
    | .ok ys st => mkL bx ys st
    | _ => .bad) Q := by
  obtain ⟨ys, st', e, h⟩ := h.eq
  rw [e]; exact h
theorem asg_d {C : Call} {base n : Nat} {ρ : En} {A st : Sto} {ks : List Ky} {vs : List D} {d y : D} {key : Ky} {o i : E} (hA : A = st ++ [.dct ks vs]) (ho : evE C base o ρ A = .ok (.ref n) A) (hi : evE C base i ρ A = .ok y A) (hy : keyOf y = some key) (hn : st.length = n) (hp : plain d = true) (hl : ks.length < SL) : asgR C base (.sub o i) d ρ A = .ok ρ (st ++ [.dct (dPut ks vs key d).1 (dPut ks vs key d).2]) := by
  subst hA
  have g : (st ++ [Ob.dct ks vs])[n]? = some (.dct ks vs) := top_get hn
  have w : (wOk base n d && decide (ks.length < SL)) = true := by rw [wok_plain hp]; exact decide_eq_true hl
  rw [asgR, ho, bind_ok', hi, bind_ok']
  simp only [g, hy, opt_some', bind_ok', w, if_true, top_set hn]
theorem top_vd {A : Sto} {ks : List Ky} {vs : List D} {q : Nat} (h : A.length = q) : vw (A ++ [.dct ks vs]) (.ref q) = .dct ks vs := by subst h; simp
theorem rep2 : repOk 1 2 = true := by decide +kernel
theorem repL2 (x : D) : repL 2 [x] = [x, x] := rfl
theorem w_frzd {C : Call} {base i n : Nat} {P : Fl → Prop} {ρ : En} {A : Sto} {ks : List Ky} {ds : List D} {ss : List S} (hv : getV ρ i = some (.ref n)) (hn : A.length = n) (hb : base ≤ n) (h : P (evSs C base ss (ρ.set i (some (.dct ks ds))) (A ++ [.dead]))) : P (evSs C base (.freeze i :: ss) ρ (A ++ [.dct ks ds])) := by
  refine w_freeze ?_
  have e : evS C base (.freeze i) ρ (A ++ [.dct ks ds]) = .nx (ρ.set i (some (.dct ks ds))) (A ++ [.dead]) := by
    simp only [evS, hv, hb, if_true, top_get hn, top_set hn]
  rw [e]
  exact then_nx h
theorem Does.goL {C : Call} {f : Nat} {ds : List D} {p K k j base : Nat} {post : D → Prop} {st A L : Sto} {Q : D → Sto → Prop} (h : Does C f ds p K post) (ha : At p k st j A) (hk : k + (j + K) ≤ 1000000000) (q : ∀ d A', At p k st (j + K) A' → post d → Q d (A' ++ L)) : OkR (callR C base true f ds (A ++ L)) Q :=
  h.use ha.ps (by omega) fun d A' hn hp hq => q d A' ⟨ha.nr.trans hn, hp.mono (by omega)⟩ hq
theorem At.len {p k j : Nat} {st A : Sto} (h : At p k st j A) : A.length = st.length := h.nr.len
theorem len_le {α : Type} {xs : List α} {n : Nat} (h : xs.length ≤ n) : xs.length ≤ n := h
end Rf

namespace K00
open PySem PySem.Spec PyProof.Rows L2 Rf
def mth (s : Stmt) (j : Nat) : Stmt := match s with
  | .ClassDef _ _ _ b _ _ _ _ _ _ _ => b.getD j (.Pass ⟨0, 0, 0, 0⟩)
  | s => s
def top (i : Nat) : Stmt := PySem.Challenge.pw_provenpicks_k00_errors_and_what_they_kee.main.body.getD i (.Pass ⟨0, 0, 0, 0⟩)
def bl__law_pool_0 : List S := [.asg (.nm 3) (.bin .mod false (.bi .int false [(.bin .add false (.bin .add false (.bin .mul false (.var 3) (.cst (.int 48271))) (.bin .mod false (.bi .int false [(.var 4)]) (.cst (.int 2147483629)))) (.cst (.int 11)))]) (.cst (.int 2147483647)))]
def b__law_pool : List S := [.asg (.nm 2) (.ife (.cmp .lt (.var 1) (.bi .len false [(.var 0)])) (.bi .int false [(.sub (.var 0) (.var 1))]) (.bin .add false (.bin .mul false (.cst (.int 18909)) (.var 1)) (.cst (.int 64888)))),
    .asg (.nm 3) (.bin .add false (.cst (.int 3815599)) (.bin .mul false (.cst (.int 7919)) (.var 1))),
    .forS (.nm 4) (.val (.slc false (.var 0) none (some (.cst (.int 63))))) bl__law_pool_0,
    .asg (.nm 3) (.bin .mod false (.bi .int false [(.bin .add false (.bin .add false (.bin .mul false (.var 3) (.cst (.int 69621))) (.bin .mul false (.bin .mod false (.bi .int false [(.var 2)]) (.cst (.int 2147483629))) (.cst (.int 16807)))) (.cst (.int 7)))]) (.cst (.int 2147483647))),
    .ret (.lst true [(.ife (.lor (.cmp .lt (.var 2) (.cst (.int 0))) (.cmp .ge (.var 2) (.bin .pow false (.cst (.int 10)) (.cst (.int 18))))) (.bi .abs false [(.var 2)]) (.cst (.int 0))), (.var 3), (.cst (.int 0))])]
def df__law_pool : Df := ⟨⟨("_law_pool", none), "_law_pool", "_law_pool", defArgs (top 22), defBody (top 22), defScope (top 22), [], []⟩, [("script" : Str), ("lap" : Str)], [("script" : Str), ("lap" : Str), ("cell" : Str), ("stirred" : Str), ("each" : Str)], ⟨2, 5, b__law_pool⟩⟩
def b__law_thing : List S := [.ret (.call true 4 [(.var 0), (.tup [(.cst (.non)), (.cst (.bl true)), (.cst (.bl false)), (.neg (.cst (.int 1))), (.cst (.str [])), (.cst (.str [109, 117, 115, 116])), (.lst false []), (.lst false [(.tup [(.cst (.str [121, 101, 115]))])]), (.dct false [] []), (.dct false [(.cst (.str [97]))] [(.cst (.int 1))]), (.tup [(.cst (.non))]), (.tup [(.tup [(.tup [(.tup [(.cst (.int 5))])])])]), (.tup [(.cst (.bl true))]), (.cst (.int 4)), (.tup [(.tup [(.cst (.str [109, 117, 115, 116]))])]), (.bin .pow false (.cst (.int 10)) (.cst (.int 29))), (.tup [(.tup [])]), (.tup [(.cst (.str [121, 101, 115]))]), (.tup [(.cst (.str [112, 105, 99, 107])), (.cst (.str [120]))]), (.tup [(.cst (.int 0)), (.cst (.int 0))]), (.tup [(.cst (.str [110, 117, 109, 98, 101, 114])), (.cst (.int 1))]), (.cst (.int 25))])])]
def df__law_thing : Df := ⟨⟨("_law_thing", none), "_law_thing", "_law_thing", defArgs (top 23), defBody (top 23), defScope (top 23), [], []⟩, [("pool" : Str)], [("pool" : Str)], ⟨1, 1, b__law_thing⟩⟩
def b__law_alike : List S := [.ife (.cmp .isN (.var 1) (.cst (.non))) [.ret (.cmp .isN (.var 0) (.cst (.non)))] [],
    .ife (.isi [.bool] (.var 1)) [.ret (.land (.isi [.bool] (.var 0)) (.cmp .eq (.var 0) (.var 1)))] [],
    .ife (.isi [.int] (.var 1)) [.ret (.land (.isi [.int] (.var 0)) (.land (.lnot (.isi [.bool] (.var 0))) (.cmp .eq (.var 0) (.var 1))))] [],
    .ife (.isi [.str] (.var 1)) [.ret (.land (.isi [.str] (.var 0)) (.cmp .eq (.var 0) (.var 1)))] [],
    .ife (.isi [.dict] (.var 1)) [.ife (.lor (.lnot (.isi [.dict] (.var 0))) (.cmp .ne (.bi .len false [(.var 0)]) (.bi .len false [(.var 1)]))) [.ret (.cst (.bl false))] [],
    .ret (.bi .all false [(.comp false [2] (.nm 2) (.keys 1) none (.land (.cmp .isIn (.var 2) (.var 0)) (.call true 2 [(.sub (.var 0) (.var 2)), (.sub (.var 1) (.var 2))])))])] [],
    .ife (.lor (.cmp .ne (.isi [.tuple] (.var 1)) (.isi [.tuple] (.var 0))) (.cmp .ne (.isi [.list] (.var 1)) (.isi [.list] (.var 0)))) [.ret (.cst (.bl false))] [],
    .ret (.land (.cmp .eq (.bi .len false [(.var 0)]) (.bi .len false [(.var 1)])) (.bi .all false [(.comp false [3, 4] (.tup [3, 4]) (.zip (.var 0) (.var 1)) none (.call true 2 [(.var 3), (.var 4)]))]))]
def df__law_alike : Df := ⟨⟨("_law_alike", none), "_law_alike", "_law_alike", defArgs (top 24), defBody (top 24), defScope (top 24), [], []⟩, [("told" : Str), ("due" : Str)], [("told" : Str), ("due" : Str), ("key" : Str), ("x" : Str), ("y" : Str)], ⟨2, 5, b__law_alike⟩⟩
def b__law_below : List S := [.ife (.cmp .gt (.sub (.var 0) (.cst (.int 0))) (.cst (.int 0))) [.asg (.nm 3) (.bin .mod false (.bi .int false [(.sub (.var 0) (.cst (.int 0)))]) (.var 1)),
    .asg (.sub (.var 0) (.cst (.int 0))) (.bin .fdiv false (.sub (.var 0) (.cst (.int 0))) (.var 1)),
    .ret (.var 3)] [],
    .asg (.sub (.var 0) (.cst (.int 2))) (.bin .add false (.sub (.var 0) (.cst (.int 2))) (.cst (.int 1))),
    .asg (.nm 2) (.bin .mod false (.bi .int false [(.bin .add false (.bin .add false (.bin .mul false (.sub (.var 0) (.cst (.int 1))) (.cst (.int 246209))) (.bin .mul false (.sub (.var 0) (.cst (.int 2))) (.cst (.int 238183)))) (.cst (.int 5)))]) (.cst (.int 2147483647))),
    .asg (.sub (.var 0) (.cst (.int 1))) (.bin .mod false (.bi .int false [(.bin .add false (.bin .mul false (.var 2) (.bin .add false (.bin .mod false (.bi .int false [(.var 2)]) (.cst (.int 4093))) (.cst (.int 850499)))) (.sub (.var 0) (.cst (.int 2))))]) (.cst (.int 2147483563))),
    .ret (.bin .mod false (.bi .int false [(.bin .fdiv false (.sub (.var 0) (.cst (.int 1))) (.cst (.int 61)))]) (.var 1))]
def df__law_below : Df := ⟨⟨("_law_below", none), "_law_below", "_law_below", defArgs (top 25), defBody (top 25), defScope (top 25), [], []⟩, [("pool" : Str), ("many" : Str)], [("pool" : Str), ("many" : Str), ("mixed" : Str), ("figure" : Str)], ⟨2, 4, b__law_below⟩⟩
def b__law_one : List S := [.ret (.sub (.var 1) (.call true 3 [(.var 0), (.bi .len false [(.var 1)])]))]
def df__law_one : Df := ⟨⟨("_law_one", none), "_law_one", "_law_one", defArgs (top 26), defBody (top 26), defScope (top 26), [], []⟩, [("pool" : Str), ("some" : Str)], [("pool" : Str), ("some" : Str)], ⟨2, 2, b__law_one⟩⟩
def b__law_made : List S := [.ife (.cmp .eq (.var 0) (.cst (.int 0))) [.ret (.ife (.var 2) (.mkxk 9 [(.var 1)]) (.mkx 9 [(.var 1)]))] [],
    .ife (.cmp .eq (.var 0) (.cst (.int 1))) [.ret (.ife (.var 2) (.mkxk 10 [(.var 1)]) (.mkx 10 [(.var 1)]))] [],
    .ife (.cmp .eq (.var 0) (.cst (.int 2))) [.ret (.ife (.var 2) (.mkxk 11 [(.var 1)]) (.mkx 11 [(.var 1)]))] [],
    .ife (.cmp .eq (.var 0) (.cst (.int 3))) [.ret (.ife (.var 2) (.mkxk 12 [(.var 1)]) (.mkx 12 [(.var 1)]))] [],
    .ife (.cmp .eq (.var 0) (.cst (.int 4))) [.ret (.ife (.var 2) (.mkxk 13 [(.var 1)]) (.mkx 13 [(.var 1)]))] [],
    .ife (.cmp .eq (.var 0) (.cst (.int 5))) [.ret (.ife (.var 2) (.mkxk 14 [(.var 1)]) (.mkx 14 [(.var 1)]))] [],
    .ife (.cmp .eq (.var 0) (.cst (.int 6))) [.ret (.ife (.var 2) (.mkxk 15 [(.var 1)]) (.mkx 15 [(.var 1)]))] [],
    .ife (.cmp .eq (.var 0) (.cst (.int 7))) [.ret (.ife (.var 2) (.mkxk 16 [(.var 1)]) (.mkx 16 [(.var 1)]))] [],
    .ife (.cmp .eq (.var 0) (.cst (.int 8))) [.ret (.ife (.var 2) (.mkxk 17 [(.var 1)]) (.mkx 17 [(.var 1)]))] [],
    .ife (.cmp .eq (.var 0) (.cst (.int 9))) [.ret (.ife (.var 2) (.mkxk 18 [(.var 1)]) (.mkx 18 [(.var 1)]))] [],
    .ife (.cmp .eq (.var 0) (.cst (.int 10))) [.ret (.ife (.var 2) (.mkxk 19 [(.var 1)]) (.mkx 19 [(.var 1)]))] [],
    .ret (.call true 6 [(.var 0), (.var 1), (.var 2)])]
def df__law_made : Df := ⟨⟨("_law_made", none), "_law_made", "_law_made", defArgs (top 27), defBody (top 27), defScope (top 27), [], []⟩, [("way" : Str), ("thing" : Str), ("is_named" : Str)], [("way" : Str), ("thing" : Str), ("is_named" : Str)], ⟨3, 3, b__law_made⟩⟩
def b__law_made_too : List S := [.ife (.cmp .eq (.var 0) (.cst (.int 11))) [.ret (.ife (.var 2) (.mkxk 3 [(.var 1)]) (.mkx 3 [(.var 1)]))] [],
    .ife (.cmp .eq (.var 0) (.cst (.int 12))) [.ret (.ife (.var 2) (.mkxk 4 [(.var 1)]) (.mkx 4 [(.var 1)]))] [],
    .ife (.cmp .eq (.var 0) (.cst (.int 13))) [.ret (.ife (.var 2) (.mkxk 5 [(.var 1)]) (.mkx 5 [(.var 1)]))] [],
    .ife (.cmp .eq (.var 0) (.cst (.int 14))) [.ret (.ife (.var 2) (.mkxk 2 [(.var 1)]) (.mkx 2 [(.var 1)]))] [],
    .ife (.cmp .eq (.var 0) (.cst (.int 15))) [.ret (.ife (.var 2) (.mkxk 6 [(.var 1)]) (.mkx 6 [(.var 1)]))] [],
    .ife (.cmp .eq (.var 0) (.cst (.int 16))) [.ret (.ife (.var 2) (.mkxk 1 [(.var 1), (.var 0)]) (.mkx 1 [(.var 1), (.var 0)]))] [],
    .ret (.ife (.cmp .eq (.var 0) (.cst (.int 17))) (.mkx 7 []) (.mkx 8 []))]
def df__law_made_too : Df := ⟨⟨("_law_made_too", none), "_law_made_too", "_law_made_too", defArgs (top 28), defBody (top 28), defScope (top 28), [], []⟩, [("way" : Str), ("thing" : Str), ("is_named" : Str)], [("way" : Str), ("thing" : Str), ("is_named" : Str)], ⟨3, 3, b__law_made_too⟩⟩
def b__law_raise : List S := [.ife (.cmp .eq (.var 0) (.cst (.int 0))) [.raise 9 [(.var 1)]] [],
    .ife (.cmp .eq (.var 0) (.cst (.int 1))) [.raise 10 [(.var 1)]] [],
    .ife (.cmp .eq (.var 0) (.cst (.int 2))) [.raise 11 [(.var 1)]] [],
    .ife (.cmp .eq (.var 0) (.cst (.int 3))) [.raise 12 [(.var 1)]] [],
    .ife (.cmp .eq (.var 0) (.cst (.int 4))) [.raise 13 [(.var 1)]] [],
    .ife (.cmp .eq (.var 0) (.cst (.int 5))) [.raise 14 [(.var 1)]] [],
    .ife (.cmp .eq (.var 0) (.cst (.int 6))) [.raise 15 [(.var 1)]] [],
    .ife (.cmp .eq (.var 0) (.cst (.int 7))) [.raise 16 [(.var 1)]] [],
    .ife (.cmp .eq (.var 0) (.cst (.int 8))) [.raise 17 [(.var 1)]] [],
    .ife (.cmp .eq (.var 0) (.cst (.int 9))) [.raise 18 [(.var 1)]] [],
    .ife (.cmp .eq (.var 0) (.cst (.int 10))) [.raise 19 [(.var 1)]] [],
    .ife (.cmp .eq (.var 0) (.cst (.int 11))) [.raise 3 [(.var 1)]] [],
    .ife (.cmp .eq (.var 0) (.cst (.int 12))) [.raise 4 [(.var 1)]] [],
    .ife (.cmp .eq (.var 0) (.cst (.int 13))) [.raise 5 [(.var 1)]] [],
    .ife (.cmp .eq (.var 0) (.cst (.int 14))) [.raise 2 [(.var 1)]] [],
    .ife (.cmp .eq (.var 0) (.cst (.int 15))) [.raise 6 [(.var 1)]] [],
    .ife (.cmp .eq (.var 0) (.cst (.int 16))) [.raise 1 [(.var 1), (.var 0)]] [],
    .ife (.cmp .eq (.var 0) (.cst (.int 17))) [.raise 7 []] [],
    .raise 8 []]
def df__law_raise : Df := ⟨⟨("_law_raise", none), "_law_raise", "_law_raise", defArgs (top 29), defBody (top 29), defScope (top 29), [], []⟩, [("way" : Str), ("thing" : Str)], [("way" : Str), ("thing" : Str)], ⟨2, 2, b__law_raise⟩⟩
def b__law_kept : List S := [.ife (.cmp .lt (.var 1) (.cst (.int 11))) [.ret (.xf 0 [(9, 0), (10, 0), (11, 0), (12, 0), (13, 0), (14, 0), (15, 0), (16, 0), (17, 0), (18, 0), (19, 0)])] [],
    .ife (.cmp .lt (.var 1) (.cst (.int 14))) [.ret (.xf 0 [(3, 0), (4, 0), (5, 0)])] [],
    .ife (.cmp .eq (.var 1) (.cst (.int 16))) [.ret (.tup [(.xf 0 [(1, 0), (2, 0)]), (.xf 0 [(1, 1)])])] [],
    .ret (.ife (.cmp .eq (.var 1) (.cst (.int 14))) (.xf 0 [(1, 0), (2, 0)]) (.ife (.cmp .eq (.var 1) (.cst (.int 15))) (.xf 0 [(6, 0)]) (.cst (.non))))]
def df__law_kept : Df := ⟨⟨("_law_kept", none), "_law_kept", "_law_kept", defArgs (top 30), defBody (top 30), defScope (top 30), [], []⟩, [("error" : Str), ("way" : Str)], [("error" : Str), ("way" : Str)], ⟨2, 2, b__law_kept⟩⟩
def b__law_kinds : List S := [.asg (.nm 1) (.lst false []),
    .asg (.nm 1) (.bin .add false (.var 1) (.lst false [(.isx 0 9 [9] [1, 2, 3, 4, 5, 6, 7, 8, 10, 11, 12, 13, 14, 15, 16, 17, 18, 19]), (.isx 0 10 [10] [1, 2, 3, 4, 5, 6, 7, 8, 9, 11, 12, 13, 14, 15, 16, 17, 18, 19]), (.isx 0 11 [11] [1, 2, 3, 4, 5, 6, 7, 8, 9, 10, 12, 13, 14, 15, 16, 17, 18, 19]), (.isx 0 12 [12] [1, 2, 3, 4, 5, 6, 7, 8, 9, 10, 11, 13, 14, 15, 16, 17, 18, 19])])),
    .asg (.nm 1) (.bin .add false (.var 1) (.lst false [(.isx 0 13 [13] [1, 2, 3, 4, 5, 6, 7, 8, 9, 10, 11, 12, 14, 15, 16, 17, 18, 19]), (.isx 0 14 [14] [1, 2, 3, 4, 5, 6, 7, 8, 9, 10, 11, 12, 13, 15, 16, 17, 18, 19]), (.isx 0 15 [15] [1, 2, 3, 4, 5, 6, 7, 8, 9, 10, 11, 12, 13, 14, 16, 17, 18, 19]), (.isx 0 16 [16] [1, 2, 3, 4, 5, 6, 7, 8, 9, 10, 11, 12, 13, 14, 15, 17, 18, 19])])),
    .asg (.nm 1) (.bin .add false (.var 1) (.lst false [(.isx 0 17 [17] [1, 2, 3, 4, 5, 6, 7, 8, 9, 10, 11, 12, 13, 14, 15, 16, 18, 19]), (.isx 0 18 [18] [1, 2, 3, 4, 5, 6, 7, 8, 9, 10, 11, 12, 13, 14, 15, 16, 17, 19]), (.isx 0 19 [19] [1, 2, 3, 4, 5, 6, 7, 8, 9, 10, 11, 12, 13, 14, 15, 16, 17, 18]), (.isx 0 3 [3] [1, 2, 4, 5, 6, 7, 8, 9, 10, 11, 12, 13, 14, 15, 16, 17, 18, 19])])),
    .asg (.nm 1) (.bin .add false (.var 1) (.lst false [(.isx 0 4 [4] [1, 2, 3, 5, 6, 7, 8, 9, 10, 11, 12, 13, 14, 15, 16, 17, 18, 19]), (.isx 0 5 [5] [1, 2, 3, 4, 6, 7, 8, 9, 10, 11, 12, 13, 14, 15, 16, 17, 18, 19]), (.isx 0 2 [2] [1, 3, 4, 5, 6, 7, 8, 9, 10, 11, 12, 13, 14, 15, 16, 17, 18, 19]), (.isx 0 6 [6] [1, 2, 3, 4, 5, 7, 8, 9, 10, 11, 12, 13, 14, 15, 16, 17, 18, 19])])),
    .asg (.nm 1) (.bin .add false (.var 1) (.lst false [(.isx 0 1 [1] [2, 3, 4, 5, 6, 7, 8, 9, 10, 11, 12, 13, 14, 15, 16, 17, 18, 19]), (.isx 0 7 [7] [1, 2, 3, 4, 5, 6, 8, 9, 10, 11, 12, 13, 14, 15, 16, 17, 18, 19]), (.isx 0 8 [8] [1, 2, 3, 4, 5, 6, 7, 9, 10, 11, 12, 13, 14, 15, 16, 17, 18, 19])])),
    .ret (.bi .tuple false [(.comp false [2, 3] (.tup [2, 3]) (.enul (.var 1)) (some (.var 3)) (.var 2))])]
def df__law_kinds : Df := ⟨⟨("_law_kinds", none), "_law_kinds", "_law_kinds", defArgs (top 31), defBody (top 31), defScope (top 31), [], []⟩, [("error" : Str)], [("error" : Str), ("found" : Str), ("at" : Str), ("so" : Str)], ⟨1, 4, b__law_kinds⟩⟩
def bl__law_right_0 : List S := [.asg (.nm 3) (.call true 1 [(.var 0)]),
    .par [5, 6] [(.ife (.cmp .eq (.var 2) (.cst (.int 16))) (.tup [(.var 3), (.cst (.int 16))]) (.ife (.cmp .lt (.var 2) (.cst (.int 16))) (.var 3) (.cst (.non)))), (.call true 5 [(.var 2), (.var 3), (.cmp .eq (.var 1) (.cst (.int 1)))])],
    .ife (.lor (.cmp .ne (.call true 9 [(.var 6)]) (.tup [(.var 2)])) (.lnot (.call true 2 [(.call true 8 [(.var 6), (.var 2)]), (.var 5)]))) [.ret (.cst (.bl false))] [],
    .tryS [.expr (.call true 7 [(.var 2), (.var 3)])] [.mk 0 [0, 1, 2, 3, 4, 5, 6, 7, 8, 9, 10, 11, 12, 13, 14, 15, 16, 17, 18, 19] [] (some 4) [.ife (.lor (.cmp .ne (.callx true 9 4 []) (.tup [(.var 2)])) (.lnot (.call true 2 [(.callx true 8 4 [(.var 2)]), (.var 5)]))) [.ret (.cst (.bl false))] []]]]
def bl__law_right_1 : List S := [.forS (.nm 2) (.rng1 (.cst (.int 19))) bl__law_right_0]
def b__law_right : List S := [.forS (.nm 1) (.rng1 (.cst (.int 3))) bl__law_right_1,
    .ret (.cst (.bl true))]
def df__law_right : Df := ⟨⟨("_law_right", none), "_law_right", "_law_right", defArgs (top 32), defBody (top 32), defScope (top 32), [], []⟩, [("pool" : Str)], [("pool" : Str), ("lap" : Str), ("way" : Str), ("thing" : Str), ("e" : Str), ("due" : Str), ("error" : Str)], ⟨1, 7, b__law_right⟩⟩
def b_law : List S := [.ret (.bi .all false [(.comp false [1] (.nm 1) (.rng1 (.bi .max2 false [(.cst (.int 1)), (.bi .min2 false [(.bi .len false [(.var 0)]), (.cst (.int 3))])])) none (.call true 10 [(.call false 0 [(.var 0), (.var 1)])]))])]
def df_law : Df := ⟨⟨("law", none), "law", "law", defArgs (top 33), defBody (top 33), defScope (top 33), [], []⟩, [("script" : Str)], [("script" : Str), ("lap" : Str)], ⟨1, 2, b_law⟩⟩
def dfs : List Df := [df__law_pool, df__law_thing, df__law_alike, df__law_below, df__law_one, df__law_made, df__law_made_too, df__law_raise, df__law_kept, df__law_kinds, df__law_right, df_law]
def kbs : List (Nat × Nat × List Nat × List Str) := []
def consts : List (String × D) := []
def ini_InvalidText : Df := ⟨⟨("InvalidText", some ("__init__" : Str)), "__init__", "InvalidText.__init__", defArgs (mth (top 2) 0), defBody (mth (top 2) 0), defScope (mth (top 2) 0), [], []⟩, [("self" : Str), ("row" : Str), ("sign" : Str)], [("self" : Str), ("row" : Str), ("sign" : Str)], ⟨0, 0, []⟩⟩
def ini_InvalidPlan : Df := ⟨⟨("InvalidPlan", some ("__init__" : Str)), "__init__", "InvalidPlan.__init__", defArgs (mth (top 3) 0), defBody (mth (top 3) 0), defScope (mth (top 3) 0), [], []⟩, [("self" : Str), ("row" : Str)], [("self" : Str), ("row" : Str)], ⟨0, 0, []⟩⟩
def ini_InvalidProof : Df := ⟨⟨("InvalidProof", some ("__init__" : Str)), "__init__", "InvalidProof.__init__", defArgs (mth (top 4) 0), defBody (mth (top 4) 0), defScope (mth (top 4) 0), [], []⟩, [("self" : Str), ("index" : Str)], [("self" : Str), ("index" : Str)], ⟨0, 0, []⟩⟩
def ini_InvalidRows : Df := ⟨⟨("InvalidRows", some ("__init__" : Str)), "__init__", "InvalidRows.__init__", defArgs (mth (top 5) 0), defBody (mth (top 5) 0), defScope (mth (top 5) 0), [], []⟩, [("self" : Str), ("index" : Str)], [("self" : Str), ("index" : Str)], ⟨0, 0, []⟩⟩
def ini_InvalidJournal : Df := ⟨⟨("InvalidJournal", some ("__init__" : Str)), "__init__", "InvalidJournal.__init__", defArgs (mth (top 6) 0), defBody (mth (top 6) 0), defScope (mth (top 6) 0), [], []⟩, [("self" : Str), ("index" : Str)], [("self" : Str), ("index" : Str)], ⟨0, 0, []⟩⟩
def ini_Barred : Df := ⟨⟨("Barred", some ("__init__" : Str)), "__init__", "Barred.__init__", defArgs (mth (top 7) 0), defBody (mth (top 7) 0), defScope (mth (top 7) 0), [], []⟩, [("self" : Str), ("reason" : Str)], [("self" : Str), ("reason" : Str)], ⟨0, 0, []⟩⟩
def ini_InvalidTree : Df := ⟨⟨("InvalidTree", some ("__init__" : Str)), "__init__", "InvalidTree.__init__", defArgs (mth (top 10) 0), defBody (mth (top 10) 0), defScope (mth (top 10) 0), [], []⟩, [("self" : Str), ("given" : Str)], [("self" : Str), ("given" : Str)], ⟨0, 0, []⟩⟩
def ini_InvalidChoice : Df := ⟨⟨("InvalidChoice", some ("__init__" : Str)), "__init__", "InvalidChoice.__init__", defArgs (mth (top 11) 0), defBody (mth (top 11) 0), defScope (mth (top 11) 0), [], []⟩, [("self" : Str), ("given" : Str)], [("self" : Str), ("given" : Str)], ⟨0, 0, []⟩⟩
def ini_InvalidNumber : Df := ⟨⟨("InvalidNumber", some ("__init__" : Str)), "__init__", "InvalidNumber.__init__", defArgs (mth (top 12) 0), defBody (mth (top 12) 0), defScope (mth (top 12) 0), [], []⟩, [("self" : Str), ("given" : Str)], [("self" : Str), ("given" : Str)], ⟨0, 0, []⟩⟩
def ini_InvalidFormula : Df := ⟨⟨("InvalidFormula", some ("__init__" : Str)), "__init__", "InvalidFormula.__init__", defArgs (mth (top 13) 0), defBody (mth (top 13) 0), defScope (mth (top 13) 0), [], []⟩, [("self" : Str), ("given" : Str)], [("self" : Str), ("given" : Str)], ⟨0, 0, []⟩⟩
def ini_InvalidRow : Df := ⟨⟨("InvalidRow", some ("__init__" : Str)), "__init__", "InvalidRow.__init__", defArgs (mth (top 14) 0), defBody (mth (top 14) 0), defScope (mth (top 14) 0), [], []⟩, [("self" : Str), ("given" : Str)], [("self" : Str), ("given" : Str)], ⟨0, 0, []⟩⟩
def ini_InvalidAssignment : Df := ⟨⟨("InvalidAssignment", some ("__init__" : Str)), "__init__", "InvalidAssignment.__init__", defArgs (mth (top 15) 0), defBody (mth (top 15) 0), defScope (mth (top 15) 0), [], []⟩, [("self" : Str), ("given" : Str)], [("self" : Str), ("given" : Str)], ⟨0, 0, []⟩⟩
def ini_InvalidNames : Df := ⟨⟨("InvalidNames", some ("__init__" : Str)), "__init__", "InvalidNames.__init__", defArgs (mth (top 16) 0), defBody (mth (top 16) 0), defScope (mth (top 16) 0), [], []⟩, [("self" : Str), ("given" : Str)], [("self" : Str), ("given" : Str)], ⟨0, 0, []⟩⟩
def ini_InvalidLot : Df := ⟨⟨("InvalidLot", some ("__init__" : Str)), "__init__", "InvalidLot.__init__", defArgs (mth (top 17) 0), defBody (mth (top 17) 0), defScope (mth (top 17) 0), [], []⟩, [("self" : Str), ("given" : Str)], [("self" : Str), ("given" : Str)], ⟨0, 0, []⟩⟩
def ini_InvalidQuestion : Df := ⟨⟨("InvalidQuestion", some ("__init__" : Str)), "__init__", "InvalidQuestion.__init__", defArgs (mth (top 18) 0), defBody (mth (top 18) 0), defScope (mth (top 18) 0), [], []⟩, [("self" : Str), ("given" : Str)], [("self" : Str), ("given" : Str)], ⟨0, 0, []⟩⟩
def ini_NotADesk : Df := ⟨⟨("NotADesk", some ("__init__" : Str)), "__init__", "NotADesk.__init__", defArgs (mth (top 19) 0), defBody (mth (top 19) 0), defScope (mth (top 19) 0), [], []⟩, [("self" : Str), ("given" : Str)], [("self" : Str), ("given" : Str)], ⟨0, 0, []⟩⟩
def ini_TooMany : Df := ⟨⟨("TooMany", some ("__init__" : Str)), "__init__", "TooMany.__init__", defArgs (mth (top 20) 0), defBody (mth (top 20) 0), defScope (mth (top 20) 0), [], []⟩, [("self" : Str), ("given" : Str)], [("self" : Str), ("given" : Str)], ⟨0, 0, []⟩⟩
def exs : List Xd := [⟨"PickError", [], none, false⟩, ⟨"InvalidText", [("row" : Str), ("sign" : Str)], some ini_InvalidText, false⟩, ⟨"InvalidPlan", [("row" : Str)], some ini_InvalidPlan, false⟩, ⟨"InvalidProof", [("index" : Str)], some ini_InvalidProof, false⟩, ⟨"InvalidRows", [("index" : Str)], some ini_InvalidRows, false⟩, ⟨"InvalidJournal", [("index" : Str)], some ini_InvalidJournal, false⟩, ⟨"Barred", [("reason" : Str)], some ini_Barred, false⟩, ⟨"NoGoal", [], none, true⟩, ⟨"Unlike", [], none, true⟩, ⟨"InvalidTree", [("given" : Str)], some ini_InvalidTree, false⟩, ⟨"InvalidChoice", [("given" : Str)], some ini_InvalidChoice, false⟩, ⟨"InvalidNumber", [("given" : Str)], some ini_InvalidNumber, false⟩, ⟨"InvalidFormula", [("given" : Str)], some ini_InvalidFormula, false⟩, ⟨"InvalidRow", [("given" : Str)], some ini_InvalidRow, false⟩, ⟨"InvalidAssignment", [("given" : Str)], some ini_InvalidAssignment, false⟩, ⟨"InvalidNames", [("given" : Str)], some ini_InvalidNames, false⟩, ⟨"InvalidLot", [("given" : Str)], some ini_InvalidLot, false⟩, ⟨"InvalidQuestion", [("given" : Str)], some ini_InvalidQuestion, false⟩, ⟨"NotADesk", [("given" : Str)], some ini_NotADesk, false⟩, ⟨"TooMany", [("given" : Str)], some ini_TooMany, false⟩]
def exms : List (Nat × Nat × Bool) := [(0, 0, true), (1, 0, true), (2, 0, true), (3, 0, true), (4, 0, true), (5, 0, true), (6, 0, true), (7, 0, true), (8, 0, true), (9, 0, true), (10, 0, true), (11, 0, true), (12, 0, true), (13, 0, true), (14, 0, true), (15, 0, true), (16, 0, true), (17, 0, true), (18, 0, true), (19, 0, true)]
def kits : List (Nat × Nat × Bool) := [(1, 1, true), (1, 2, false), (1, 3, false), (1, 4, false), (1, 5, false), (1, 6, false), (1, 7, false), (1, 8, false), (1, 9, false), (1, 10, false), (1, 11, false), (1, 12, false), (1, 13, false), (1, 14, false), (1, 15, false), (1, 16, false), (1, 17, false), (1, 18, false), (1, 19, false), (2, 1, false), (2, 2, true), (2, 3, false), (2, 4, false), (2, 5, false), (2, 6, false), (2, 7, false), (2, 8, false), (2, 9, false), (2, 10, false), (2, 11, false), (2, 12, false), (2, 13, false), (2, 14, false), (2, 15, false), (2, 16, false), (2, 17, false), (2, 18, false), (2, 19, false), (3, 1, false), (3, 2, false), (3, 3, true), (3, 4, false), (3, 5, false), (3, 6, false), (3, 7, false), (3, 8, false), (3, 9, false), (3, 10, false), (3, 11, false), (3, 12, false), (3, 13, false), (3, 14, false), (3, 15, false), (3, 16, false), (3, 17, false), (3, 18, false), (3, 19, false), (4, 1, false), (4, 2, false), (4, 3, false), (4, 4, true), (4, 5, false), (4, 6, false), (4, 7, false), (4, 8, false), (4, 9, false), (4, 10, false), (4, 11, false), (4, 12, false), (4, 13, false), (4, 14, false), (4, 15, false), (4, 16, false), (4, 17, false), (4, 18, false), (4, 19, false), (5, 1, false), (5, 2, false), (5, 3, false), (5, 4, false), (5, 5, true), (5, 6, false), (5, 7, false), (5, 8, false), (5, 9, false), (5, 10, false), (5, 11, false), (5, 12, false), (5, 13, false), (5, 14, false), (5, 15, false), (5, 16, false), (5, 17, false), (5, 18, false), (5, 19, false), (6, 1, false), (6, 2, false), (6, 3, false), (6, 4, false), (6, 5, false), (6, 6, true), (6, 7, false), (6, 8, false), (6, 9, false), (6, 10, false), (6, 11, false), (6, 12, false), (6, 13, false), (6, 14, false), (6, 15, false), (6, 16, false), (6, 17, false), (6, 18, false), (6, 19, false), (7, 1, false), (7, 2, false), (7, 3, false), (7, 4, false), (7, 5, false), (7, 6, false), (7, 7, true), (7, 8, false), (7, 9, false), (7, 10, false), (7, 11, false), (7, 12, false), (7, 13, false), (7, 14, false), (7, 15, false), (7, 16, false), (7, 17, false), (7, 18, false), (7, 19, false), (8, 1, false), (8, 2, false), (8, 3, false), (8, 4, false), (8, 5, false), (8, 6, false), (8, 7, false), (8, 8, true), (8, 9, false), (8, 10, false), (8, 11, false), (8, 12, false), (8, 13, false), (8, 14, false), (8, 15, false), (8, 16, false), (8, 17, false), (8, 18, false), (8, 19, false), (9, 1, false), (9, 2, false), (9, 3, false), (9, 4, false), (9, 5, false), (9, 6, false), (9, 7, false), (9, 8, false), (9, 9, true), (9, 10, false), (9, 11, false), (9, 12, false), (9, 13, false), (9, 14, false), (9, 15, false), (9, 16, false), (9, 17, false), (9, 18, false), (9, 19, false), (10, 1, false), (10, 2, false), (10, 3, false), (10, 4, false), (10, 5, false), (10, 6, false), (10, 7, false), (10, 8, false), (10, 9, false), (10, 10, true), (10, 11, false), (10, 12, false), (10, 13, false), (10, 14, false), (10, 15, false), (10, 16, false), (10, 17, false), (10, 18, false), (10, 19, false), (11, 1, false), (11, 2, false), (11, 3, false), (11, 4, false), (11, 5, false), (11, 6, false), (11, 7, false), (11, 8, false), (11, 9, false), (11, 10, false), (11, 11, true), (11, 12, false), (11, 13, false), (11, 14, false), (11, 15, false), (11, 16, false), (11, 17, false), (11, 18, false), (11, 19, false), (12, 1, false), (12, 2, false), (12, 3, false), (12, 4, false), (12, 5, false), (12, 6, false), (12, 7, false), (12, 8, false), (12, 9, false), (12, 10, false), (12, 11, false), (12, 12, true), (12, 13, false), (12, 14, false), (12, 15, false), (12, 16, false), (12, 17, false), (12, 18, false), (12, 19, false), (13, 1, false), (13, 2, false), (13, 3, false), (13, 4, false), (13, 5, false), (13, 6, false), (13, 7, false), (13, 8, false), (13, 9, false), (13, 10, false), (13, 11, false), (13, 12, false), (13, 13, true), (13, 14, false), (13, 15, false), (13, 16, false), (13, 17, false), (13, 18, false), (13, 19, false), (14, 1, false), (14, 2, false), (14, 3, false), (14, 4, false), (14, 5, false), (14, 6, false), (14, 7, false), (14, 8, false), (14, 9, false), (14, 10, false), (14, 11, false), (14, 12, false), (14, 13, false), (14, 14, true), (14, 15, false), (14, 16, false), (14, 17, false), (14, 18, false), (14, 19, false), (15, 1, false), (15, 2, false), (15, 3, false), (15, 4, false), (15, 5, false), (15, 6, false), (15, 7, false), (15, 8, false), (15, 9, false), (15, 10, false), (15, 11, false), (15, 12, false), (15, 13, false), (15, 14, false), (15, 15, true), (15, 16, false), (15, 17, false), (15, 18, false), (15, 19, false), (16, 1, false), (16, 2, false), (16, 3, false), (16, 4, false), (16, 5, false), (16, 6, false), (16, 7, false), (16, 8, false), (16, 9, false), (16, 10, false), (16, 11, false), (16, 12, false), (16, 13, false), (16, 14, false), (16, 15, false), (16, 16, true), (16, 17, false), (16, 18, false), (16, 19, false), (17, 1, false), (17, 2, false), (17, 3, false), (17, 4, false), (17, 5, false), (17, 6, false), (17, 7, false), (17, 8, false), (17, 9, false), (17, 10, false), (17, 11, false), (17, 12, false), (17, 13, false), (17, 14, false), (17, 15, false), (17, 16, false), (17, 17, true), (17, 18, false), (17, 19, false), (18, 1, false), (18, 2, false), (18, 3, false), (18, 4, false), (18, 5, false), (18, 6, false), (18, 7, false), (18, 8, false), (18, 9, false), (18, 10, false), (18, 11, false), (18, 12, false), (18, 13, false), (18, 14, false), (18, 15, false), (18, 16, false), (18, 17, false), (18, 18, true), (18, 19, false), (19, 1, false), (19, 2, false), (19, 3, false), (19, 4, false), (19, 5, false), (19, 6, false), (19, 7, false), (19, 8, false), (19, 9, false), (19, 10, false), (19, 11, false), (19, 12, false), (19, 13, false), (19, 14, false), (19, 15, false), (19, 16, false), (19, 17, false), (19, 18, false), (19, 19, true)]
def lw : Lw := ⟨dfs, exs, exms, consts, kbs, kits, [2, 8, 9]⟩
abbrev T : Tx := lw.tx
theorem ok__law_pool : DefOk T df__law_pool.d df__law_pool.ps df__law_pool.N df__law_pool.fd := ⟨fun _ _ _ _ _ _ us hl => match us, hl with | [_, _], _ => rfl, ⟨rfl, rfl, rfl, by decide +kernel, rfl, by decide +kernel, by decide +kernel⟩, rfl, rfl, by decide +kernel, rfl, rfl, rfl⟩
theorem ok__law_thing : DefOk T df__law_thing.d df__law_thing.ps df__law_thing.N df__law_thing.fd := ⟨fun _ _ _ _ _ _ us hl => match us, hl with | [_], _ => rfl, ⟨rfl, rfl, rfl, by decide +kernel, rfl, by decide +kernel, by decide +kernel⟩, rfl, rfl, by decide +kernel, rfl, rfl, rfl⟩
theorem ok__law_alike : DefOk T df__law_alike.d df__law_alike.ps df__law_alike.N df__law_alike.fd := ⟨fun _ _ _ _ _ _ us hl => match us, hl with | [_, _], _ => rfl, ⟨rfl, rfl, rfl, by decide +kernel, rfl, by decide +kernel, by decide +kernel⟩, rfl, rfl, by decide +kernel, rfl, rfl, rfl⟩
theorem ok__law_below : DefOk T df__law_below.d df__law_below.ps df__law_below.N df__law_below.fd := ⟨fun _ _ _ _ _ _ us hl => match us, hl with | [_, _], _ => rfl, ⟨rfl, rfl, rfl, by decide +kernel, rfl, by decide +kernel, by decide +kernel⟩, rfl, rfl, by decide +kernel, rfl, rfl, rfl⟩
theorem ok__law_one : DefOk T df__law_one.d df__law_one.ps df__law_one.N df__law_one.fd := ⟨fun _ _ _ _ _ _ us hl => match us, hl with | [_, _], _ => rfl, ⟨rfl, rfl, rfl, by decide +kernel, rfl, by decide +kernel, by decide +kernel⟩, rfl, rfl, by decide +kernel, rfl, rfl, rfl⟩
theorem ok__law_made : DefOk T df__law_made.d df__law_made.ps df__law_made.N df__law_made.fd := ⟨fun _ _ _ _ _ _ us hl => match us, hl with | [_, _, _], _ => rfl, ⟨rfl, rfl, rfl, by decide +kernel, rfl, by decide +kernel, by decide +kernel⟩, rfl, rfl, by decide +kernel, rfl, rfl, rfl⟩
theorem ok__law_made_too : DefOk T df__law_made_too.d df__law_made_too.ps df__law_made_too.N df__law_made_too.fd := ⟨fun _ _ _ _ _ _ us hl => match us, hl with | [_, _, _], _ => rfl, ⟨rfl, rfl, rfl, by decide +kernel, rfl, by decide +kernel, by decide +kernel⟩, rfl, rfl, by decide +kernel, rfl, rfl, rfl⟩
theorem ok__law_raise : DefOk T df__law_raise.d df__law_raise.ps df__law_raise.N df__law_raise.fd := ⟨fun _ _ _ _ _ _ us hl => match us, hl with | [_, _], _ => rfl, ⟨rfl, rfl, rfl, by decide +kernel, rfl, by decide +kernel, by decide +kernel⟩, rfl, rfl, by decide +kernel, rfl, rfl, rfl⟩
theorem ok__law_kept : DefOk T df__law_kept.d df__law_kept.ps df__law_kept.N df__law_kept.fd := ⟨fun _ _ _ _ _ _ us hl => match us, hl with | [_, _], _ => rfl, ⟨rfl, rfl, rfl, by decide +kernel, rfl, by decide +kernel, by decide +kernel⟩, rfl, rfl, by decide +kernel, rfl, rfl, rfl⟩
theorem ok__law_kinds : DefOk T df__law_kinds.d df__law_kinds.ps df__law_kinds.N df__law_kinds.fd := ⟨fun _ _ _ _ _ _ us hl => match us, hl with | [_], _ => rfl, ⟨rfl, rfl, rfl, by decide +kernel, rfl, by decide +kernel, by decide +kernel⟩, rfl, rfl, by decide +kernel, rfl, rfl, rfl⟩
theorem ok__law_right : DefOk T df__law_right.d df__law_right.ps df__law_right.N df__law_right.fd := ⟨fun _ _ _ _ _ _ us hl => match us, hl with | [_], _ => rfl, ⟨rfl, rfl, rfl, by decide +kernel, rfl, by decide +kernel, by decide +kernel⟩, rfl, rfl, by decide +kernel, rfl, rfl, rfl⟩
theorem ok_law : DefOk T df_law.d df_law.ps df_law.N df_law.fd := ⟨fun _ _ _ _ _ _ us hl => match us, hl with | [_], _ => rfl, ⟨rfl, rfl, rfl, by decide +kernel, rfl, by decide +kernel, by decide +kernel⟩, rfl, rfl, by decide +kernel, rfl, rfl, rfl⟩
theorem all_ok : AllD T dfs := ⟨ok__law_pool, ok__law_thing, ok__law_alike, ok__law_below, ok__law_one, ok__law_made, ok__law_made_too, ok__law_raise, ok__law_kept, ok__law_kinds, ok__law_right, ok_law, trivial⟩
theorem allK : AllK dfs kbs := trivial
theorem allX : AllX exs := ⟨(fun f e => by cases e), ⟨(fun f e => by cases e; exact ⟨rfl, fun _ _ _ _ _ _ us hl => match us, hl with | [_, _, _], _ => rfl, fun _ _ _ _ _ _ v ws hl => match ws, hl with | [_, _], _ => rfl, ⟨rfl, rfl, rfl, by decide +kernel, rfl, by decide +kernel, by decide +kernel⟩, by decide +kernel, rfl, rfl, by decide, by decide, rfl, rfl⟩), ⟨(fun f e => by cases e; exact ⟨rfl, fun _ _ _ _ _ _ us hl => match us, hl with | [_, _], _ => rfl, fun _ _ _ _ _ _ v ws hl => match ws, hl with | [_], _ => rfl, ⟨rfl, rfl, rfl, by decide +kernel, rfl, by decide +kernel, by decide +kernel⟩, by decide +kernel, rfl, rfl, by decide, by decide, rfl, rfl⟩), ⟨(fun f e => by cases e; exact ⟨rfl, fun _ _ _ _ _ _ us hl => match us, hl with | [_, _], _ => rfl, fun _ _ _ _ _ _ v ws hl => match ws, hl with | [_], _ => rfl, ⟨rfl, rfl, rfl, by decide +kernel, rfl, by decide +kernel, by decide +kernel⟩, by decide +kernel, rfl, rfl, by decide, by decide, rfl, rfl⟩), ⟨(fun f e => by cases e; exact ⟨rfl, fun _ _ _ _ _ _ us hl => match us, hl with | [_, _], _ => rfl, fun _ _ _ _ _ _ v ws hl => match ws, hl with | [_], _ => rfl, ⟨rfl, rfl, rfl, by decide +kernel, rfl, by decide +kernel, by decide +kernel⟩, by decide +kernel, rfl, rfl, by decide, by decide, rfl, rfl⟩), ⟨(fun f e => by cases e; exact ⟨rfl, fun _ _ _ _ _ _ us hl => match us, hl with | [_, _], _ => rfl, fun _ _ _ _ _ _ v ws hl => match ws, hl with | [_], _ => rfl, ⟨rfl, rfl, rfl, by decide +kernel, rfl, by decide +kernel, by decide +kernel⟩, by decide +kernel, rfl, rfl, by decide, by decide, rfl, rfl⟩), ⟨(fun f e => by cases e; exact ⟨rfl, fun _ _ _ _ _ _ us hl => match us, hl with | [_, _], _ => rfl, fun _ _ _ _ _ _ v ws hl => match ws, hl with | [_], _ => rfl, ⟨rfl, rfl, rfl, by decide +kernel, rfl, by decide +kernel, by decide +kernel⟩, by decide +kernel, rfl, rfl, by decide, by decide, rfl, rfl⟩), ⟨(fun f e => by cases e), ⟨(fun f e => by cases e), ⟨(fun f e => by cases e; exact ⟨rfl, fun _ _ _ _ _ _ us hl => match us, hl with | [_, _], _ => rfl, fun _ _ _ _ _ _ v ws hl => match ws, hl with | [_], _ => rfl, ⟨rfl, rfl, rfl, by decide +kernel, rfl, by decide +kernel, by decide +kernel⟩, by decide +kernel, rfl, rfl, by decide, by decide, rfl, rfl⟩), ⟨(fun f e => by cases e; exact ⟨rfl, fun _ _ _ _ _ _ us hl => match us, hl with | [_, _], _ => rfl, fun _ _ _ _ _ _ v ws hl => match ws, hl with | [_], _ => rfl, ⟨rfl, rfl, rfl, by decide +kernel, rfl, by decide +kernel, by decide +kernel⟩, by decide +kernel, rfl, rfl, by decide, by decide, rfl, rfl⟩), ⟨(fun f e => by cases e; exact ⟨rfl, fun _ _ _ _ _ _ us hl => match us, hl with | [_, _], _ => rfl, fun _ _ _ _ _ _ v ws hl => match ws, hl with | [_], _ => rfl, ⟨rfl, rfl, rfl, by decide +kernel, rfl, by decide +kernel, by decide +kernel⟩, by decide +kernel, rfl, rfl, by decide, by decide, rfl, rfl⟩), ⟨(fun f e => by cases e; exact ⟨rfl, fun _ _ _ _ _ _ us hl => match us, hl with | [_, _], _ => rfl, fun _ _ _ _ _ _ v ws hl => match ws, hl with | [_], _ => rfl, ⟨rfl, rfl, rfl, by decide +kernel, rfl, by decide +kernel, by decide +kernel⟩, by decide +kernel, rfl, rfl, by decide, by decide, rfl, rfl⟩), ⟨(fun f e => by cases e; exact ⟨rfl, fun _ _ _ _ _ _ us hl => match us, hl with | [_, _], _ => rfl, fun _ _ _ _ _ _ v ws hl => match ws, hl with | [_], _ => rfl, ⟨rfl, rfl, rfl, by decide +kernel, rfl, by decide +kernel, by decide +kernel⟩, by decide +kernel, rfl, rfl, by decide, by decide, rfl, rfl⟩), ⟨(fun f e => by cases e; exact ⟨rfl, fun _ _ _ _ _ _ us hl => match us, hl with | [_, _], _ => rfl, fun _ _ _ _ _ _ v ws hl => match ws, hl with | [_], _ => rfl, ⟨rfl, rfl, rfl, by decide +kernel, rfl, by decide +kernel, by decide +kernel⟩, by decide +kernel, rfl, rfl, by decide, by decide, rfl, rfl⟩), ⟨(fun f e => by cases e; exact ⟨rfl, fun _ _ _ _ _ _ us hl => match us, hl with | [_, _], _ => rfl, fun _ _ _ _ _ _ v ws hl => match ws, hl with | [_], _ => rfl, ⟨rfl, rfl, rfl, by decide +kernel, rfl, by decide +kernel, by decide +kernel⟩, by decide +kernel, rfl, rfl, by decide, by decide, rfl, rfl⟩), ⟨(fun f e => by cases e; exact ⟨rfl, fun _ _ _ _ _ _ us hl => match us, hl with | [_, _], _ => rfl, fun _ _ _ _ _ _ v ws hl => match ws, hl with | [_], _ => rfl, ⟨rfl, rfl, rfl, by decide +kernel, rfl, by decide +kernel, by decide +kernel⟩, by decide +kernel, rfl, rfl, by decide, by decide, rfl, rfl⟩), ⟨(fun f e => by cases e; exact ⟨rfl, fun _ _ _ _ _ _ us hl => match us, hl with | [_, _], _ => rfl, fun _ _ _ _ _ _ v ws hl => match ws, hl with | [_], _ => rfl, ⟨rfl, rfl, rfl, by decide +kernel, rfl, by decide +kernel, by decide +kernel⟩, by decide +kernel, rfl, rfl, by decide, by decide, rfl, rfl⟩), ⟨(fun f e => by cases e; exact ⟨rfl, fun _ _ _ _ _ _ us hl => match us, hl with | [_, _], _ => rfl, fun _ _ _ _ _ _ v ws hl => match ws, hl with | [_], _ => rfl, ⟨rfl, rfl, rfl, by decide +kernel, rfl, by decide +kernel, by decide +kernel⟩, by decide +kernel, rfl, rfl, by decide, by decide, rfl, rfl⟩), ⟨(fun f e => by cases e; exact ⟨rfl, fun _ _ _ _ _ _ us hl => match us, hl with | [_, _], _ => rfl, fun _ _ _ _ _ _ v ws hl => match ws, hl with | [_], _ => rfl, ⟨rfl, rfl, rfl, by decide +kernel, rfl, by decide +kernel, by decide +kernel⟩, by decide +kernel, rfl, rfl, by decide, by decide, rfl, rfl⟩), trivial⟩⟩⟩⟩⟩⟩⟩⟩⟩⟩⟩⟩⟩⟩⟩⟩⟩⟩⟩⟩
theorem hot_ok : (lw.hots.all fun i => hotB lw.tx lw.xs i) = true := by decide +kernel
end K00

namespace K00
open Rf
abbrev Tb := tbOf lw.xs
abbrev BelowS (C : Call) : Prop := ∀ (p : Nat) (m : Int), 0 < m → m < 2 ^ 40 → Does C 3 [.ref p, .int m] p 1 (fun d => ∃ v : Int, d = .int v ∧ 0 ≤ v ∧ v < m)
abbrev OneS (C : Call) : Prop := ∀ (p : Nat) (xs : List D), xs ≠ [] → xs.length < 1000000 → plains xs = true → Does C 4 [.ref p, .lst xs] p 1 (fun d => d ∈ xs) ∧ Does C 4 [.ref p, .tup xs] p 1 (fun d => d ∈ xs)
section
variable {C : Call}
theorem below_run {p : Nat} {m : Int} (hm : 0 < m) (hm2 : m < 2 ^ 40) : RunDoes C ⟨2, 4, b__law_below⟩ [.ref p, .int m] p 1 (fun d => ∃ v : Int, d = .int v ∧ 0 ≤ v ∧ v < m) := by
  intro st k hps hk
  obtain ⟨o, hp, a, b, c, rfl, ha, hb, hb2, hc, hc2⟩ := hps
  have lt : p < st.length := (List.getElem?_eq_some_iff.mp hp).1
  have g1 : ∀ o : Ob, (st.set p o)[p]? = some o := fun o => List.getElem?_set_self lt
  have v0 : vw st (.ref p) = .lst [.int a, .int b, .int c] := by
    show (match st[p]? with | some (.lst ds) => D.lst ds | some (.dct ks vs) => .dct ks vs | _ => .ref p) = _
    rw [hp]
  have v1 : ∀ ds, vw (st.set p (.lst ds)) (.ref p) = .lst ds := fun ds => by
    show (match (st.set p (.lst ds))[p]? with | some (.lst ds) => D.lst ds | some (.dct ks vs) => .dct ks vs | _ => .ref p) = _
    rw [g1]
  have hd := div_ok hm (by omega)
  by_cases h0 : 0 < a
  · refine OkR.of_eq (a := .int (a % m)) (st := st.set p (.lst [.int (a / m), .int b, .int c])) ?_ (fin_ok (k := k) ⟨_, rfl⟩ ⟨_, g1 _, a / m, b, c, rfl, Int.ediv_nonneg ha (by omega), hb, hb2, hc, by omega⟩ rfl ⟨_, rfl, Int.emod_nonneg _ (by omega), Int.emod_lt_of_pos _ hm⟩)
    simp [runFd, b__law_below, evSs, evS, evE, evEs, getV, v0, subD, atI, ixN, cmpD, truth, isExc, h0, biR, binR, hm, hd, asgR, asgRs, hp, wOk, plain]
  · have hS0 : 0 ≤ (b * 246209 + (c + 1) * 238183 + 5) % 2147483647 := Int.emod_nonneg _ (by decide)
    have hS1 : (b * 246209 + (c + 1) * 238183 + 5) % 2147483647 < 2147483647 := Int.emod_lt_of_pos _ (by decide)
    have m1 : mulOk b 246209 = true := mul_ok (by omega) (by omega) (by decide) (by decide)
    have m2 : mulOk (c + 1) 238183 = true := mul_ok (by omega) (by omega) (by decide) (by decide)
    have m3 : mulOk ((b * 246209 + (c + 1) * 238183 + 5) % 2147483647) ((b * 246209 + (c + 1) * 238183 + 5) % 2147483647 % 4093 + 850499) = true := by
      have h1 : 0 ≤ (b * 246209 + (c + 1) * 238183 + 5) % 2147483647 % 4093 := Int.emod_nonneg _ (by decide)
      have h2 : (b * 246209 + (c + 1) * 238183 + 5) % 2147483647 % 4093 < 4093 := Int.emod_lt_of_pos _ (by decide)
      exact mul_ok (by omega) (by omega) (by omega) (by omega)
    have d1 : divOk 61 = true := by decide
    generalize hS : (b * 246209 + (c + 1) * 238183 + 5) % 2147483647 = S at hS0 hS1 m3
    have hB0 : 0 ≤ (S * (S % 4093 + 850499) + (c + 1)) % 2147483563 := Int.emod_nonneg _ (by decide)
    have hB1 : (S * (S % 4093 + 850499) + (c + 1)) % 2147483563 < 2147483563 := Int.emod_lt_of_pos _ (by decide)
    generalize hB : (S * (S % 4093 + 850499) + (c + 1)) % 2147483563 = B at hB0 hB1
    refine OkR.of_eq (a := .int ((B / 61) % m)) (st := st.set p (.lst [.int a, .int B, .int (c + 1)])) ?_ (fin_ok (k := k) ⟨_, rfl⟩ ⟨_, g1 _, a, B, c + 1, rfl, ha, hB0, by omega, by omega, by omega⟩ rfl ⟨_, rfl, Int.emod_nonneg _ (by omega), Int.emod_lt_of_pos _ hm⟩)
    simp [runFd, b__law_below, evSs, evS, evE, evEs, getV, v0, v1, subD, atI, ixN, cmpD, truth, isExc, h0, biR, asgR, asgRs, hp, g1, wOk, plain, binR, m1, m2, hS, m3, hB, d1, hm]
theorem one_run (B : BelowS C) {p : Nat} {xs : List D} (h : xs ≠ []) (hl : xs.length < 1000000) (hp : plains xs = true) : RunDoes C ⟨2, 2, b__law_one⟩ [.ref p, .lst xs] p 1 (fun d => d ∈ xs) ∧ RunDoes C ⟨2, 2, b__law_one⟩ [.ref p, .tup xs] p 1 (fun d => d ∈ xs) := by
  have h0 : 0 < xs.length := List.length_pos_iff.mpr h
  constructor
  · intro st k hps hk
    refine run_ok ⟨rfl, by decide⟩ (w_ret ?_)
    simp only [evE, evEs, evI, evT, evO, getV, okr_bind, okr_ok, endr_ret, then_ret_iff, at_0, at_1, at_2, at_3, at_4, in_2, in_3, in_4, in_str, eqD_str, biR, binR, cmpD, subD, slcR, lenD, truth, asB, mtTy, isKi, keyOf, asgR, asgRs, vw_int', vw_bl', vw_non', vw_str', vw_tup', vw_lst', vw_frz', vw_dct', List.map_cons, List.map_nil, List.cons_append, List.nil_append, List.append_nil, List.getElem?_cons_zero, List.getElem?_cons_succ, List.set_cons_zero, List.set_cons_succ, List.replicate_succ, List.replicate_zero, List.length_cons, List.length_nil, opt_some', bind_ok', ix_non, ix_bl, ix_int, ix_str, ix_tup, ix_lst, ix_frz, ix_dct, ix_ref, ix_fn, Bool.false_eq_true, if_false, if_true, ite_true, ite_false, Option.map_some, Option.bind_some, Nat.sub_self, Nat.reduceSub, reduceIte, Nat.reduceAdd, Nat.reduceLT, true_and, and_true, true_implies, forall_const, decide_true, decide_false]
    refine (B _ _ (by omega) (by omega)).use0 hps hk fun d A' hn hp' ⟨v, e, h0, h1⟩ => ?_
    subst e
    simp only [evE, evEs, evI, evT, evO, getV, okr_bind, okr_ok, endr_ret, then_ret_iff, at_0, at_1, at_2, at_3, at_4, in_2, in_3, in_4, in_str, eqD_str, biR, binR, cmpD, subD, slcR, lenD, truth, asB, mtTy, isKi, keyOf, asgR, asgRs, vw_int', vw_bl', vw_non', vw_str', vw_tup', vw_lst', vw_frz', vw_dct', List.map_cons, List.map_nil, List.cons_append, List.nil_append, List.append_nil, List.getElem?_cons_zero, List.getElem?_cons_succ, List.set_cons_zero, List.set_cons_succ, List.replicate_succ, List.replicate_zero, List.length_cons, List.length_nil, opt_some', bind_ok', ix_non, ix_bl, ix_int, ix_str, ix_tup, ix_lst, ix_frz, ix_dct, ix_ref, ix_fn, Bool.false_eq_true, if_false, if_true, ite_true, ite_false, Option.map_some, Option.bind_some, Nat.sub_self, Nat.reduceSub, reduceIte, Nat.reduceAdd, Nat.reduceLT, true_and, and_true, true_implies, forall_const, decide_true, decide_false]
    exact okr_some (atI_nat h0 h1) (fin_ok hn hp' (plains_mem hp (List.getElem_mem _)) (List.getElem_mem _))
  · intro st k hps hk
    refine run_ok ⟨rfl, by decide⟩ (w_ret ?_)
    simp only [evE, evEs, evI, evT, evO, getV, okr_bind, okr_ok, endr_ret, then_ret_iff, at_0, at_1, at_2, at_3, at_4, in_2, in_3, in_4, in_str, eqD_str, biR, binR, cmpD, subD, slcR, lenD, truth, asB, mtTy, isKi, keyOf, asgR, asgRs, vw_int', vw_bl', vw_non', vw_str', vw_tup', vw_lst', vw_frz', vw_dct', List.map_cons, List.map_nil, List.cons_append, List.nil_append, List.append_nil, List.getElem?_cons_zero, List.getElem?_cons_succ, List.set_cons_zero, List.set_cons_succ, List.replicate_succ, List.replicate_zero, List.length_cons, List.length_nil, opt_some', bind_ok', ix_non, ix_bl, ix_int, ix_str, ix_tup, ix_lst, ix_frz, ix_dct, ix_ref, ix_fn, Bool.false_eq_true, if_false, if_true, ite_true, ite_false, Option.map_some, Option.bind_some, Nat.sub_self, Nat.reduceSub, reduceIte, Nat.reduceAdd, Nat.reduceLT, true_and, and_true, true_implies, forall_const, decide_true, decide_false]
    refine (B _ _ (by omega) (by omega)).use0 hps hk fun d A' hn hp' ⟨v, e, h0, h1⟩ => ?_
    subst e
    simp only [evE, evEs, evI, evT, evO, getV, okr_bind, okr_ok, endr_ret, then_ret_iff, at_0, at_1, at_2, at_3, at_4, in_2, in_3, in_4, in_str, eqD_str, biR, binR, cmpD, subD, slcR, lenD, truth, asB, mtTy, isKi, keyOf, asgR, asgRs, vw_int', vw_bl', vw_non', vw_str', vw_tup', vw_lst', vw_frz', vw_dct', List.map_cons, List.map_nil, List.cons_append, List.nil_append, List.append_nil, List.getElem?_cons_zero, List.getElem?_cons_succ, List.set_cons_zero, List.set_cons_succ, List.replicate_succ, List.replicate_zero, List.length_cons, List.length_nil, opt_some', bind_ok', ix_non, ix_bl, ix_int, ix_str, ix_tup, ix_lst, ix_frz, ix_dct, ix_ref, ix_fn, Bool.false_eq_true, if_false, if_true, ite_true, ite_false, Option.map_some, Option.bind_some, Nat.sub_self, Nat.reduceSub, reduceIte, Nat.reduceAdd, Nat.reduceLT, true_and, and_true, true_implies, forall_const, decide_true, decide_false]
    exact okr_some (atI_nat h0 h1) (fin_ok hn hp' (plains_mem hp (List.getElem_mem _)) (List.getElem_mem _))
theorem cutL_map {α β : Type} (f : α → β) (xs : List α) (lo hi : Option Int) : cutL (xs.map f) lo hi = (cutL xs lo hi).map f := by
  unfold cutL
  rw [List.length_map, List.map_take, List.map_drop]
theorem pool_run {ns : List Int} {lap : Int} {st : Sto} {base : Nat} (hl : ns.length ≤ 63) (h0 : 0 ≤ lap) (h1 : lap ≤ 1000) : ∃ o, runFd C ⟨2, 5, b__law_pool⟩ [.frz (ns.map .int), .int lap] st base = .ok (.ref st.length) (st ++ [o]) ∧ PO 0 o := by
  have hs : SL = 16777216 := rfl
  have hcell : ∃ cell : Int, (if lap < ns.length then atI (ns.map D.int) lap = some (.int cell) else cell = 18909 * lap + 64888) := by
    by_cases h : lap < ns.length
    · have hb : lap.toNat < ns.length := by omega
      refine ⟨ns[lap.toNat], ?_⟩
      rw [if_pos h, atI_nat h0 (by rw [List.length_map]; exact h)]
      simp
    · exact ⟨18909 * lap + 64888, by rw [if_neg h]⟩
  obtain ⟨cell, hcell⟩ := hcell
  have m1 : mulOk 18909 lap = true := mul_ok (by decide) (by decide) (by omega) (by omega)
  have m2 : mulOk 7919 lap = true := mul_ok (by decide) (by decide) (by omega) (by omega)
  have p18 : powOk 10 18 = true := by decide
  have lc : ((cutL ns none (some 63)).map D.int).length ≤ SL := by
    rw [List.length_map]
    unfold cutL
    rw [List.length_take, List.length_drop]
    omega
  have step1 : ∃ ρ' st', forD (forF (evSs C base bl__law_pool_0) (.nm 4)) (fun _ => true) ((cutL ns none (some 63)).map D.int) [some (.frz (ns.map .int)), some (.int lap), some (.int cell), some (.int (3815599 + 7919 * lap)), none] st = .nx ρ' st' ∧
      (st' = st ∧ ∃ s a : _, (0 ≤ s ∧ s < 2 ^ 60) ∧ ρ' = [some (.frz (ns.map .int)), some (.int lap), some (.int cell), some (.int s), a]) := by
    refine forD_map (φ := D.int) (I := fun d ρ st' => st' = st ∧ ∃ s a : _, (0 ≤ s ∧ s < 2 ^ 60) ∧ ρ = [some (.frz (ns.map .int)), some (.int lap), some (.int cell), some (.int s), a]) ⟨rfl, 3815599 + 7919 * lap, none, ⟨by omega, by omega⟩, rfl⟩ ?_
    rintro d x r hd ρ st' ⟨rfl, s, a, ⟨hs0, hs1⟩, rfl⟩
    have m3 : mulOk s 48271 = true := mul_ok (by omega) (by omega) (by decide) (by decide)
    refine ⟨[some (.frz (ns.map .int)), some (.int lap), some (.int cell), some (.int ((s * 48271 + x % 2147483629 + 11) % 2147483647)), some (.int x)], st', .inl ?_, rfl, _, _, ⟨Int.emod_nonneg _ (by decide), ?_⟩, rfl⟩
    · simp [forF, putN, bl__law_pool_0, evSs, evS, evE, evEs, getV, isExc, asgR, binR, biR, m3]
    · have := Int.emod_lt_of_pos (s * 48271 + x % 2147483629 + 11) (b := 2147483647) (by decide)
      omega
  obtain ⟨ρ', st', e, rfl, s, a, ⟨hs0, hs1⟩, rfl⟩ := step1
  have hc0 : 0 ≤ cell % 2147483629 := Int.emod_nonneg _ (by decide)
  have hc1 : cell % 2147483629 < 2147483629 := Int.emod_lt_of_pos _ (by decide)
  have m4 : mulOk s 69621 = true := mul_ok (by omega) (by omega) (by decide) (by decide)
  have m5 : mulOk (cell % 2147483629) 16807 = true := mul_ok (by omega) (by omega) (by decide) (by decide)
  have hz0 : 0 ≤ (s * 69621 + cell % 2147483629 * 16807 + 7) % 2147483647 := Int.emod_nonneg _ (by decide)
  have hz1 : (s * 69621 + cell % 2147483629 * 16807 + 7) % 2147483647 < 2147483647 := Int.emod_lt_of_pos _ (by decide)
  have mk : ∀ ds : List D, ds.length = 3 → mkL true ds st' = .ok (.ref st'.length) (st' ++ [.lst ds]) := fun ds h => by
    unfold mkL
    rw [if_pos (by omega)]
    rfl
  have e' : forD (forF (evSs C base bl__law_pool_0) (.nm 4)) (fun _ => true) ((cutL (ns.map D.int) none (some 63))) [some (.frz (ns.map .int)), some (.int lap), some (.int cell), some (.int (3815599 + 7919 * lap)), none] st' = .nx [some (.frz (ns.map .int)), some (.int lap), some (.int cell), some (.int s), a] st' := by rw [cutL_map]; exact e
  have lc' : (cutL (ns.map D.int) none (some 63)).length ≤ SL := by rw [cutL_map]; exact lc
  have fin : ∀ x : Int, 0 ≤ x → PO 0 (.lst [.int x, .int ((s * 69621 + cell % 2147483629 * 16807 + 7) % 2147483647), .int 0]) := fun x h => ⟨x, _, 0, rfl, h, hz0, by omega, by omega, by omega⟩
  have abs0 : ∀ c : Int, 0 ≤ (if c < 0 then -c else c) := fun c => by split <;> omega
  by_cases hx : cell < 0 ∨ 1000000000000000000 ≤ cell
  · refine ⟨_, ?_, fin _ (abs0 cell)⟩
    by_cases h : lap < ns.length
    · rw [if_pos h] at hcell
      rcases hx with hx | hx
      · simp [runFd, b__law_pool, evSs, evS, evE, evEs, evI, evO, getV, isExc, asgR, biR, lenD, cmpD, truth, h, subD, hcell, binR, m2, slcR, mkL_unb lc', e', m4, m5, asB, hx, mk]
      · have hx' : ¬ cell < 0 := by omega
        simp [runFd, b__law_pool, evSs, evS, evE, evEs, evI, evO, getV, isExc, asgR, biR, lenD, cmpD, truth, h, subD, hcell, binR, m2, slcR, mkL_unb lc', e', m4, m5, asB, hx', hx, p18, mk]
    · rw [if_neg h] at hcell
      exact absurd hx (by omega)
  · refine ⟨_, ?_, fin 0 (by omega)⟩
    have hx1 : ¬ cell < 0 := fun z => hx (.inl z)
    have hx2 : ¬ 1000000000000000000 ≤ cell := fun z => hx (.inr z)
    by_cases h : lap < ns.length
    · rw [if_pos h] at hcell
      simp [runFd, b__law_pool, evSs, evS, evE, evEs, evI, evO, getV, isExc, asgR, biR, lenD, cmpD, truth, h, subD, hcell, binR, m2, slcR, mkL_unb lc', e', m4, m5, asB, hx1, hx2, p18, mk]
    · rw [if_neg h] at hcell
      subst hcell
      simp [runFd, b__law_pool, evSs, evS, evE, evEs, evI, evO, getV, isExc, asgR, biR, lenD, cmpD, truth, h, binR, m1, m2, slcR, mkL_unb lc', e', m4, m5, asB, hx1, hx2, p18, mk]
end
end K00

namespace K00
open Rf
def clsOf (w : Nat) : Nat := ([9, 10, 11, 12, 13, 14, 15, 16, 17, 18, 19, 3, 4, 5, 2, 6, 1, 7, 8] : List Nat).getD w 0
def argsOf (w : Nat) (t : D) : List D := if w < 16 then [t] else if w = 16 then [t, .int 16] else []
def dueOf (w : Nat) (t : D) : D := if w = 16 then .tup [t, .int 16] else if w < 16 then t else .non
theorem below19 {P : Nat → Prop} (h0 : P 0) (h1 : P 1) (h2 : P 2) (h3 : P 3) (h4 : P 4) (h5 : P 5) (h6 : P 6) (h7 : P 7) (h8 : P 8) (h9 : P 9) (h10 : P 10) (h11 : P 11) (h12 : P 12) (h13 : P 13) (h14 : P 14) (h15 : P 15) (h16 : P 16) (h17 : P 17) (h18 : P 18) : ∀ w, w < 19 → P w := fun w h => by
  have z : w = 0 ∨ w = 1 ∨ w = 2 ∨ w = 3 ∨ w = 4 ∨ w = 5 ∨ w = 6 ∨ w = 7 ∨ w = 8 ∨ w = 9 ∨ w = 10 ∨ w = 11 ∨ w = 12 ∨ w = 13 ∨ w = 14 ∨ w = 15 ∨ w = 16 ∨ w = 17 ∨ w = 18 := by omega
  rcases z with rfl | rfl | rfl | rfl | rfl | rfl | rfl | rfl | rfl | rfl | rfl | rfl | rfl | rfl | rfl | rfl | rfl | rfl | rfl
  · exact h0
  · exact h1
  · exact h2
  · exact h3
  · exact h4
  · exact h5
  · exact h6
  · exact h7
  · exact h8
  · exact h9
  · exact h10
  · exact h11
  · exact h12
  · exact h13
  · exact h14
  · exact h15
  · exact h16
  · exact h17
  · exact h18
section
variable {C : Call}
theorem kinds_exv (ds : List D) (st : Sto) (base : Nat) : ∀ w, w < 19 → runFd C ⟨1, 4, b__law_kinds⟩ [.exv (clsOf w) ds] st base = .ok (.tup [.int (w : Int)]) st := by
  refine below19 ?_ ?_ ?_ ?_ ?_ ?_ ?_ ?_ ?_ ?_ ?_ ?_ ?_ ?_ ?_ ?_ ?_ ?_ ?_
  · kernel_rfl
  · kernel_rfl
  · kernel_rfl
  · kernel_rfl
  · kernel_rfl
  · kernel_rfl
  · kernel_rfl
  · kernel_rfl
  · kernel_rfl
  · kernel_rfl
  · kernel_rfl
  · kernel_rfl
  · kernel_rfl
  · kernel_rfl
  · kernel_rfl
  · kernel_rfl
  · kernel_rfl
  · kernel_rfl
  · kernel_rfl
theorem kept_exv (t : D) (st : Sto) (base : Nat) : ∀ w, w < 19 → runFd C ⟨2, 2, b__law_kept⟩ [.exv (clsOf w) (argsOf w t), .int (w : Int)] st base = .ok (dueOf w t) st := by
  refine below19 ?_ ?_ ?_ ?_ ?_ ?_ ?_ ?_ ?_ ?_ ?_ ?_ ?_ ?_ ?_ ?_ ?_ ?_ ?_
  · kernel_rfl
  · kernel_rfl
  · kernel_rfl
  · kernel_rfl
  · kernel_rfl
  · kernel_rfl
  · kernel_rfl
  · kernel_rfl
  · kernel_rfl
  · kernel_rfl
  · kernel_rfl
  · kernel_rfl
  · kernel_rfl
  · kernel_rfl
  · kernel_rfl
  · kernel_rfl
  · kernel_rfl
  · kernel_rfl
  · kernel_rfl
theorem kinds_exc (ds : List D) (st : Sto) (base : Nat) : ∀ w, w < 19 → runFd C ⟨1, 4, b__law_kinds⟩ [.exc (clsOf w) ds] st base = .ok (.tup [.int (w : Int)]) st := by
  refine below19 ?_ ?_ ?_ ?_ ?_ ?_ ?_ ?_ ?_ ?_ ?_ ?_ ?_ ?_ ?_ ?_ ?_ ?_ ?_
  · kernel_rfl
  · kernel_rfl
  · kernel_rfl
  · kernel_rfl
  · kernel_rfl
  · kernel_rfl
  · kernel_rfl
  · kernel_rfl
  · kernel_rfl
  · kernel_rfl
  · kernel_rfl
  · kernel_rfl
  · kernel_rfl
  · kernel_rfl
  · kernel_rfl
  · kernel_rfl
  · kernel_rfl
  · kernel_rfl
  · kernel_rfl
theorem kept_exc (t : D) (st : Sto) (base : Nat) : ∀ w, w < 19 → runFd C ⟨2, 2, b__law_kept⟩ [.exc (clsOf w) (argsOf w t), .int (w : Int)] st base = .ok (dueOf w t) st := by
  refine below19 ?_ ?_ ?_ ?_ ?_ ?_ ?_ ?_ ?_ ?_ ?_ ?_ ?_ ?_ ?_ ?_ ?_ ?_ ?_
  · kernel_rfl
  · kernel_rfl
  · kernel_rfl
  · kernel_rfl
  · kernel_rfl
  · kernel_rfl
  · kernel_rfl
  · kernel_rfl
  · kernel_rfl
  · kernel_rfl
  · kernel_rfl
  · kernel_rfl
  · kernel_rfl
  · kernel_rfl
  · kernel_rfl
  · kernel_rfl
  · kernel_rfl
  · kernel_rfl
  · kernel_rfl
end
end K00

namespace K00
open Rf
/-- data of lists and tuples so deep -/
def TreeA : Nat → D → Prop
  | _, .non => True
  | _, .int _ => True
  | _, .str _ => True
  | _, .bl _ => True
  | n + 1, .tup ds => ds.length ≤ SL ∧ ∀ d ∈ ds, TreeA n d
  | n + 1, .lst ds => ds.length ≤ SL ∧ ∀ d ∈ ds, TreeA n d
  | n + 1, .dct ks vs => (ks = [] ∧ vs = []) ∨ ∃ s v, ks = [.inr s] ∧ vs = [v] ∧ TreeA n v
  | _, _ => False
theorem TreeA.nx {n : Nat} {d : D} (h : TreeA n d) : isExc d = false := by
  cases d <;> first | rfl | (cases n <;> exact False.elim h)
theorem zip_same (f : D → D → D) : ∀ xs : List D, xs.zipWith f xs = xs.map fun d => f d d
  | [] => rfl
  | x :: xs => by rw [List.zipWith_cons_cons, List.map_cons, zip_same f xs]
section
variable {C : Call}
theorem all_same {f n : Nat} {i j : Nat} {ds : List D} {ρ : En} {st : Sto} {base : Nat} {ci : I} {own : List Nat} (hl : ds.length ≤ SL) (hi : evI C base ci ρ st = .ok (ds.map (fun d => D.tup [d, d]), fun _ => true) st)
    (step : ∀ d ∈ ds, ∃ ρ', putN (.tup [i, j]) (.tup [d, d]) (wipeE ρ own) = some ρ' ∧ evE C base (.call true f [.var i, .var j]) ρ' st = .ok (.bl true) st) :
    evE C base (.bi .all false [.comp false own (.tup [i, j]) ci none (.call true f [.var i, .var j])]) ρ st = .ok (.bl true) st := by
  have hb := boolsOf_map (fun _ : D => true) ds
  rw [evE, evEs, evE, hi, bind_ok']
  dsimp only
  rw [compD_map (fun _ => some (.bl true))]
  · dsimp only
    rw [filterMap_some', mkL_unb (by rw [List.length_map]; exact hl), bind_ok', evEs, bind_ok', bind_ok']
    simp only [evE, evEs, evI, evT, evO, getV, okr_bind, okr_ok, endr_ret, then_ret_iff, at_0, at_1, at_2, at_3, at_4, in_2, in_3, in_4, in_str, eqD_str, biR, binR, cmpD, subD, slcR, lenD, truth, asB, mtTy, isKi, keyOf, asgR, asgRs, vw_int', vw_bl', vw_non', vw_str', vw_tup', vw_lst', vw_frz', vw_dct', List.map_cons, List.map_nil, List.cons_append, List.nil_append, List.append_nil, List.getElem?_cons_zero, List.getElem?_cons_succ, List.set_cons_zero, List.set_cons_succ, List.replicate_succ, List.replicate_zero, List.length_cons, List.length_nil, opt_some', bind_ok', ix_non, ix_bl, ix_int, ix_str, ix_tup, ix_lst, ix_frz, ix_dct, ix_ref, ix_fn, Bool.false_eq_true, if_false, if_true, ite_true, ite_false, Option.map_some, Option.bind_some, Nat.sub_self, Nat.reduceSub, reduceIte, Nat.reduceAdd, Nat.reduceLT, true_and, and_true, true_implies, forall_const, decide_true, decide_false, hb]
    simp
  · intro d hd
    obtain ⟨ρ', e1, e2⟩ := step d hd
    rw [e1]
    simp only [evT, bind_ok', if_true, e2]
theorem alike_run {n : Nat} (IH : ∀ m, m < n → ∀ d, TreeA m d → Pur C 2 [d, d] (.bl true)) {d : D} (h : TreeA n d) : RunPur C ⟨2, 5, b__law_alike⟩ [d, d] (.bl true) := by
  intro st
  cases d with
  | non => exact runPur_eq (fun st => by simp [runFd, b__law_alike, evSs, evS, evE, getV, isExc, cmpD, isNon, truth]) st
  | bl b => cases b <;> exact runPur_eq (fun st => by kernel_rfl) st
  | int i => exact runPur_eq (fun st => by simp [runFd, b__law_alike, evSs, evS, evE, getV, isExc, cmpD, isNon, truth, isKi, asB, eqD_int]) st
  | str s => exact runPur_eq (fun st => by simp [runFd, b__law_alike, evSs, evS, evE, getV, isExc, cmpD, isNon, truth, isKi, asB, eqD_str]) st
  | tup ds =>
    cases n with
    | zero => exact False.elim h
    | succ n =>
      obtain ⟨hl, hd⟩ := h
      have key : evE C st.length (.bi .all false [(.comp false [3, 4] (.tup [3, 4]) (.zip (.var 0) (.var 1)) none (.call true 2 [(.var 3), (.var 4)]))]) [some (.tup ds), some (.tup ds), none, none, none] st = .ok (.bl true) st := by
        refine all_same (n := n) hl ?_ ?_
        · simp [evI, evE, getV, isExc, zip_same]
        · intro d hd'
          have ih := IH n (by omega) d (hd d hd')
          have nx := (hd d hd').nx
          exact ⟨[some (.tup ds), some (.tup ds), none, some d, some d], by simp [putN, wipeE], by simp [evE, evEs, getV, nx, ih]⟩
      have e1 : eqD (.bl true) (.bl true) = some true := rfl
      have e3 : eqD (.bl false) (.bl false) = some true := rfl
      refine run_ok ⟨rfl, by decide⟩ ?_
      refine w_ife ?_
      simp only [evE, evEs, evI, evT, evO, getV, okr_bind, okr_ok, endr_ret, then_ret_iff, at_0, at_1, at_2, at_3, at_4, in_2, in_3, in_4, in_str, eqD_str, biR, binR, cmpD, subD, slcR, lenD, truth, asB, mtTy, isKi, keyOf, asgR, asgRs, vw_int', vw_bl', vw_non', vw_str', vw_tup', vw_lst', vw_frz', vw_dct', List.map_cons, List.map_nil, List.cons_append, List.nil_append, List.append_nil, List.getElem?_cons_zero, List.getElem?_cons_succ, List.set_cons_zero, List.set_cons_succ, List.replicate_succ, List.replicate_zero, List.length_cons, List.length_nil, opt_some', bind_ok', ix_non, ix_bl, ix_int, ix_str, ix_tup, ix_lst, ix_frz, ix_dct, ix_ref, ix_fn, Bool.false_eq_true, if_false, if_true, ite_true, ite_false, Option.map_some, Option.bind_some, Nat.sub_self, Nat.reduceSub, reduceIte, Nat.reduceAdd, Nat.reduceLT, true_and, and_true, true_implies, forall_const, decide_true, decide_false, isNon]
      refine ife_f rfl (then_nil ?_)
      refine w_ife ?_
      simp only [evE, evEs, evI, evT, evO, getV, okr_bind, okr_ok, endr_ret, then_ret_iff, at_0, at_1, at_2, at_3, at_4, in_2, in_3, in_4, in_str, eqD_str, biR, binR, cmpD, subD, slcR, lenD, truth, asB, mtTy, isKi, keyOf, asgR, asgRs, vw_int', vw_bl', vw_non', vw_str', vw_tup', vw_lst', vw_frz', vw_dct', List.map_cons, List.map_nil, List.cons_append, List.nil_append, List.append_nil, List.getElem?_cons_zero, List.getElem?_cons_succ, List.set_cons_zero, List.set_cons_succ, List.replicate_succ, List.replicate_zero, List.length_cons, List.length_nil, opt_some', bind_ok', ix_non, ix_bl, ix_int, ix_str, ix_tup, ix_lst, ix_frz, ix_dct, ix_ref, ix_fn, Bool.false_eq_true, if_false, if_true, ite_true, ite_false, Option.map_some, Option.bind_some, Nat.sub_self, Nat.reduceSub, reduceIte, Nat.reduceAdd, Nat.reduceLT, true_and, and_true, true_implies, forall_const, decide_true, decide_false]
      refine ife_f rfl (then_nil ?_)
      refine w_ife ?_
      simp only [evE, evEs, evI, evT, evO, getV, okr_bind, okr_ok, endr_ret, then_ret_iff, at_0, at_1, at_2, at_3, at_4, in_2, in_3, in_4, in_str, eqD_str, biR, binR, cmpD, subD, slcR, lenD, truth, asB, mtTy, isKi, keyOf, asgR, asgRs, vw_int', vw_bl', vw_non', vw_str', vw_tup', vw_lst', vw_frz', vw_dct', List.map_cons, List.map_nil, List.cons_append, List.nil_append, List.append_nil, List.getElem?_cons_zero, List.getElem?_cons_succ, List.set_cons_zero, List.set_cons_succ, List.replicate_succ, List.replicate_zero, List.length_cons, List.length_nil, opt_some', bind_ok', ix_non, ix_bl, ix_int, ix_str, ix_tup, ix_lst, ix_frz, ix_dct, ix_ref, ix_fn, Bool.false_eq_true, if_false, if_true, ite_true, ite_false, Option.map_some, Option.bind_some, Nat.sub_self, Nat.reduceSub, reduceIte, Nat.reduceAdd, Nat.reduceLT, true_and, and_true, true_implies, forall_const, decide_true, decide_false]
      refine ife_f rfl (then_nil ?_)
      refine w_ife ?_
      simp only [evE, evEs, evI, evT, evO, getV, okr_bind, okr_ok, endr_ret, then_ret_iff, at_0, at_1, at_2, at_3, at_4, in_2, in_3, in_4, in_str, eqD_str, biR, binR, cmpD, subD, slcR, lenD, truth, asB, mtTy, isKi, keyOf, asgR, asgRs, vw_int', vw_bl', vw_non', vw_str', vw_tup', vw_lst', vw_frz', vw_dct', List.map_cons, List.map_nil, List.cons_append, List.nil_append, List.append_nil, List.getElem?_cons_zero, List.getElem?_cons_succ, List.set_cons_zero, List.set_cons_succ, List.replicate_succ, List.replicate_zero, List.length_cons, List.length_nil, opt_some', bind_ok', ix_non, ix_bl, ix_int, ix_str, ix_tup, ix_lst, ix_frz, ix_dct, ix_ref, ix_fn, Bool.false_eq_true, if_false, if_true, ite_true, ite_false, Option.map_some, Option.bind_some, Nat.sub_self, Nat.reduceSub, reduceIte, Nat.reduceAdd, Nat.reduceLT, true_and, and_true, true_implies, forall_const, decide_true, decide_false]
      refine ife_f rfl (then_nil ?_)
      refine w_ife ?_
      simp only [evE, evEs, evI, evT, evO, getV, okr_bind, okr_ok, endr_ret, then_ret_iff, at_0, at_1, at_2, at_3, at_4, in_2, in_3, in_4, in_str, eqD_str, biR, binR, cmpD, subD, slcR, lenD, truth, asB, mtTy, isKi, keyOf, asgR, asgRs, vw_int', vw_bl', vw_non', vw_str', vw_tup', vw_lst', vw_frz', vw_dct', List.map_cons, List.map_nil, List.cons_append, List.nil_append, List.append_nil, List.getElem?_cons_zero, List.getElem?_cons_succ, List.set_cons_zero, List.set_cons_succ, List.replicate_succ, List.replicate_zero, List.length_cons, List.length_nil, opt_some', bind_ok', ix_non, ix_bl, ix_int, ix_str, ix_tup, ix_lst, ix_frz, ix_dct, ix_ref, ix_fn, Bool.false_eq_true, if_false, if_true, ite_true, ite_false, Option.map_some, Option.bind_some, Nat.sub_self, Nat.reduceSub, reduceIte, Nat.reduceAdd, Nat.reduceLT, true_and, and_true, true_implies, forall_const, decide_true, decide_false]
      refine ife_f rfl (then_nil ?_)
      refine w_ife ?_
      simp only [evE, evEs, evI, evT, evO, getV, okr_bind, okr_ok, endr_ret, then_ret_iff, at_0, at_1, at_2, at_3, at_4, in_2, in_3, in_4, in_str, eqD_str, biR, binR, cmpD, subD, slcR, lenD, truth, asB, mtTy, isKi, keyOf, asgR, asgRs, vw_int', vw_bl', vw_non', vw_str', vw_tup', vw_lst', vw_frz', vw_dct', List.map_cons, List.map_nil, List.cons_append, List.nil_append, List.append_nil, List.getElem?_cons_zero, List.getElem?_cons_succ, List.set_cons_zero, List.set_cons_succ, List.replicate_succ, List.replicate_zero, List.length_cons, List.length_nil, opt_some', bind_ok', ix_non, ix_bl, ix_int, ix_str, ix_tup, ix_lst, ix_frz, ix_dct, ix_ref, ix_fn, Bool.false_eq_true, if_false, if_true, ite_true, ite_false, Option.map_some, Option.bind_some, Nat.sub_self, Nat.reduceSub, reduceIte, Nat.reduceAdd, Nat.reduceLT, true_and, and_true, true_implies, forall_const, decide_true, decide_false, e1, e3, Bool.not_true]
      refine ife_f rfl (then_nil ?_)
      refine w_ret ?_
      have ck : evE C st.length (.cmp .eq (.bi .len false [(.var 0)]) (.bi .len false [(.var 1)])) [some (.tup ds), some (.tup ds), none, none, none] st = .ok (.bl true) st := by simp only [evE, evEs, evI, evT, evO, getV, okr_bind, okr_ok, endr_ret, then_ret_iff, at_0, at_1, at_2, at_3, at_4, in_2, in_3, in_4, in_str, eqD_str, biR, binR, cmpD, subD, slcR, lenD, truth, asB, mtTy, isKi, keyOf, asgR, asgRs, vw_int', vw_bl', vw_non', vw_str', vw_tup', vw_lst', vw_frz', vw_dct', List.map_cons, List.map_nil, List.cons_append, List.nil_append, List.append_nil, List.getElem?_cons_zero, List.getElem?_cons_succ, List.set_cons_zero, List.set_cons_succ, List.replicate_succ, List.replicate_zero, List.length_cons, List.length_nil, opt_some', bind_ok', ix_non, ix_bl, ix_int, ix_str, ix_tup, ix_lst, ix_frz, ix_dct, ix_ref, ix_fn, Bool.false_eq_true, if_false, if_true, ite_true, ite_false, Option.map_some, Option.bind_some, Nat.sub_self, Nat.reduceSub, reduceIte, Nat.reduceAdd, Nat.reduceLT, true_and, and_true, true_implies, forall_const, decide_true, decide_false, eqD_int]
      show OkR (evE C st.length _ [some (.tup ds), some (.tup ds), none, none, none] st) _
      rw [evE, ck, bind_ok']
      show OkR (evE C st.length _ _ st) _
      rw [key]
      simp only [evE, evEs, evI, evT, evO, getV, okr_bind, okr_ok, endr_ret, then_ret_iff, at_0, at_1, at_2, at_3, at_4, in_2, in_3, in_4, in_str, eqD_str, biR, binR, cmpD, subD, slcR, lenD, truth, asB, mtTy, isKi, keyOf, asgR, asgRs, vw_int', vw_bl', vw_non', vw_str', vw_tup', vw_lst', vw_frz', vw_dct', List.map_cons, List.map_nil, List.cons_append, List.nil_append, List.append_nil, List.getElem?_cons_zero, List.getElem?_cons_succ, List.set_cons_zero, List.set_cons_succ, List.replicate_succ, List.replicate_zero, List.length_cons, List.length_nil, opt_some', bind_ok', ix_non, ix_bl, ix_int, ix_str, ix_tup, ix_lst, ix_frz, ix_dct, ix_ref, ix_fn, Bool.false_eq_true, if_false, if_true, ite_true, ite_false, Option.map_some, Option.bind_some, Nat.sub_self, Nat.reduceSub, reduceIte, Nat.reduceAdd, Nat.reduceLT, true_and, and_true, true_implies, forall_const, decide_true, decide_false]
      exact ⟨[], by simp⟩
  | lst ds =>
    cases n with
    | zero => exact False.elim h
    | succ n =>
      obtain ⟨hl, hd⟩ := h
      have key : evE C st.length (.bi .all false [(.comp false [3, 4] (.tup [3, 4]) (.zip (.var 0) (.var 1)) none (.call true 2 [(.var 3), (.var 4)]))]) [some (.lst ds), some (.lst ds), none, none, none] st = .ok (.bl true) st := by
        refine all_same (n := n) hl ?_ ?_
        · simp [evI, evE, getV, isExc, zip_same]
        · intro d hd'
          have ih := IH n (by omega) d (hd d hd')
          have nx := (hd d hd').nx
          exact ⟨[some (.lst ds), some (.lst ds), none, some d, some d], by simp [putN, wipeE], by simp [evE, evEs, getV, nx, ih]⟩
      have e1 : eqD (.bl true) (.bl true) = some true := rfl
      have e3 : eqD (.bl false) (.bl false) = some true := rfl
      refine run_ok ⟨rfl, by decide⟩ ?_
      refine w_ife ?_
      simp only [evE, evEs, evI, evT, evO, getV, okr_bind, okr_ok, endr_ret, then_ret_iff, at_0, at_1, at_2, at_3, at_4, in_2, in_3, in_4, in_str, eqD_str, biR, binR, cmpD, subD, slcR, lenD, truth, asB, mtTy, isKi, keyOf, asgR, asgRs, vw_int', vw_bl', vw_non', vw_str', vw_tup', vw_lst', vw_frz', vw_dct', List.map_cons, List.map_nil, List.cons_append, List.nil_append, List.append_nil, List.getElem?_cons_zero, List.getElem?_cons_succ, List.set_cons_zero, List.set_cons_succ, List.replicate_succ, List.replicate_zero, List.length_cons, List.length_nil, opt_some', bind_ok', ix_non, ix_bl, ix_int, ix_str, ix_tup, ix_lst, ix_frz, ix_dct, ix_ref, ix_fn, Bool.false_eq_true, if_false, if_true, ite_true, ite_false, Option.map_some, Option.bind_some, Nat.sub_self, Nat.reduceSub, reduceIte, Nat.reduceAdd, Nat.reduceLT, true_and, and_true, true_implies, forall_const, decide_true, decide_false, isNon]
      refine ife_f rfl (then_nil ?_)
      refine w_ife ?_
      simp only [evE, evEs, evI, evT, evO, getV, okr_bind, okr_ok, endr_ret, then_ret_iff, at_0, at_1, at_2, at_3, at_4, in_2, in_3, in_4, in_str, eqD_str, biR, binR, cmpD, subD, slcR, lenD, truth, asB, mtTy, isKi, keyOf, asgR, asgRs, vw_int', vw_bl', vw_non', vw_str', vw_tup', vw_lst', vw_frz', vw_dct', List.map_cons, List.map_nil, List.cons_append, List.nil_append, List.append_nil, List.getElem?_cons_zero, List.getElem?_cons_succ, List.set_cons_zero, List.set_cons_succ, List.replicate_succ, List.replicate_zero, List.length_cons, List.length_nil, opt_some', bind_ok', ix_non, ix_bl, ix_int, ix_str, ix_tup, ix_lst, ix_frz, ix_dct, ix_ref, ix_fn, Bool.false_eq_true, if_false, if_true, ite_true, ite_false, Option.map_some, Option.bind_some, Nat.sub_self, Nat.reduceSub, reduceIte, Nat.reduceAdd, Nat.reduceLT, true_and, and_true, true_implies, forall_const, decide_true, decide_false]
      refine ife_f rfl (then_nil ?_)
      refine w_ife ?_
      simp only [evE, evEs, evI, evT, evO, getV, okr_bind, okr_ok, endr_ret, then_ret_iff, at_0, at_1, at_2, at_3, at_4, in_2, in_3, in_4, in_str, eqD_str, biR, binR, cmpD, subD, slcR, lenD, truth, asB, mtTy, isKi, keyOf, asgR, asgRs, vw_int', vw_bl', vw_non', vw_str', vw_tup', vw_lst', vw_frz', vw_dct', List.map_cons, List.map_nil, List.cons_append, List.nil_append, List.append_nil, List.getElem?_cons_zero, List.getElem?_cons_succ, List.set_cons_zero, List.set_cons_succ, List.replicate_succ, List.replicate_zero, List.length_cons, List.length_nil, opt_some', bind_ok', ix_non, ix_bl, ix_int, ix_str, ix_tup, ix_lst, ix_frz, ix_dct, ix_ref, ix_fn, Bool.false_eq_true, if_false, if_true, ite_true, ite_false, Option.map_some, Option.bind_some, Nat.sub_self, Nat.reduceSub, reduceIte, Nat.reduceAdd, Nat.reduceLT, true_and, and_true, true_implies, forall_const, decide_true, decide_false]
      refine ife_f rfl (then_nil ?_)
      refine w_ife ?_
      simp only [evE, evEs, evI, evT, evO, getV, okr_bind, okr_ok, endr_ret, then_ret_iff, at_0, at_1, at_2, at_3, at_4, in_2, in_3, in_4, in_str, eqD_str, biR, binR, cmpD, subD, slcR, lenD, truth, asB, mtTy, isKi, keyOf, asgR, asgRs, vw_int', vw_bl', vw_non', vw_str', vw_tup', vw_lst', vw_frz', vw_dct', List.map_cons, List.map_nil, List.cons_append, List.nil_append, List.append_nil, List.getElem?_cons_zero, List.getElem?_cons_succ, List.set_cons_zero, List.set_cons_succ, List.replicate_succ, List.replicate_zero, List.length_cons, List.length_nil, opt_some', bind_ok', ix_non, ix_bl, ix_int, ix_str, ix_tup, ix_lst, ix_frz, ix_dct, ix_ref, ix_fn, Bool.false_eq_true, if_false, if_true, ite_true, ite_false, Option.map_some, Option.bind_some, Nat.sub_self, Nat.reduceSub, reduceIte, Nat.reduceAdd, Nat.reduceLT, true_and, and_true, true_implies, forall_const, decide_true, decide_false]
      refine ife_f rfl (then_nil ?_)
      refine w_ife ?_
      simp only [evE, evEs, evI, evT, evO, getV, okr_bind, okr_ok, endr_ret, then_ret_iff, at_0, at_1, at_2, at_3, at_4, in_2, in_3, in_4, in_str, eqD_str, biR, binR, cmpD, subD, slcR, lenD, truth, asB, mtTy, isKi, keyOf, asgR, asgRs, vw_int', vw_bl', vw_non', vw_str', vw_tup', vw_lst', vw_frz', vw_dct', List.map_cons, List.map_nil, List.cons_append, List.nil_append, List.append_nil, List.getElem?_cons_zero, List.getElem?_cons_succ, List.set_cons_zero, List.set_cons_succ, List.replicate_succ, List.replicate_zero, List.length_cons, List.length_nil, opt_some', bind_ok', ix_non, ix_bl, ix_int, ix_str, ix_tup, ix_lst, ix_frz, ix_dct, ix_ref, ix_fn, Bool.false_eq_true, if_false, if_true, ite_true, ite_false, Option.map_some, Option.bind_some, Nat.sub_self, Nat.reduceSub, reduceIte, Nat.reduceAdd, Nat.reduceLT, true_and, and_true, true_implies, forall_const, decide_true, decide_false]
      refine ife_f rfl (then_nil ?_)
      refine w_ife ?_
      simp only [evE, evEs, evI, evT, evO, getV, okr_bind, okr_ok, endr_ret, then_ret_iff, at_0, at_1, at_2, at_3, at_4, in_2, in_3, in_4, in_str, eqD_str, biR, binR, cmpD, subD, slcR, lenD, truth, asB, mtTy, isKi, keyOf, asgR, asgRs, vw_int', vw_bl', vw_non', vw_str', vw_tup', vw_lst', vw_frz', vw_dct', List.map_cons, List.map_nil, List.cons_append, List.nil_append, List.append_nil, List.getElem?_cons_zero, List.getElem?_cons_succ, List.set_cons_zero, List.set_cons_succ, List.replicate_succ, List.replicate_zero, List.length_cons, List.length_nil, opt_some', bind_ok', ix_non, ix_bl, ix_int, ix_str, ix_tup, ix_lst, ix_frz, ix_dct, ix_ref, ix_fn, Bool.false_eq_true, if_false, if_true, ite_true, ite_false, Option.map_some, Option.bind_some, Nat.sub_self, Nat.reduceSub, reduceIte, Nat.reduceAdd, Nat.reduceLT, true_and, and_true, true_implies, forall_const, decide_true, decide_false, e1, e3, Bool.not_true]
      refine ife_f rfl (then_nil ?_)
      refine w_ret ?_
      have ck : evE C st.length (.cmp .eq (.bi .len false [(.var 0)]) (.bi .len false [(.var 1)])) [some (.lst ds), some (.lst ds), none, none, none] st = .ok (.bl true) st := by simp only [evE, evEs, evI, evT, evO, getV, okr_bind, okr_ok, endr_ret, then_ret_iff, at_0, at_1, at_2, at_3, at_4, in_2, in_3, in_4, in_str, eqD_str, biR, binR, cmpD, subD, slcR, lenD, truth, asB, mtTy, isKi, keyOf, asgR, asgRs, vw_int', vw_bl', vw_non', vw_str', vw_tup', vw_lst', vw_frz', vw_dct', List.map_cons, List.map_nil, List.cons_append, List.nil_append, List.append_nil, List.getElem?_cons_zero, List.getElem?_cons_succ, List.set_cons_zero, List.set_cons_succ, List.replicate_succ, List.replicate_zero, List.length_cons, List.length_nil, opt_some', bind_ok', ix_non, ix_bl, ix_int, ix_str, ix_tup, ix_lst, ix_frz, ix_dct, ix_ref, ix_fn, Bool.false_eq_true, if_false, if_true, ite_true, ite_false, Option.map_some, Option.bind_some, Nat.sub_self, Nat.reduceSub, reduceIte, Nat.reduceAdd, Nat.reduceLT, true_and, and_true, true_implies, forall_const, decide_true, decide_false, eqD_int]
      show OkR (evE C st.length _ [some (.lst ds), some (.lst ds), none, none, none] st) _
      rw [evE, ck, bind_ok']
      show OkR (evE C st.length _ _ st) _
      rw [key]
      simp only [evE, evEs, evI, evT, evO, getV, okr_bind, okr_ok, endr_ret, then_ret_iff, at_0, at_1, at_2, at_3, at_4, in_2, in_3, in_4, in_str, eqD_str, biR, binR, cmpD, subD, slcR, lenD, truth, asB, mtTy, isKi, keyOf, asgR, asgRs, vw_int', vw_bl', vw_non', vw_str', vw_tup', vw_lst', vw_frz', vw_dct', List.map_cons, List.map_nil, List.cons_append, List.nil_append, List.append_nil, List.getElem?_cons_zero, List.getElem?_cons_succ, List.set_cons_zero, List.set_cons_succ, List.replicate_succ, List.replicate_zero, List.length_cons, List.length_nil, opt_some', bind_ok', ix_non, ix_bl, ix_int, ix_str, ix_tup, ix_lst, ix_frz, ix_dct, ix_ref, ix_fn, Bool.false_eq_true, if_false, if_true, ite_true, ite_false, Option.map_some, Option.bind_some, Nat.sub_self, Nat.reduceSub, reduceIte, Nat.reduceAdd, Nat.reduceLT, true_and, and_true, true_implies, forall_const, decide_true, decide_false]
      exact ⟨[], by simp⟩
  | dct ks vs =>
    cases n with
    | zero => exact False.elim h
    | succ n =>
      rcases h with ⟨rfl, rfl⟩ | ⟨s, v, rfl, rfl, hv⟩
      · exact runPur_eq (fun st => by kernel_rfl) st
      · have ih := IH n (by omega) v hv
        have key : evE C st.length (.bi .all false [(.comp false [2] (.nm 2) (.keys 1) none (.land (.cmp .isIn (.var 2) (.var 0)) (.call true 2 [(.sub (.var 0) (.var 2)), (.sub (.var 1) (.var 2))])))]) [some (.dct [.inr s] [v]), some (.dct [.inr s] [v]), none, none, none] st = .ok (.bl true) st := by
          have e0 : cmpD .isIn (.str s) (.dct [.inr s] [v]) = some true := by simp [cmpD, inD, keyOf, hasK]
          have e1 : subD (.dct [.inr s] [v]) (.str s) = some v := by simp [subD, keyOf, dGet]
          simp [evE, evEs, evI, evT, getV, isExc, compD, putN, wipeE, ofKey, vw, e0, e1, asB, ih, mkL, SL, biR, boolsOf]
        have e1 : eqD (.int 1) (.int 1) = some true := rfl
        refine run_ok ⟨rfl, by decide⟩ ?_
        refine w_ife ?_
        simp only [evE, evEs, evI, evT, evO, getV, okr_bind, okr_ok, endr_ret, then_ret_iff, at_0, at_1, at_2, at_3, at_4, in_2, in_3, in_4, in_str, eqD_str, biR, binR, cmpD, subD, slcR, lenD, truth, asB, mtTy, isKi, keyOf, asgR, asgRs, vw_int', vw_bl', vw_non', vw_str', vw_tup', vw_lst', vw_frz', vw_dct', List.map_cons, List.map_nil, List.cons_append, List.nil_append, List.append_nil, List.getElem?_cons_zero, List.getElem?_cons_succ, List.set_cons_zero, List.set_cons_succ, List.replicate_succ, List.replicate_zero, List.length_cons, List.length_nil, opt_some', bind_ok', ix_non, ix_bl, ix_int, ix_str, ix_tup, ix_lst, ix_frz, ix_dct, ix_ref, ix_fn, Bool.false_eq_true, if_false, if_true, ite_true, ite_false, Option.map_some, Option.bind_some, Nat.sub_self, Nat.reduceSub, reduceIte, Nat.reduceAdd, Nat.reduceLT, true_and, and_true, true_implies, forall_const, decide_true, decide_false, isNon]
        refine ife_f rfl (then_nil ?_)
        refine w_ife ?_
        simp only [evE, evEs, evI, evT, evO, getV, okr_bind, okr_ok, endr_ret, then_ret_iff, at_0, at_1, at_2, at_3, at_4, in_2, in_3, in_4, in_str, eqD_str, biR, binR, cmpD, subD, slcR, lenD, truth, asB, mtTy, isKi, keyOf, asgR, asgRs, vw_int', vw_bl', vw_non', vw_str', vw_tup', vw_lst', vw_frz', vw_dct', List.map_cons, List.map_nil, List.cons_append, List.nil_append, List.append_nil, List.getElem?_cons_zero, List.getElem?_cons_succ, List.set_cons_zero, List.set_cons_succ, List.replicate_succ, List.replicate_zero, List.length_cons, List.length_nil, opt_some', bind_ok', ix_non, ix_bl, ix_int, ix_str, ix_tup, ix_lst, ix_frz, ix_dct, ix_ref, ix_fn, Bool.false_eq_true, if_false, if_true, ite_true, ite_false, Option.map_some, Option.bind_some, Nat.sub_self, Nat.reduceSub, reduceIte, Nat.reduceAdd, Nat.reduceLT, true_and, and_true, true_implies, forall_const, decide_true, decide_false]
        refine ife_f rfl (then_nil ?_)
        refine w_ife ?_
        simp only [evE, evEs, evI, evT, evO, getV, okr_bind, okr_ok, endr_ret, then_ret_iff, at_0, at_1, at_2, at_3, at_4, in_2, in_3, in_4, in_str, eqD_str, biR, binR, cmpD, subD, slcR, lenD, truth, asB, mtTy, isKi, keyOf, asgR, asgRs, vw_int', vw_bl', vw_non', vw_str', vw_tup', vw_lst', vw_frz', vw_dct', List.map_cons, List.map_nil, List.cons_append, List.nil_append, List.append_nil, List.getElem?_cons_zero, List.getElem?_cons_succ, List.set_cons_zero, List.set_cons_succ, List.replicate_succ, List.replicate_zero, List.length_cons, List.length_nil, opt_some', bind_ok', ix_non, ix_bl, ix_int, ix_str, ix_tup, ix_lst, ix_frz, ix_dct, ix_ref, ix_fn, Bool.false_eq_true, if_false, if_true, ite_true, ite_false, Option.map_some, Option.bind_some, Nat.sub_self, Nat.reduceSub, reduceIte, Nat.reduceAdd, Nat.reduceLT, true_and, and_true, true_implies, forall_const, decide_true, decide_false]
        refine ife_f rfl (then_nil ?_)
        refine w_ife ?_
        simp only [evE, evEs, evI, evT, evO, getV, okr_bind, okr_ok, endr_ret, then_ret_iff, at_0, at_1, at_2, at_3, at_4, in_2, in_3, in_4, in_str, eqD_str, biR, binR, cmpD, subD, slcR, lenD, truth, asB, mtTy, isKi, keyOf, asgR, asgRs, vw_int', vw_bl', vw_non', vw_str', vw_tup', vw_lst', vw_frz', vw_dct', List.map_cons, List.map_nil, List.cons_append, List.nil_append, List.append_nil, List.getElem?_cons_zero, List.getElem?_cons_succ, List.set_cons_zero, List.set_cons_succ, List.replicate_succ, List.replicate_zero, List.length_cons, List.length_nil, opt_some', bind_ok', ix_non, ix_bl, ix_int, ix_str, ix_tup, ix_lst, ix_frz, ix_dct, ix_ref, ix_fn, Bool.false_eq_true, if_false, if_true, ite_true, ite_false, Option.map_some, Option.bind_some, Nat.sub_self, Nat.reduceSub, reduceIte, Nat.reduceAdd, Nat.reduceLT, true_and, and_true, true_implies, forall_const, decide_true, decide_false]
        refine ife_f rfl (then_nil ?_)
        refine w_ife ?_
        simp only [evE, evEs, evI, evT, evO, getV, okr_bind, okr_ok, endr_ret, then_ret_iff, at_0, at_1, at_2, at_3, at_4, in_2, in_3, in_4, in_str, eqD_str, biR, binR, cmpD, subD, slcR, lenD, truth, asB, mtTy, isKi, keyOf, asgR, asgRs, vw_int', vw_bl', vw_non', vw_str', vw_tup', vw_lst', vw_frz', vw_dct', List.map_cons, List.map_nil, List.cons_append, List.nil_append, List.append_nil, List.getElem?_cons_zero, List.getElem?_cons_succ, List.set_cons_zero, List.set_cons_succ, List.replicate_succ, List.replicate_zero, List.length_cons, List.length_nil, opt_some', bind_ok', ix_non, ix_bl, ix_int, ix_str, ix_tup, ix_lst, ix_frz, ix_dct, ix_ref, ix_fn, Bool.false_eq_true, if_false, if_true, ite_true, ite_false, Option.map_some, Option.bind_some, Nat.sub_self, Nat.reduceSub, reduceIte, Nat.reduceAdd, Nat.reduceLT, true_and, and_true, true_implies, forall_const, decide_true, decide_false]
        refine ife_t rfl ?_
        refine w_ife ?_
        simp only [evE, evEs, evI, evT, evO, getV, okr_bind, okr_ok, endr_ret, then_ret_iff, at_0, at_1, at_2, at_3, at_4, in_2, in_3, in_4, in_str, eqD_str, biR, binR, cmpD, subD, slcR, lenD, truth, asB, mtTy, isKi, keyOf, asgR, asgRs, vw_int', vw_bl', vw_non', vw_str', vw_tup', vw_lst', vw_frz', vw_dct', List.map_cons, List.map_nil, List.cons_append, List.nil_append, List.append_nil, List.getElem?_cons_zero, List.getElem?_cons_succ, List.set_cons_zero, List.set_cons_succ, List.replicate_succ, List.replicate_zero, List.length_cons, List.length_nil, opt_some', bind_ok', ix_non, ix_bl, ix_int, ix_str, ix_tup, ix_lst, ix_frz, ix_dct, ix_ref, ix_fn, Bool.false_eq_true, if_false, if_true, ite_true, ite_false, Option.map_some, Option.bind_some, Nat.sub_self, Nat.reduceSub, reduceIte, Nat.reduceAdd, Nat.reduceLT, true_and, and_true, true_implies, forall_const, decide_true, decide_false, Bool.not_true, List.length_cons, List.length_nil, eqD_int]
        refine ife_f rfl (then_nil ?_)
        refine w_ret ?_
        show OkR (evE C st.length _ [some (.dct [.inr s] [v]), some (.dct [.inr s] [v]), none, none, none] st) _
        rw [key]
        refine okr_ok.mpr (then_ret (endr_ret.mpr ⟨rfl, [], by simp⟩))
  | _ => cases n <;> exact False.elim h
end
end K00

namespace K00
open Rf
def things : List D := [.non, .bl true, .bl false, .int (-1), .str [], .str [109, 117, 115, 116], .lst [], .lst [.tup [.str [121, 101, 115]]], .dct [] [], .dct [.inr [97]] [.int 1], .tup [.non], .tup [.tup [.tup [.tup [.int 5]]]], .tup [.bl true], .int 4,
  .tup [.tup [.str [109, 117, 115, 116]]], .int 100000000000000000000000000000, .tup [.tup []], .tup [.str [121, 101, 115]], .tup [.str [112, 105, 99, 107], .str [120]], .tup [.int 0, .int 0], .tup [.str [110, 117, 109, 98, 101, 114], .int 1], .int 25]
theorem things_plain : ∀ t ∈ things, plain t = true := fun t h => List.all_eq_true.mp (show things.all plain = true by decide) t h
theorem things_nx : ∀ t ∈ things, isExc t = false := fun t h => by
  have z := List.all_eq_true.mp (show (things.all fun t => !isExc t) = true by decide) t h
  simpa using z
theorem things_tree : ∀ t ∈ things, TreeA 4 t := fun t h => by
  have h : t = .non ∨ t = .bl true ∨ t = .bl false ∨ t = .int (-1) ∨ t = .str [] ∨ t = .str [109, 117, 115, 116] ∨ t = .lst [] ∨ t = .lst [.tup [.str [121, 101, 115]]] ∨ t = .dct [] [] ∨ t = .dct [.inr [97]] [.int 1] ∨ t = .tup [.non] ∨ t = .tup [.tup [.tup [.tup [.int 5]]]] ∨ t = .tup [.bl true] ∨ t = .int 4 ∨ t = .tup [.tup [.str [109, 117, 115, 116]]] ∨ t = .int 100000000000000000000000000000 ∨ t = .tup [.tup []] ∨ t = .tup [.str [121, 101, 115]] ∨ t = .tup [.str [112, 105, 99, 107], .str [120]] ∨ t = .tup [.int 0, .int 0] ∨ t = .tup [.str [110, 117, 109, 98, 101, 114], .int 1] ∨ t = .int 25 := by simpa [things] using h
  rcases h with rfl | rfl | rfl | rfl | rfl | rfl | rfl | rfl | rfl | rfl | rfl | rfl | rfl | rfl | rfl | rfl | rfl | rfl | rfl | rfl | rfl | rfl <;> simp [TreeA, SL]
theorem due_tree (w : Nat) : ∀ t ∈ things, TreeA 5 (dueOf w t) := fun t h => by
  have z := things_tree t h
  have up : ∀ (n : Nat) (d : D), TreeA n d → TreeA (n + 1) d := by
    intro n
    induction n with
    | zero => intro d h; cases d <;> first | trivial | exact False.elim h
    | succ n ih =>
      intro d h
      cases d with
      | tup ds => exact ⟨h.1, fun d hd => ih d (h.2 d hd)⟩
      | lst ds => exact ⟨h.1, fun d hd => ih d (h.2 d hd)⟩
      | dct ks vs =>
        rcases h with h | ⟨s, v, h1, h2, h3⟩
        · exact .inl h
        · exact .inr ⟨s, v, h1, h2, ih v h3⟩
      | _ => first | trivial | exact False.elim h
  unfold dueOf
  split
  · refine ⟨by simp [SL], fun d hd => ?_⟩
    rcases List.mem_cons.mp hd with rfl | hd
    · exact z
    · rcases List.mem_cons.mp hd with rfl | hd
      · trivial
      · cases hd
  · split
    · exact up _ _ z
    · trivial
theorem due_plain (w : Nat) : ∀ t ∈ things, plain (dueOf w t) = true := fun t h => by
  have z := things_plain t h
  unfold dueOf
  split
  · simp [plain, plains, z]
  · split
    · exact z
    · rfl
theorem due_nx (w : Nat) : ∀ t ∈ things, isExc (dueOf w t) = false := fun t h => by
  have z := things_nx t h
  unfold dueOf
  split
  · rfl
  · split
    · exact z
    · rfl
theorem args_plain (w : Nat) : ∀ t ∈ things, plains (argsOf w t) = true := fun t h => by
  have z := things_plain t h
  unfold argsOf
  split
  · simp [plains, z]
  · split
    · simp [plains, plain, z]
    · rfl
theorem map_at {α : Type} {f g : D → α} {l : List D} (h : l.map f = l.map g) : ∀ t ∈ l, f t = g t := List.map_inj_left.mp h
noncomputable abbrev K (n : Nat) : Call := callN Tb n
theorem made_eq (n : Nat) (b : Bool) (st : Sto) : ∀ w : Nat, w < 19 → things.map (fun t => K (n + 2) 5 [.int (w : Int), t, .bl b] st st.length) = things.map (fun t => R.ok (.exv (clsOf w) (argsOf w t)) (if w < 11 then st else st.take st.length)) := by
  cases b
  · refine below19 ?_ ?_ ?_ ?_ ?_ ?_ ?_ ?_ ?_ ?_ ?_ ?_ ?_ ?_ ?_ ?_ ?_ ?_ ?_
    · kernel_rfl
    · kernel_rfl
    · kernel_rfl
    · kernel_rfl
    · kernel_rfl
    · kernel_rfl
    · kernel_rfl
    · kernel_rfl
    · kernel_rfl
    · kernel_rfl
    · kernel_rfl
    · kernel_rfl
    · kernel_rfl
    · kernel_rfl
    · kernel_rfl
    · kernel_rfl
    · kernel_rfl
    · kernel_rfl
    · kernel_rfl
  · refine below19 ?_ ?_ ?_ ?_ ?_ ?_ ?_ ?_ ?_ ?_ ?_ ?_ ?_ ?_ ?_ ?_ ?_ ?_ ?_
    · kernel_rfl
    · kernel_rfl
    · kernel_rfl
    · kernel_rfl
    · kernel_rfl
    · kernel_rfl
    · kernel_rfl
    · kernel_rfl
    · kernel_rfl
    · kernel_rfl
    · kernel_rfl
    · kernel_rfl
    · kernel_rfl
    · kernel_rfl
    · kernel_rfl
    · kernel_rfl
    · kernel_rfl
    · kernel_rfl
    · kernel_rfl
theorem raise_eq (n : Nat) (st : Sto) : ∀ w : Nat, w < 19 → things.map (fun t => K (n + 1) 7 [.int (w : Int), t] st st.length) = things.map (fun t => (R.exc (.exc (clsOf w) (argsOf w t)) st : R D)) := by
  refine below19 ?_ ?_ ?_ ?_ ?_ ?_ ?_ ?_ ?_ ?_ ?_ ?_ ?_ ?_ ?_ ?_ ?_ ?_ ?_
  · kernel_rfl
  · kernel_rfl
  · kernel_rfl
  · kernel_rfl
  · kernel_rfl
  · kernel_rfl
  · kernel_rfl
  · kernel_rfl
  · kernel_rfl
  · kernel_rfl
  · kernel_rfl
  · kernel_rfl
  · kernel_rfl
  · kernel_rfl
  · kernel_rfl
  · kernel_rfl
  · kernel_rfl
  · kernel_rfl
  · kernel_rfl
theorem l_made (n w : Nat) (hw : w < 19) (b : Bool) : ∀ t ∈ things, Pur (K (n + 2)) 5 [.int (w : Int), t, .bl b] (.exv (clsOf w) (argsOf w t)) := fun t h st base => by
  have e := map_at (made_eq n b st w hw) t h
  have hp : plain (.exv (clsOf w) (argsOf w t)) = true := args_plain w t h
  unfold callR
  rw [if_pos rfl, e]
  show (if plain (.exv (clsOf w) (argsOf w t)) = true then R.ok _ _ else .bad) = _
  rw [if_pos hp]
  split <;> simp
theorem l_raise (n w : Nat) (hw : w < 19) : ∀ t ∈ things, ∀ (st : Sto) (base : Nat), callR (K (n + 1)) base true 7 [.int (w : Int), t] st = .exc (.exc (clsOf w) (argsOf w t)) st := fun t h st base => by
  have e := map_at (raise_eq n st w hw) t h
  unfold callR
  rw [if_pos rfl, e]
  show R.exc _ (st.take st.length) = _
  rw [List.take_length]
theorem l_kinds (n w : Nat) (hw : w < 19) (ds : List D) : Pur (K (n + 1)) 9 [.exv (clsOf w) ds] (.tup [.int (w : Int)]) := (runPur_eq fun st => kinds_exv (C := K n) ds st st.length w hw).of rfl fun _ _ _ => rfl
theorem l_kindx (n w : Nat) (hw : w < 19) (ds : List D) : Pur (K (n + 1)) 9 [.exc (clsOf w) ds] (.tup [.int (w : Int)]) := (runPur_eq fun st => kinds_exc (C := K n) ds st st.length w hw).of rfl fun _ _ _ => rfl
theorem l_kept (n w : Nat) (hw : w < 19) : ∀ t ∈ things, Pur (K (n + 1)) 8 [.exv (clsOf w) (argsOf w t), .int (w : Int)] (dueOf w t) := fun t h => (runPur_eq fun st => kept_exv (C := K n) t st st.length w hw).of (due_plain w t h) fun _ _ _ => rfl
theorem l_kepx (n w : Nat) (hw : w < 19) : ∀ t ∈ things, Pur (K (n + 1)) 8 [.exc (clsOf w) (argsOf w t), .int (w : Int)] (dueOf w t) := fun t h => (runPur_eq fun st => kept_exc (C := K n) t st st.length w hw).of (due_plain w t h) fun _ _ _ => rfl
theorem l_alike : ∀ m, ∀ n d, TreeA m d → Pur (K (n + m + 1)) 2 [d, d] (.bl true) := by
  intro m
  induction m using Nat.strongRecOn with
  | _ m ih =>
    intro n d h
    refine (alike_run (C := K (n + m)) (n := m) (fun m' hm d h' => ?_) h).of rfl fun _ _ _ => rfl
    have z := ih m' hm (n + (m - m' - 1)) d h'
    have e : n + (m - m' - 1) + m' + 1 = n + m := by omega
    rw [e] at z
    exact z
theorem l_below (n : Nat) : BelowS (K (n + 1)) := fun p m h h2 => (below_run (C := K n) h h2).of fun _ _ _ => rfl
theorem l_one (n : Nat) : OneS (K (n + 2)) := fun p xs h hl hp => ⟨(one_run (C := K (n + 1)) (l_below n) h hl hp).1.of fun _ _ _ => rfl, (one_run (C := K (n + 1)) (l_below n) h hl hp).2.of fun _ _ _ => rfl⟩
end K00

namespace K00
open Rf
abbrev ThS (C : Call) : Prop := ∀ p : Nat, Does C 1 [.ref p] p 1 (fun d => d ∈ things)
structure Sp (C : Call) : Prop where
  th : ThS C
  md : ∀ w : Nat, w < 19 → ∀ b : Bool, ∀ t ∈ things, Pur C 5 [.int (w : Int), t, .bl b] (.exv (clsOf w) (argsOf w t))
  rs : ∀ w : Nat, w < 19 → ∀ t ∈ things, ∀ (st : Sto) (base : Nat), callR C base true 7 [.int (w : Int), t] st = .exc (.exc (clsOf w) (argsOf w t)) st
  kd : ∀ w : Nat, w < 19 → ∀ ds : List D, Pur C 9 [.exv (clsOf w) ds] (.tup [.int (w : Int)])
  kx : ∀ w : Nat, w < 19 → ∀ ds : List D, Pur C 9 [.exc (clsOf w) ds] (.tup [.int (w : Int)])
  kp : ∀ w : Nat, w < 19 → ∀ t ∈ things, Pur C 8 [.exv (clsOf w) (argsOf w t), .int (w : Int)] (dueOf w t)
  kpx : ∀ w : Nat, w < 19 → ∀ t ∈ things, Pur C 8 [.exc (clsOf w) (argsOf w t), .int (w : Int)] (dueOf w t)
  al : ∀ w : Nat, w < 19 → ∀ t ∈ things, Pur C 2 [dueOf w t, dueOf w t] (.bl true)
section
variable {C : Call}
theorem thing_run (O : OneS C) (p : Nat) : RunDoes C ⟨1, 1, b__law_thing⟩ [.ref p] p 1 (fun d => d ∈ things) := by
  intro st k hps hk
  refine run_ok ⟨rfl, by decide⟩ ?_
  show EndR _ (evSs C st.length b__law_thing [some (.ref p)] st)
  unfold b__law_thing
  refine w_ret ?_
  rw [evE]
  have e : evEs C st.length [(.var 0), (.tup [(.cst (.non)), (.cst (.bl true)), (.cst (.bl false)), (.neg (.cst (.int 1))), (.cst (.str [])), (.cst (.str [109, 117, 115, 116])), (.lst false []), (.lst false [(.tup [(.cst (.str [121, 101, 115]))])]), (.dct false [] []), (.dct false [(.cst (.str [97]))] [(.cst (.int 1))]), (.tup [(.cst (.non))]), (.tup [(.tup [(.tup [(.tup [(.cst (.int 5))])])])]), (.tup [(.cst (.bl true))]), (.cst (.int 4)), (.tup [(.tup [(.cst (.str [109, 117, 115, 116]))])]), (.bin .pow false (.cst (.int 10)) (.cst (.int 29))), (.tup [(.tup [])]), (.tup [(.cst (.str [121, 101, 115]))]), (.tup [(.cst (.str [112, 105, 99, 107])), (.cst (.str [120]))]), (.tup [(.cst (.int 0)), (.cst (.int 0))]), (.tup [(.cst (.str [110, 117, 109, 98, 101, 114])), (.cst (.int 1))]), (.cst (.int 25))])] [some (.ref p)] st = .ok [.ref p, .tup things] st := by kernel_rfl
  rw [e, bind_ok']
  refine (O p things (by decide) (by decide) (by decide)).2.use0 hps hk fun d A' hn hp' hm => ?_
  exact endr_ret.mpr (fin_ok hn hp' (things_plain d hm) hm)
theorem ix_exv {c : Nat} {ds : List D} : isExc (.exv c ds) = false := rfl
theorem ne_same (i : Int) : cmpD .ne (.tup [.int i]) (.tup [.int i]) = some false := by simp [cmpD, eqD, sc2, sc, pd, pds, eqv, eqvs]
theorem cls_in : ∀ w : Nat, w < 19 → clsOf w ∈ [0, 1, 2, 3, 4, 5, 6, 7, 8, 9, 10, 11, 12, 13, 14, 15, 16, 17, 18, 19] := by
  refine below19 (by decide) (by decide) (by decide) (by decide) (by decide) (by decide) (by decide) (by decide) (by decide) (by decide) (by decide) (by decide) (by decide) (by decide) (by decide) (by decide) (by decide) (by decide) (by decide)
theorem due_ev {base : Nat} {p : Nat} {l : Int} {w : Nat} {t : D} {x4 x5 x6 : Option D} {S : Sto} (ht : t ∈ things) :
    evE C base (.ife (.cmp .eq (.var 2) (.cst (.int 16))) (.tup [(.var 3), (.cst (.int 16))]) (.ife (.cmp .lt (.var 2) (.cst (.int 16))) (.var 3) (.cst (.non)))) [some (.ref p), some (.int l), some (.int (w : Int)), some t, x4, x5, x6] S = .ok (dueOf w t) S := by
  have nx := things_nx t ht
  have e16 : eqD (.int (w : Int)) (.int 16) = some (decide (w = 16)) := by
    by_cases h : w = 16
    · subst h; rfl
    · have : (w : Int) ≠ 16 := by omega
      simp [eqD, sc2, sc, eqv, h, this]
  have vt : ∀ d : D, d = .int (w : Int) → vw S d = .int (w : Int) := fun d h => by subst h; rfl
  by_cases h : w = 16
  · subst h
    have e17 : eqD (.int 16) (.int 16) = some true := rfl
    simp [evE, evEs, getV, ix_ref, ix_int, ix_exv, cmpD, e17, truth, nx, mkT, SL, dueOf, vw]
  · by_cases h2 : w < 16
    · have h3 : (w : Int) < 16 := by omega
      simp [evE, evEs, getV, ix_ref, ix_int, ix_exv, cmpD, e16, truth, nx, dueOf, vw, h, h2, h3]
    · have h3 : ¬ (w : Int) < 16 := by omega
      simp [evE, evEs, getV, ix_ref, ix_int, ix_exv, cmpD, e16, truth, nx, dueOf, vw, h, h2, h3]
theorem look_ev (P : Sp C) {base : Nat} {p : Nat} {l : Int} {w : Nat} (hw : w < 19) {t : D} (ht : t ∈ things) {x4 : Option D} {S : Sto} :
    evE C base (.lor (.cmp .ne (.call true 9 [(.var 6)]) (.tup [(.var 2)])) (.lnot (.call true 2 [(.call true 8 [(.var 6), (.var 2)]), (.var 5)]))) [some (.ref p), some (.int l), some (.int (w : Int)), some t, x4, some (dueOf w t), some (.exv (clsOf w) (argsOf w t))] S = .ok (.bl false) S := by
  have k1 : callR C base true 9 [.exv (clsOf w) (argsOf w t)] S = .ok (.tup [.int (w : Int)]) S := P.kd w hw _ S base
  have k2 : callR C base true 8 [.exv (clsOf w) (argsOf w t), .int (w : Int)] S = .ok (dueOf w t) S := P.kp w hw t ht S base
  have k3 : callR C base true 2 [dueOf w t, dueOf w t] S = .ok (.bl true) S := P.al w hw t ht S base
  have dn := due_nx w t ht
  simp [evE, evEs, getV, ix_ref, ix_int, ix_exv, k1, k2, k3, mkT, SL, vw, ne_same, asB, dn]
theorem lookx_ev (P : Sp C) {base : Nat} {p : Nat} {l : Int} {w : Nat} (hw : w < 19) {t : D} (ht : t ∈ things) {x6 : Option D} {S : Sto} :
    evE C base (.lor (.cmp .ne (.callx true 9 4 []) (.tup [(.var 2)])) (.lnot (.call true 2 [(.callx true 8 4 [(.var 2)]), (.var 5)]))) [some (.ref p), some (.int l), some (.int (w : Int)), some t, some (.exc (clsOf w) (argsOf w t)), some (dueOf w t), x6] S = .ok (.bl false) S := by
  have k1 : callR C base true 9 [.exc (clsOf w) (argsOf w t)] S = .ok (.tup [.int (w : Int)]) S := P.kx w hw _ S base
  have k2 : callR C base true 8 [.exc (clsOf w) (argsOf w t), .int (w : Int)] S = .ok (dueOf w t) S := P.kpx w hw t ht S base
  have k3 : callR C base true 2 [dueOf w t, dueOf w t] S = .ok (.bl true) S := P.al w hw t ht S base
  have dn := due_nx w t ht
  simp [evE, evEs, getV, ix_ref, ix_int, ix_exv, k1, k2, k3, mkT, SL, vw, ne_same, asB, dn]
theorem try_ev (P : Sp C) {base : Nat} {p : Nat} {l : Int} {w : Nat} (hw : w < 19) {t : D} (ht : t ∈ things) {S : Sto} :
    evS C base (.tryS [.expr (.call true 7 [(.var 2), (.var 3)])] [.mk 0 [0, 1, 2, 3, 4, 5, 6, 7, 8, 9, 10, 11, 12, 13, 14, 15, 16, 17, 18, 19] [] (some 4) [.ife (.lor (.cmp .ne (.callx true 9 4 []) (.tup [(.var 2)])) (.lnot (.call true 2 [(.callx true 8 4 [(.var 2)]), (.var 5)]))) [.ret (.cst (.bl false))] []]])
      [some (.ref p), some (.int l), some (.int (w : Int)), some t, none, some (dueOf w t), some (.exv (clsOf w) (argsOf w t))] S = .nx [some (.ref p), some (.int l), some (.int (w : Int)), some t, none, some (dueOf w t), some (.exv (clsOf w) (argsOf w t))] S := by
  have nx := things_nx t ht
  have dn := due_nx w t ht
  have k1 : callR C base true 7 [.int (w : Int), t] S = .exc (.exc (clsOf w) (argsOf w t)) S := P.rs w hw t ht S base
  have e1 : evE C base (.call true 7 [(.var 2), (.var 3)]) [some (.ref p), some (.int l), some (.int (w : Int)), some t, none, some (dueOf w t), some (.exv (clsOf w) (argsOf w t))] S = .exc (.exc (clsOf w) (argsOf w t)) S := by
    simp [evE, evEs, getV, ix_ref, ix_int, ix_exv, nx, k1]
  have e2 := lookx_ev P (base := base) (p := p) (l := l) hw ht (x6 := some (.exv (clsOf w) (argsOf w t))) (S := S)
  have hm := cls_in w hw
  have e3 : evSs C base [.ife (.lor (.cmp .ne (.callx true 9 4 []) (.tup [(.var 2)])) (.lnot (.call true 2 [(.callx true 8 4 [(.var 2)]), (.var 5)]))) [.ret (.cst (.bl false))] []] [some (.ref p), some (.int l), some (.int (w : Int)), some t, some (.exc (clsOf w) (argsOf w t)), some (dueOf w t), some (.exv (clsOf w) (argsOf w t))] S = .nx [some (.ref p), some (.int l), some (.int (w : Int)), some t, some (.exc (clsOf w) (argsOf w t)), some (dueOf w t), some (.exv (clsOf w) (argsOf w t))] S := by
    rw [evSs, evS, e2]
    rfl
  have e4 : evSs C base [.expr (.call true 7 [(.var 2), (.var 3)])] [some (.ref p), some (.int l), some (.int (w : Int)), some t, none, some (dueOf w t), some (.exv (clsOf w) (argsOf w t))] S = .exc (.exc (clsOf w) (argsOf w t)) [some (.ref p), some (.int l), some (.int (w : Int)), some t, none, some (dueOf w t), some (.exv (clsOf w) (argsOf w t))] S := by
    rw [evSs, evS, e1]
  rw [evS, e4]
  dsimp only
  rw [evHs, if_pos hm]
  have e5 : hOn (some 4) (clsOf w) (argsOf w t) [some (.ref p), some (.int l), some (.int (w : Int)), some t, none, some (dueOf w t), some (.exv (clsOf w) (argsOf w t))] = some [some (.ref p), some (.int l), some (.int (w : Int)), some t, some (.exc (clsOf w) (argsOf w t)), some (dueOf w t), some (.exv (clsOf w) (argsOf w t))] := by
    simp [hOn]
  rw [e5]
  dsimp only
  rw [e3]
  have xv : isExc (.exv (clsOf w) (argsOf w t)) = false := rfl
  simp [hOff, offS, noX, ix_ref, ix_int, nx, dn, xv]
/-- one turn -/
theorem turn_ok (P : Sp C) {base p k : Nat} {l : Int} {w : Nat} (hw : w < 19) {x3 x5 x6 : Option D} {S : Sto} (hps : PS p k S) (hk : k + 1 ≤ 1000000000) {Q : Fl → Prop}
    (h : ∀ S' t, t ∈ things → Nr p S S' → PS p (k + 1) S' → Q (.nx [some (.ref p), some (.int l), some (.int (w : Int)), some t, none, some (dueOf w t), some (.exv (clsOf w) (argsOf w t))] S')) :
    Q (evSs C base bl__law_right_0 [some (.ref p), some (.int l), some (.int (w : Int)), x3, none, x5, x6] S) := by
  unfold bl__law_right_0
  refine w_asg ?_
  simp only [evE, evEs, evI, evT, evO, getV, okr_bind, okr_ok, endr_ret, then_ret_iff, at_0, at_1, at_2, at_3, at_4, in_2, in_3, in_4, in_str, eqD_str, biR, binR, cmpD, subD, slcR, lenD, truth, asB, mtTy, isKi, keyOf, asgR, asgRs, vw_int', vw_bl', vw_non', vw_str', vw_tup', vw_lst', vw_frz', vw_dct', List.map_cons, List.map_nil, List.cons_append, List.nil_append, List.append_nil, List.getElem?_cons_zero, List.getElem?_cons_succ, List.set_cons_zero, List.set_cons_succ, List.replicate_succ, List.replicate_zero, List.length_cons, List.length_nil, opt_some', bind_ok', ix_non, ix_bl, ix_int, ix_str, ix_tup, ix_lst, ix_frz, ix_dct, ix_ref, ix_fn, Bool.false_eq_true, if_false, if_true, ite_true, ite_false, Option.map_some, Option.bind_some, Nat.sub_self, Nat.reduceSub, reduceIte, Nat.reduceAdd, Nat.reduceLT, true_and, and_true, true_implies, forall_const, decide_true, decide_false]
  refine (P.th p).use0 hps hk fun t S' hn hp' ht => ?_
  have nx := things_nx t ht
  have d1 := due_ev (C := C) (base := base) (p := p) (l := l) (w := w) (x4 := none) (x5 := x5) (x6 := x6) (S := S') ht
  have k5 : callR C base true 5 [.int (w : Int), t, .bl (decide (l = 1))] S' = .ok (.exv (clsOf w) (argsOf w t)) S' := P.md w hw _ t ht S' base
  have e1 : eqD (.int l) (.int 1) = some (decide (l = 1)) := by
    by_cases h : l = 1
    · subst h; rfl
    · simp [eqD, sc2, sc, eqv, h]
  have d2 : evE C base (.call true 5 [(.var 2), (.var 3), (.cmp .eq (.var 1) (.cst (.int 1)))]) [some (.ref p), some (.int l), some (.int (w : Int)), some t, none, x5, x6] S' = .ok (.exv (clsOf w) (argsOf w t)) S' := by
    simp [evE, evEs, getV, ix_ref, ix_int, ix_exv, nx, cmpD, e1, vw, k5]
  refine w_par ?_
  rw [evEs, d1, bind_ok', evEs, d2, bind_ok', evEs, bind_ok', bind_ok']
  refine okr_ok.mpr ⟨rfl, fun i hi => ?_, ?_⟩
  · have hi' : i = 5 ∨ i = 6 := by simpa using hi
    rcases hi' with rfl | rfl <;> simp
  show Q (evSs C base _ [some (.ref p), some (.int l), some (.int (w : Int)), some t, none, some (dueOf w t), some (.exv (clsOf w) (argsOf w t))] S')
  refine w_ife (OkR.of_eq (look_ev P hw ht) ⟨false, rfl, (fun z => nomatch z), fun _ => then_nil ?_⟩)
  refine w_cons ?_
  rw [try_ev P hw ht]
  exact then_nx (w_nil (h S' t ht hn hp'))
theorem right_run (P : Sp C) (p : Nat) : RunDoes C ⟨1, 7, b__law_right⟩ [.ref p] p 57 (fun d => d = .bl true) := by
  intro st q hps hq
  refine run_ok ⟨rfl, by decide⟩ ?_
  show EndR _ (evSs C st.length b__law_right [some (.ref p), none, none, none, none, none, none] st)
  unfold b__law_right
  refine w_loop (fun i : Nat => D.int (i : Int)) (List.range 3) (fun d ρ S => ∃ x1 x2 x3 x5 x6, ρ = [some (.ref p), x1, x2, x3, none, x5, x6] ∧ Nr p st S ∧ PS p (q + 19 * d.length) S) (st0 := st) ?_ ?_ ?_ ?_
  · exact evI_rng1 (n := 3) (by simp only [evE, evEs, evI, evT, evO, getV, okr_bind, okr_ok, endr_ret, then_ret_iff, at_0, at_1, at_2, at_3, at_4, in_2, in_3, in_4, in_str, eqD_str, biR, binR, cmpD, subD, slcR, lenD, truth, asB, mtTy, isKi, keyOf, asgR, asgRs, vw_int', vw_bl', vw_non', vw_str', vw_tup', vw_lst', vw_frz', vw_dct', List.map_cons, List.map_nil, List.cons_append, List.nil_append, List.append_nil, List.getElem?_cons_zero, List.getElem?_cons_succ, List.set_cons_zero, List.set_cons_succ, List.replicate_succ, List.replicate_zero, List.length_cons, List.length_nil, opt_some', bind_ok', ix_non, ix_bl, ix_int, ix_str, ix_tup, ix_lst, ix_frz, ix_dct, ix_ref, ix_fn, Bool.false_eq_true, if_false, if_true, ite_true, ite_false, Option.map_some, Option.bind_some, Nat.sub_self, Nat.reduceSub, reduceIte, Nat.reduceAdd, Nat.reduceLT, true_and, and_true, true_implies, forall_const, decide_true, decide_false]; rfl) (by decide)
  · exact ⟨_, _, _, _, _, rfl, Nr.refl hps, hps⟩
  · rintro d x r hd ρ S ⟨x1, x2, x3, x5, x6, rfl, n1, p1⟩
    have hd3 : d.length < 3 := by
      have := congrArg List.length hd
      simp at this
      omega
    unfold forF
    simp only [putN]
    simp only [evE, evEs, evI, evT, evO, getV, okr_bind, okr_ok, endr_ret, then_ret_iff, at_0, at_1, at_2, at_3, at_4, in_2, in_3, in_4, in_str, eqD_str, biR, binR, cmpD, subD, slcR, lenD, truth, asB, mtTy, isKi, keyOf, asgR, asgRs, vw_int', vw_bl', vw_non', vw_str', vw_tup', vw_lst', vw_frz', vw_dct', List.map_cons, List.map_nil, List.cons_append, List.nil_append, List.append_nil, List.getElem?_cons_zero, List.getElem?_cons_succ, List.set_cons_zero, List.set_cons_succ, List.replicate_succ, List.replicate_zero, List.length_cons, List.length_nil, opt_some', bind_ok', ix_non, ix_bl, ix_int, ix_str, ix_tup, ix_lst, ix_frz, ix_dct, ix_ref, ix_fn, Bool.false_eq_true, if_false, if_true, ite_true, ite_false, Option.map_some, Option.bind_some, Nat.sub_self, Nat.reduceSub, reduceIte, Nat.reduceAdd, Nat.reduceLT, true_and, and_true, true_implies, forall_const, decide_true, decide_false]
    unfold bl__law_right_1
    refine w_loop (fun i : Nat => D.int (i : Int)) (List.range 19) (fun e ρ S => ∃ x2 x3 x5 x6, ρ = [some (.ref p), some (.int (x : Int)), x2, x3, none, x5, x6] ∧ Nr p st S ∧ PS p (q + 19 * d.length + e.length) S) (st0 := S) ?_ ?_ ?_ ?_
    · exact evI_rng1 (n := 19) (by simp only [evE, evEs, evI, evT, evO, getV, okr_bind, okr_ok, endr_ret, then_ret_iff, at_0, at_1, at_2, at_3, at_4, in_2, in_3, in_4, in_str, eqD_str, biR, binR, cmpD, subD, slcR, lenD, truth, asB, mtTy, isKi, keyOf, asgR, asgRs, vw_int', vw_bl', vw_non', vw_str', vw_tup', vw_lst', vw_frz', vw_dct', List.map_cons, List.map_nil, List.cons_append, List.nil_append, List.append_nil, List.getElem?_cons_zero, List.getElem?_cons_succ, List.set_cons_zero, List.set_cons_succ, List.replicate_succ, List.replicate_zero, List.length_cons, List.length_nil, opt_some', bind_ok', ix_non, ix_bl, ix_int, ix_str, ix_tup, ix_lst, ix_frz, ix_dct, ix_ref, ix_fn, Bool.false_eq_true, if_false, if_true, ite_true, ite_false, Option.map_some, Option.bind_some, Nat.sub_self, Nat.reduceSub, reduceIte, Nat.reduceAdd, Nat.reduceLT, true_and, and_true, true_implies, forall_const, decide_true, decide_false]; rfl) (by decide)
    · exact ⟨_, _, _, _, rfl, n1, p1⟩
    · rintro e w r' he ρ S2 ⟨x2, x3, x5, x6, rfl, n2, p2⟩
      have hw : w < 19 := List.mem_range.mp (by rw [he]; simp)
      have he19 : e.length < 19 := by
        have := congrArg List.length he
        simp at this
        omega
      unfold forF
      simp only [putN]
      simp only [evE, evEs, evI, evT, evO, getV, okr_bind, okr_ok, endr_ret, then_ret_iff, at_0, at_1, at_2, at_3, at_4, in_2, in_3, in_4, in_str, eqD_str, biR, binR, cmpD, subD, slcR, lenD, truth, asB, mtTy, isKi, keyOf, asgR, asgRs, vw_int', vw_bl', vw_non', vw_str', vw_tup', vw_lst', vw_frz', vw_dct', List.map_cons, List.map_nil, List.cons_append, List.nil_append, List.append_nil, List.getElem?_cons_zero, List.getElem?_cons_succ, List.set_cons_zero, List.set_cons_succ, List.replicate_succ, List.replicate_zero, List.length_cons, List.length_nil, opt_some', bind_ok', ix_non, ix_bl, ix_int, ix_str, ix_tup, ix_lst, ix_frz, ix_dct, ix_ref, ix_fn, Bool.false_eq_true, if_false, if_true, ite_true, ite_false, Option.map_some, Option.bind_some, Nat.sub_self, Nat.reduceSub, reduceIte, Nat.reduceAdd, Nat.reduceLT, true_and, and_true, true_implies, forall_const, decide_true, decide_false]
      refine turn_ok P hw p2 (by omega) fun S' t ht hn hp' => ?_
      refine lor_nx ⟨_, _, _, _, rfl, n2.trans hn, ?_⟩
      rw [List.length_append, List.length_singleton, ← Nat.add_assoc]
      exact hp'
    · rintro ρ S2 ⟨x2, x3, x5, x6, rfl, n2, p2⟩
      refine w_nil (lor_nx ⟨_, _, _, _, _, rfl, n2, ?_⟩)
      rw [List.length_append, List.length_singleton]
      rw [List.length_range] at p2
      exact p2.mono (by omega)
  · rintro ρ S ⟨x1, x2, x3, x5, x6, rfl, n1, p1⟩
    refine w_ret ?_
    simp only [evE, evEs, evI, evT, evO, getV, okr_bind, okr_ok, endr_ret, then_ret_iff, at_0, at_1, at_2, at_3, at_4, in_2, in_3, in_4, in_str, eqD_str, biR, binR, cmpD, subD, slcR, lenD, truth, asB, mtTy, isKi, keyOf, asgR, asgRs, vw_int', vw_bl', vw_non', vw_str', vw_tup', vw_lst', vw_frz', vw_dct', List.map_cons, List.map_nil, List.cons_append, List.nil_append, List.append_nil, List.getElem?_cons_zero, List.getElem?_cons_succ, List.set_cons_zero, List.set_cons_succ, List.replicate_succ, List.replicate_zero, List.length_cons, List.length_nil, opt_some', bind_ok', ix_non, ix_bl, ix_int, ix_str, ix_tup, ix_lst, ix_frz, ix_dct, ix_ref, ix_fn, Bool.false_eq_true, if_false, if_true, ite_true, ite_false, Option.map_some, Option.bind_some, Nat.sub_self, Nat.reduceSub, reduceIte, Nat.reduceAdd, Nat.reduceLT, true_and, and_true, true_implies, forall_const, decide_true, decide_false]
    rw [List.length_range] at p1
    exact ⟨S, [], by simp, n1, p1, rfl⟩
end
end K00

namespace K00
open Rf
theorem compD_rel {α : Type} {φ : α → D} {f : D → Sto → R (Option D)} (J : Nat → Sto → Prop) (Pd : α → D → Prop) (N : Nat) : ∀ (xs : List α) (i : Nat) (st : Sto), (∀ x ∈ xs, ∀ i st, i < N → J i st → OkR (f (φ x) st) fun y st' => (∃ d, y = some d ∧ Pd x d) ∧ J (i + 1) st') → i + xs.length ≤ N → J i st → OkR (compD f (fun _ => true) (xs.map φ) st) fun ys st' => (∃ zs : List (α × D), zs.map (·.1) = xs ∧ zs.map (·.2) = ys ∧ ∀ z ∈ zs, Pd z.1 z.2) ∧ J (i + xs.length) st'
  | [], i, st, _, _, h => okr_ok.mpr ⟨⟨[], rfl, rfl, by simp⟩, h⟩
  | x :: xs, i, st, step, hn, h => by
    obtain ⟨y, st1, e1, ⟨d, rfl, hd⟩, h1⟩ := (step x List.mem_cons_self i st (by simp at hn; omega) h).eq
    obtain ⟨ys, st2, e2, ⟨zs, z1, z2, z3⟩, h4⟩ := (compD_rel J Pd N xs (i + 1) st1 (fun y hy => step y (List.mem_cons_of_mem _ hy)) (by simp at hn; omega) h1).eq
    have he : i + 1 + xs.length = i + (xs.length + 1) := by omega
    rw [he] at h4
    refine OkR.of_eq (a := d :: ys) (st := st2) ?_ ⟨⟨(x, d) :: zs, by rw [List.map_cons, z1], by rw [List.map_cons, z2], fun z hz => ?_⟩, h4⟩
    · show (if true = true then (match f (φ x) st with
        | .ok y st => (match compD f (fun _ => true) (xs.map φ) st with
          | .ok ys st => .ok (match y with | some y => y :: ys | none => ys) st
          | _ => .bad)
        | _ => .bad) else R.bad) = _
      rw [if_pos rfl, e1]
      dsimp only
      rw [e2]
    · rcases List.mem_cons.mp hz with rfl | hz
      · exact hd
      · exact z3 z hz
abbrev PoolS (C : Call) : Prop := ∀ (ns : List Int) (lap : Int) (st : Sto) (base : Nat), ns.length ≤ 63 → 0 ≤ lap → lap ≤ 1000 → ∃ o, C 0 [.frz (ns.map .int), .int lap] st base = .ok (.ref st.length) (st ++ [o]) ∧ PO 0 o
abbrev RightS (C : Call) : Prop := ∀ p : Nat, Does C 10 [.ref p] p 57 (fun d => d = .bl true)
theorem cap_ok {n : Int} (h0 : 0 ≤ n) : ∃ k : Nat, k ≤ 3 ∧ (if (if (3 : Int) < n then (3 : Int) else n) > 1 then (if (3 : Int) < n then (3 : Int) else n) else 1) = (k : Int) := by
  by_cases h1 : (3 : Int) < n
  · exact ⟨3, by decide, by simp [h1]⟩
  · rw [if_neg h1]
    by_cases h2 : n > 1
    · exact ⟨n.toNat, by omega, by rw [if_pos h2]; omega⟩
    · exact ⟨1, by decide, by rw [if_neg h2]; rfl⟩
theorem all_true : ∀ {zs : List (Nat × D)}, (∀ z ∈ zs, z.2 = .bl true) → zs.map (·.2) = (zs.map (·.1)).map fun _ => D.bl true
  | [], _ => rfl
  | z :: zs, h => by
    rw [List.map_cons, List.map_cons, List.map_cons, h z List.mem_cons_self, all_true fun y hy => h y (List.mem_cons_of_mem _ hy)]
section
variable {C : Call}
theorem law_comp (PL : PoolS C) (RT : RightS C) {ns : List Int} (hl : ns.length ≤ 63) {k : Nat} (hk : k ≤ 3) {e : E} (he : evE C 0 e [some (.frz (ns.map .int)), none] [] = .ok (.int (k : Int)) []) : OkR (evE C 0 (.comp false [1] (.nm 1) (.rng1 e) none (.call true 10 [(.call false 0 [(.var 0), (.var 1)])])) [some (.frz (ns.map .int)), none] []) fun d _ => d = .lst ((List.range k).map fun _ => D.bl true) := by
  have sl := sl_eq
  have hi := evI_rng1 he (by omega)
  rw [evE, hi, bind_ok']
  refine okr_comp ((compD_rel (φ := fun i : Nat => D.int (i : Int)) (fun _ _ => True) (fun _ d => d = .bl true) k (List.range k) 0 [] ?_ (by rw [List.length_range]; omega) trivial).mono ?_)
  · intro x hx i S hi _
    have hx' := List.mem_range.mp hx
    have e1 : putN (.nm 1) (.int (x : Int)) (wipeE [some (.frz (ns.map .int)), none] [1]) = some [some (.frz (ns.map .int)), some (.int (x : Int))] := by simp [putN, wipeE]
    simp only [e1]
    obtain ⟨o, e2, ho⟩ := PL ns x S 0 hl (by omega) (by omega)
    have e3 : callR C 0 false 0 [.frz (ns.map .int), .int (x : Int)] S = .ok (.ref S.length) (S ++ [o]) := e2
    simp only [evE, evEs, evI, evT, evO, getV, okr_bind, okr_ok, endr_ret, then_ret_iff, at_0, at_1, at_2, at_3, at_4, in_2, in_3, in_4, in_str, eqD_str, biR, binR, cmpD, subD, slcR, lenD, truth, asB, mtTy, isKi, keyOf, asgR, asgRs, vw_int', vw_bl', vw_non', vw_str', vw_tup', vw_lst', vw_frz', vw_dct', List.map_cons, List.map_nil, List.cons_append, List.nil_append, List.append_nil, List.getElem?_cons_zero, List.getElem?_cons_succ, List.set_cons_zero, List.set_cons_succ, List.replicate_succ, List.replicate_zero, List.length_cons, List.length_nil, opt_some', bind_ok', ix_non, ix_bl, ix_int, ix_str, ix_tup, ix_lst, ix_frz, ix_dct, ix_ref, ix_fn, Bool.false_eq_true, if_false, if_true, ite_true, ite_false, Option.map_some, Option.bind_some, Nat.sub_self, Nat.reduceSub, reduceIte, Nat.reduceAdd, Nat.reduceLT, true_and, and_true, true_implies, forall_const, decide_true, decide_false, e3]
    refine (RT S.length (S ++ [o]) 0 0 ⟨o, by simp, ho⟩ (by decide)).mono fun d st' ⟨_, _, h⟩ => ?_
    subst h
    exact ⟨_, rfl, rfl⟩
  · intro ys A' ⟨⟨zs, z1, z2, z3⟩, _⟩
    have hy : ys = (List.range k).map fun _ => D.bl true := by rw [← z2, all_true z3, z1]
    subst hy
    exact okr_mkL (by rw [List.length_map, List.length_range]; omega) rfl
theorem law_run (PL : PoolS C) (RT : RightS C) {ns : List Int} (hl : ns.length ≤ 63) : OkR (runFd C ⟨1, 2, b_law⟩ [.frz (ns.map .int)] [] 0) fun d _ => d = .bl true := by
  obtain ⟨k, hk, ek⟩ := cap_ok (n := (ns.length : Int)) (by omega)
  have he : evE C 0 (.bi .max2 false [(.cst (.int 1)), (.bi .min2 false [(.bi .len false [(.var 0)]), (.cst (.int 3))])]) [some (.frz (ns.map .int)), none] [] = .ok (.int (k : Int)) [] := by
    rw [← ek]
    simp only [evE, evEs, evI, evT, evO, getV, okr_bind, okr_ok, endr_ret, then_ret_iff, at_0, at_1, at_2, at_3, at_4, in_2, in_3, in_4, in_str, eqD_str, biR, binR, cmpD, subD, slcR, lenD, truth, asB, mtTy, isKi, keyOf, asgR, asgRs, vw_int', vw_bl', vw_non', vw_str', vw_tup', vw_lst', vw_frz', vw_dct', List.map_cons, List.map_nil, List.cons_append, List.nil_append, List.append_nil, List.getElem?_cons_zero, List.getElem?_cons_succ, List.set_cons_zero, List.set_cons_succ, List.replicate_succ, List.replicate_zero, List.length_cons, List.length_nil, opt_some', bind_ok', ix_non, ix_bl, ix_int, ix_str, ix_tup, ix_lst, ix_frz, ix_dct, ix_ref, ix_fn, Bool.false_eq_true, if_false, if_true, ite_true, ite_false, Option.map_some, Option.bind_some, Nat.sub_self, Nat.reduceSub, reduceIte, Nat.reduceAdd, Nat.reduceLT, true_and, and_true, true_implies, forall_const, decide_true, decide_false, List.length_map]
  refine run_ok ⟨rfl, by decide⟩ (w_ret ?_)
  rw [evE, evEs, okr_bind, okr_bind]
  refine (law_comp PL RT hl hk he).mono fun d S e => ?_
  subst e
  rw [evEs, okr_bind, okr_ok, okr_ok]
  simp only [List.map_cons, List.map_nil, vw_lst', biR, boolsOf_map (fun _ : Nat => true), opt_some', bind_ok']
  rw [okr_ok, endr_ret]
  simp
end
theorem l_thing (n : Nat) : ThS (K (n + 3)) := fun p => (thing_run (C := K (n + 2)) (l_one n) p).of fun _ _ _ => rfl
theorem l_sp (n : Nat) : Sp (K (n + 8)) where
  th := l_thing (n + 5)
  md := fun w hw b => l_made (n + 6) w hw b
  rs := fun w hw => l_raise (n + 7) w hw
  kd := fun w hw => l_kinds (n + 7) w hw
  kx := fun w hw => l_kindx (n + 7) w hw
  kp := fun w hw => l_kept (n + 7) w hw
  kpx := fun w hw => l_kepx (n + 7) w hw
  al := fun w hw t ht => l_alike 5 (n + 2) _ (due_tree w t ht)
theorem l_right (n : Nat) : RightS (K (n + 9)) := fun p => (right_run (C := K (n + 8)) (l_sp n) p).of fun _ _ _ => rfl
theorem l_pool (n : Nat) : PoolS (K (n + 1)) := fun ns lap st base hl h0 h1 => pool_run (C := K n) hl h0 h1
theorem answer : ∀ ns : List Int, ns.length ≤ 63 → (∀ z ∈ ns, PySem.Builtin.Int.intBits z ≤ 1048576) → ∃ st, callN (tbOf lw.xs) 40 11 [.frz (ns.map D.int)] [] 0 = .ok (.bl true) st := fun ns hl _ => by
  obtain ⟨d, st, e, h⟩ := (law_run (C := K 39) (l_pool 38) (l_right 30) hl).eq
  subst h
  exact ⟨st, e⟩
end K00

namespace K00
open PySem PySem.Spec PyProof.Rows L2 Rf
abbrev R : PySem.W.OpenRow := PySem.W.OpenLaw.row PySem.Challenge.rw_provenpicks_k00_errors_and_what_they_kee
abbrev hk : PySem.W.Hook := hookX 4 lw.facts lw.defs lw.fxk
def ob (s : PySem.W.SharedT) : AlX := obsXG 4 lw.facts lw.defs lw.fxk (HandSHeadRun.getT s)
theorem ob_eq (s : PySem.W.SharedT) : ob s = hk.obs s.abs := obsXG_eq (HandSHeadRun.getT_eq s)
def loose : List PySem.Str := ([("PickError" : PySem.Str), ("InvalidText" : PySem.Str), ("InvalidPlan" : PySem.Str), ("InvalidProof" : PySem.Str), ("InvalidRows" : PySem.Str), ("InvalidJournal" : PySem.Str), ("Barred" : PySem.Str), ("NoGoal" : PySem.Str), ("Unlike" : PySem.Str), ("InvalidTree" : PySem.Str), ("InvalidChoice" : PySem.Str), ("InvalidNumber" : PySem.Str), ("InvalidFormula" : PySem.Str), ("InvalidRow" : PySem.Str), ("InvalidAssignment" : PySem.Str), ("InvalidNames" : PySem.Str), ("InvalidLot" : PySem.Str), ("InvalidQuestion" : PySem.Str), ("NotADesk" : PySem.Str), ("TooMany" : PySem.Str), ("_law_pool" : PySem.Str), ("_law_thing" : PySem.Str), ("_law_alike" : PySem.Str), ("_law_below" : PySem.Str), ("_law_one" : PySem.Str), ("_law_made" : PySem.Str), ("_law_made_too" : PySem.Str), ("_law_raise" : PySem.Str), ("_law_kept" : PySem.Str), ("_law_kinds" : PySem.Str)] : List PySem.Str) ++ ([("_law_right" : PySem.Str)] : List PySem.Str)
theorem runHd (w : World) : HandSHeadRun.RunEq R (PySem.W.view R.prog [33]) hk ob 9000 loose w := by
  intro os
  kernel_rfl
end K00

open PySem PySem.W PySem.Calls PyProof.Rows
theorem PySem.Challenge.cw_provenpicks_k00_errors_and_what_they_kee_holds : PySem.Challenge.rw_provenpicks_k00_errors_and_what_they_kee.Holds := by
  w_on; o_law
  refine HandSHeadRun.head_any (r := OpenLaw.row PySem.Challenge.rw_provenpicks_k00_errors_and_what_they_kee) (q := view (OpenLaw.row PySem.Challenge.rw_provenpicks_k00_errors_and_what_they_kee).prog [33]) (H := K00.hk) (ob := K00.ob) (M := 9000) (loose := K00.loose) (d := HandSHeadRun.topDef (OpenLaw.row PySem.Challenge.rw_provenpicks_k00_errors_and_what_they_kee).prog 33) (kwd := []) K00.ob_eq
    (by kernel_rfl) (fun s => by kernel_rfl) K00.runHd (by kernel_rfl) (by kernel_rfl) (by kernel_rfl) (by rfl) (by first | assumption | decide +kernel) (by decide +kernel) ⟨rfl, rfl, rfl, rfl, rfl, by decide +kernel⟩ ?hw ?hc
  case hw => w_witness2
  case hc =>
    exact Rf.law_walk (l := PySem.Challenge.rw_provenpicks_k00_errors_and_what_they_kee) (n := 63) (lv := 40) (L := K00.lw) (i0 := 11) (x0 := K00.df_law) rfl (by decide) (by kernel_rfl) ⟨rfl, by decide, by decide⟩ (by kernel_rfl) K00.all_ok K00.allK K00.allX (by decide) (Rf.bare_of (by decide)) (by decide) K00.hot_ok rfl rfl rfl K00.answer

