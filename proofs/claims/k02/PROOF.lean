import PyProof.Rows.All
import KE.KDictZip
import HandS.Zip
import HandS.ForMost
import HandS.Defaults
import HandS.IsInst
import HandS.SortKw
import HandS.Exc
import HandS.TupAny
import HandS.RaiseMore
import HandS.Deep
import KE.KDictPairs
import HandS.Words
import HandS.Head0
import HandS.Head1
import HandS.Head2
import HandS.HeadEnd
import HandS.HeadHook1
import HandS.HeadHook2
import HandS.Ends
import HandS.Style
import HandS.TupMul
import HandS.ListItems
import KE.KRevSl
import KE.GoesEnum
import KE.GoesEnumKw
import HandS.Text
import HandS.Iter
import HandS.Dict
import PyProof.StrLawsRepr
import HandS.TupLen
import HandS.Conv
import HandS.ExcInit
import KE.KExcInit
import KE.KTryMore
import HandS.ExcIs
import HandS.ExcField
import KE.KExcIs
import HandS.HeadHook4
import HandS.ExcOwn
import HandS.ExcValue
import PySem.Challenge.RW_lanewright_k02_families_of_refusals
set_option Elab.async false
set_option linter.all false
set_option maxRecDepth 100000
section
set_option maxHeartbeats 4000000
/-! Zq: zip of two sequences, each a list or a tuple; strict or not. -/
namespace Zq
open PySem
/-- a tuple (true) or a list (false) -/
def Sq : Bool → Heap → Addr → Array Value → Prop
  | true, h, l, xs => h.IsTuple l xs
  | false, h, l, xs => h.IsList l xs
def Im : Bool → Heap → Addr → Addr → Nat → Prop
  | true, h, a, l, i => h.IsTupleIter a l i
  | false, h, a, l, i => h.IsListIter a l i
theorem Sq.at {t : Bool} {h h' : Heap} {l : Addr} {xs : Array Value} (x : Sq t h l xs) (e : ∀ o, h.get? l = some o → h'.get? l = some o) : Sq t h' l xs := by
  cases t with
  | true => exact Heap.IsTuple.at x e
  | false => exact Heap.IsList.at x e
theorem Im.at {t : Bool} {h h' : Heap} {a l : Addr} {i : Nat} (x : Im t h a l i) (e : ∀ o, h.get? a = some o → h'.get? a = some o) : Im t h' a l i := by
  cases t with
  | true => exact Heap.IsTupleIter.at x e
  | false => exact Heap.IsListIter.at x e
theorem Im.lt {t : Bool} {h : Heap} {a l : Addr} {i : Nat} (x : Im t h a l i) : a < h.objs.size := by
  cases t with
  | true => obtain ⟨o, e, _⟩ := (show h.IsTupleIter a l i from x); exact Heap.lt_size e
  | false => obtain ⟨o, e, _⟩ := (show h.IsListIter a l i from x); exact Heap.lt_size e
theorem Im.obj {t : Bool} {h : Heap} {a l : Addr} {i : Nat} (x : Im t h a l i) : ∃ o, h.get? a = some o ∧ o.data = .fields #[.ref l, .int i 0] := by
  cases t with
  | true => obtain ⟨o, e, _, d⟩ := (show h.IsTupleIter a l i from x); exact ⟨o, e, d⟩
  | false => obtain ⟨o, e, _, d⟩ := (show h.IsListIter a l i from x); exact ⟨o, e, d⟩
theorem Sq.lt {t : Bool} {h : Heap} {l : Addr} {xs : Array Value} (x : Sq t h l xs) : l < h.objs.size := by
  cases t with
  | true => obtain ⟨o, e, _⟩ := (show h.IsTuple l xs from x); exact Heap.lt_size e
  | false => obtain ⟨o, e, _⟩ := (show h.IsList l xs from x); exact Heap.lt_size e
abbrev Zo (q : Bool) (h : Heap) (z TI TO : Addr) (f0 : Value) (f1 : Bool) : Prop :=
  h.get? z = some { cls := .type "zip", dict := none, data := .fields #[f0, .bool f1, .bool q, .ref TI, .ref TO], slots := #[] }
def draw (b : Bool) (it : Value) : Sem (Option Value) := do
  if b then Builtin.SmallTypes.nextOrEnd it else return some (← Builtin.SmallTypes.nextOf it)
section
variable {prog : Program} {w : World} {A : Around} {E : Value → Shared → Prop} {s : Shared}
theorem pick {t : Bool} {a l : Addr} {i : Nat} {xs : Array Value} {x : Value} {Q : Value → Shared → Prop} (m : Im t s.heap a l i) (n : Sq t s.heap l xs) (g : xs[i]? = some x)
    (k : ∀ h', Im t h' a l (i + 1) → Heap.SameBut a s.heap h' → Q x { s with heap := h' }) : wpAny (model prog w) A (Builtin.SmallTypes.nextOf (.ref a)) Q E s := by
  cases t with
  | true => exact RZ.nextOf_tuple_item m n g k
  | false => exact wpAny_nextOf_list_item m n g k
theorem ended {t : Bool} {a l : Addr} {i : Nat} {xs : Array Value} {Q : Value → Shared → Prop} (hh : A.handled = none) (m : Im t s.heap a l i) (n : Sq t s.heap l xs) (g : xs[i]? = none)
    (k : ∀ h' e, Heap.ExtBut a s.heap h' → (∃ o, h'.get? e = some o ∧ o.cls = .type "StopIteration") → E (.ref e) { s with heap := h' }) : wpAny (model prog w) A (Builtin.SmallTypes.nextOf (.ref a)) Q E s := by
  cases t with
  | true => exact RZ.nextOf_tuple_end hh m n g k
  | false => exact wpAny_nextOf_list_end hh m n g k
theorem draw_item {b t : Bool} {a l : Addr} {i : Nat} {xs : Array Value} {x : Value} {Q : Option Value → Shared → Prop} (m : Im t s.heap a l i) (n : Sq t s.heap l xs) (g : xs[i]? = some x)
    (k : ∀ h', Im t h' a l (i + 1) → Heap.SameBut a s.heap h' → Q (some x) { s with heap := h' }) : wpAny (model prog w) A (draw b (.ref a)) Q E s := by
  cases b with
  | false => exact wpAny_bind (pick m n g fun h' m' e => wpAny_pure (k h' m' e))
  | true =>
    show wpAny _ _ (Builtin.SmallTypes.nextOrEnd (.ref a)) _ _ _
    unfold Builtin.SmallTypes.nextOrEnd
    exact wpAny_bind (wpAny_attempt (pick m n g fun h' m' e => wpAny_pure (k h' m' e)))
theorem draw_none {t : Bool} {a l : Addr} {i : Nat} {xs : Array Value} {Q : Option Value → Shared → Prop} (hh : A.handled = none) (m : Im t s.heap a l i) (n : Sq t s.heap l xs) (g : xs[i]? = none)
    (k : ∀ h', Heap.ExtBut a s.heap h' → Q none { s with heap := h' }) : wpAny (model prog w) A (Builtin.SmallTypes.nextOrEnd (.ref a)) Q E s := by
  unfold Builtin.SmallTypes.nextOrEnd
  refine wpAny_bind (wpAny_attempt (ended hh m n g fun h' e x y => ?_))
  obtain ⟨o, e1, e2⟩ := y
  exact wpAny_bind (wpAny_isInstance (b := true) (T := "StopIteration") ⟨o, e1, e2⟩ isSubtype_stop (wpAny_pure (k h' x)))
/-- the tuple is free -/
theorem free_at {q : Bool} {z TI TO : Addr} {f : Bool} {Q : Bool → Shared → Prop} (o : Zo q s.heap z TI TO .none f) (k : Q true s) : wpAny (model prog w) A (Builtin.SmallTypes.ownedTupleIsFree (.ref z)) Q E s := by
  unfold Builtin.SmallTypes.ownedTupleIsFree
  exact wpAny_bind (wpAny_field o rfl (x := .none) rfl (wpAny_pure k))
theorem held_at {q : Bool} {z TI TO T : Addr} {f : Bool} {oT : Obj} {Q : Bool → Shared → Prop} (o : Zo q s.heap z TI TO (rawInt T) f) (oe : s.heap.get? T = some oT)
    (k : ∀ h', Zo q h' z TI TO (rawInt T) true → Heap.SameBut z s.heap h' → Q false { s with heap := h' }) : wpAny (model prog w) A (Builtin.SmallTypes.ownedTupleIsFree (.ref z)) Q E s := by
  unfold Builtin.SmallTypes.ownedTupleIsFree
  refine wpAny_bind (wpAny_field o rfl (x := rawInt T) rfl ?_)
  show wpAny _ _ (loadIfAlive (Int.toNat (T : Int)) >>= _) _ _ _
  rw [Int.toNat_natCast]
  refine wpAny_bind (PySem.W.kdx_alive oe ?_)
  simp only [Option.isNone_some, Bool.false_eq_true, if_false]
  refine wpAny_bind (wpAny_field o rfl (x := .bool f) rfl ?_)
  cases f with
  | false =>
    rw [if_pos (by rfl)]
    exact wpAny_bind (wpAny_setField_rec o (by simp) fun h' o' e' => wpAny_pure (k h' o' e'))
  | true =>
    rw [if_neg (fun c => nomatch c)]
    exact wpAny_pure (k s.heap o (Heap.SameBut.refl _ _))
end
end Zq
end
section
set_option maxHeartbeats 4000000
namespace Zq
open PySem
section
variable {prog : Program} {w : World} {A : Around} {E : Value → Shared → Prop} {s : Shared} {q t1 t2 : Bool} {z TI TO i1 i2 l1 l2 : Addr} {k1 k2 : Nat} {xs ys : Array Value} {x y a b : Value}
/-- the tuple is free: it's used again, a new one handed out -/
theorem free_item {Q : Value → Shared → Prop} (D : ZipApart z TI TO i1 i2 l1 l2) (oz : Zo q s.heap z TI TO .none false) (oI : IsPair s.heap TI (.ref i1) (.ref i2)) (oO : IsPair s.heap TO a b)
    (m1 : Im t1 s.heap i1 l1 k1) (m2 : Im t2 s.heap i2 l2 k2) (n1 : Sq t1 s.heap l1 xs) (n2 : Sq t2 s.heap l2 ys) (g1 : xs[k1]? = some x) (g2 : ys[k2]? = some y)
    (k : ∀ h', Zo q h' z TI TO (rawInt s.heap.objs.size) false → IsPair h' TO x y → Im t1 h' i1 l1 (k1 + 1) → Im t2 h' i2 l2 (k2 + 1) → IsPair h' s.heap.objs.size x y → h'.objs.size = s.heap.objs.size + 1 →
      (∀ c o, c ≠ z → c ≠ TO → c ≠ i1 → c ≠ i2 → s.heap.get? c = some o → h'.get? c = some o) → Q (.ref s.heap.objs.size) { s with heap := h' }) :
    wpAny (model prog w) A (Builtin.«zip.__next__» ⟨[.ref z], []⟩) (fun fin s' => ∃ v, fin = .done (.ret v) ∧ Q v s') E s := by
  show wpAny _ _ (do let c ← field (.ref z) 2; _) _ _ _
  refine wpAny_bind (wpAny_field oz rfl (x := .bool q) rfl ?_)
  show wpAny _ _ (do let c ← field (.ref z) 3; _) _ _ _
  refine wpAny_bind (wpAny_field oz rfl (x := .ref TI) rfl ?_)
  refine wpAny_bind (wpAny_seqItems oI rfl ?_)
  show wpAny _ _ (do let c ← Builtin.SmallTypes.ownedTupleIsFree (.ref z); _) _ _ _
  refine wpAny_bind (free_at oz ?_)
  simp only [if_true]
  refine wpAny_bind (wpAny_rule (wpAny_bind (wpAny_field oz rfl (x := .ref TO) rfl ?_)))
  refine wpAny_bind (wpAny_setField_rec oz (by simp) fun u1 oz1 e1 => ?_)
  replace oz1 : Zo q u1 z TI TO .ellipsis false := oz1
  replace e1 : Heap.SameBut z s.heap u1 := e1
  refine wpAny_bind ?_
  simp only [List.zipIdx_cons, List.zipIdx_nil, List.forIn_cons, List.forIn_nil]
  refine wpAny_bind (wpAny_bind (wpAny_onRaise ?_))
  show wpAny _ _ (draw (Value.bool q == Value.bool true) (.ref i1)) _ _ _
  refine draw_item (s := { s with heap := u1 }) (m1.at fun o e => e1.extBut _ _ D.i1z e) (n1.at fun o e => e1.extBut _ _ D.l1z e) g1 fun u2 m1' e2 => ?_
  replace e2 : Heap.SameBut i1 u1 u2 := e2
  have oO2 : IsPair u2 TO a b := e2.extBut _ _ D.TOi1 (e1.extBut _ _ D.TOz oO)
  refine wpAny_bind (wpAny_seqItems oO2 rfl (wpAny_bind (wpAny_updateSeq_pair oO2 fun u3 oO3 e3 => ?_)))
  replace oO3 : IsPair u3 TO x b := oO3
  replace e3 : Heap.SameBut TO u2 u3 := e3
  refine wpAny_bind (wpAny_letGo (wpAny_pure ?_))
  refine wpAny_bind (wpAny_bind (wpAny_onRaise ?_))
  show wpAny _ _ (draw (Value.bool q == Value.bool true) (.ref i2)) _ _ _
  refine draw_item (s := { s with heap := u3 }) (m2.at fun o e => e3.extBut _ _ D.TOi2.symm (e2.extBut _ _ D.i12.symm (e1.extBut _ _ D.i2z e))) (n2.at fun o e => e3.extBut _ _ D.l2TO (e2.extBut _ _ D.l2i1 (e1.extBut _ _ D.l2z e))) g2 fun u4 m2' e4 => ?_
  replace e4 : Heap.SameBut i2 u3 u4 := e4
  have oO4 : IsPair u4 TO x b := e4.extBut _ _ D.TOi2 oO3
  refine wpAny_bind (wpAny_seqItems oO4 rfl (wpAny_bind (wpAny_updateSeq_pair oO4 fun u5 oO5 e5 => ?_)))
  replace oO5 : IsPair u5 TO x y := oO5
  replace e5 : Heap.SameBut TO u4 u5 := e5
  refine wpAny_bind (wpAny_letGo (wpAny_pure (wpAny_pure ?_)))
  refine wpAny_bind (wpAny_seqItems oO5 rfl (wpAny_bind (wpAny_newTuple ?_)))
  have z5 : u5.objs.size = s.heap.objs.size := by rw [e5.1, e4.1, e3.1, e2.1, e1.1]
  have oz5 : Zo q u5 z TI TO .ellipsis false := e5.extBut _ _ D.TOz.symm (e4.extBut _ _ D.i2z.symm (e3.extBut _ _ D.TOz.symm (e2.extBut _ _ D.i1z.symm oz1)))
  have up5 : ∀ c o, c ≠ z → c ≠ TO → c ≠ i1 → c ≠ i2 → s.heap.get? c = some o → u5.get? c = some o := fun c o c1 c2 c3 c4 e =>
    e5.extBut _ _ c2 (e4.extBut _ _ c4 (e3.extBut _ _ c2 (e2.extBut _ _ c3 (e1.extBut _ _ c1 e))))
  have m15 : Im t1 u5 i1 l1 (k1 + 1) := m1'.at fun o e => e5.extBut _ _ D.TOi1.symm (e4.extBut _ _ D.i12 (e3.extBut _ _ D.TOi1.symm e))
  have m25 : Im t2 u5 i2 l2 (k2 + 1) := m2'.at fun o e => e5.extBut _ _ D.TOi2.symm e
  have zlt : z < u5.objs.size := Heap.lt_size oz5
  show wpAny _ _ (do let c ← Builtin.SmallTypes.ownedTupleHandOut (.ref z) (.ref u5.objs.size); _) _ _ _
  refine wpAny_bind ?_
  unfold Builtin.SmallTypes.ownedTupleHandOut
  have oz6 : Zo q (u5.push { cls := .type "tuple", data := .seq #[x, y] }) z TI TO .ellipsis false := Heap.get?_push_of_some _ oz5
  refine wpAny_bind (wpAny_setField_rec oz6 (by simp) fun u7 oz7 e7 => ?_)
  replace oz7 : Zo q u7 z TI TO (rawInt u5.objs.size) false := oz7
  refine wpAny_setField_rec oz7 (by simp) fun u8 oz8 e8 => ?_
  replace oz8 : Zo q u8 z TI TO (rawInt u5.objs.size) false := oz8
  have up : ∀ c o, c ≠ z → u5.get? c = some o → u8.get? c = some o := fun c o c1 e => e8.extBut _ _ c1 (e7.extBut _ _ c1 (Heap.get?_push_of_some _ e))
  have nw : IsPair u8 u5.objs.size x y := e8.extBut _ _ (Nat.ne_of_gt zlt) (e7.extBut _ _ (Nat.ne_of_gt zlt) (Heap.get?_push_size _ rfl))
  have z8 : u8.objs.size = u5.objs.size + 1 := by rw [e8.1, e7.1, Heap.size_push]
  rw [z5] at oz8 nw z8
  refine wpAny_pure ⟨_, rfl, ?_⟩
  show Q (.ref u5.objs.size) _
  rw [z5]
  exact k u8 oz8 (up _ _ D.TOz oO5) (m15.at fun o e => up _ o D.i1z e) (m25.at fun o e => up _ o D.i2z e) nw z8 fun c o c1 c2 c3 c4 e => up c o c1 (up5 c o c1 c2 c3 c4 e)
/-- the tuple is held: a new one -/
theorem held_item {T : Addr} {f : Bool} {oT : Obj} {Q : Value → Shared → Prop} (D : ZipApart z TI TO i1 i2 l1 l2) (oz : Zo q s.heap z TI TO (rawInt T) f) (oe : s.heap.get? T = some oT) (oI : IsPair s.heap TI (.ref i1) (.ref i2))
    (m1 : Im t1 s.heap i1 l1 k1) (m2 : Im t2 s.heap i2 l2 k2) (n1 : Sq t1 s.heap l1 xs) (n2 : Sq t2 s.heap l2 ys) (g1 : xs[k1]? = some x) (g2 : ys[k2]? = some y)
    (k : ∀ h', Zo q h' z TI TO (rawInt T) true → Im t1 h' i1 l1 (k1 + 1) → Im t2 h' i2 l2 (k2 + 1) → IsPair h' s.heap.objs.size x y → h'.objs.size = s.heap.objs.size + 1 →
      (∀ c o, c ≠ z → c ≠ i1 → c ≠ i2 → s.heap.get? c = some o → h'.get? c = some o) → Q (.ref s.heap.objs.size) { s with heap := h' }) :
    wpAny (model prog w) A (Builtin.«zip.__next__» ⟨[.ref z], []⟩) (fun fin s' => ∃ v, fin = .done (.ret v) ∧ Q v s') E s := by
  show wpAny _ _ (do let c ← field (.ref z) 2; _) _ _ _
  refine wpAny_bind (wpAny_field oz rfl (x := .bool q) rfl ?_)
  show wpAny _ _ (do let c ← field (.ref z) 3; _) _ _ _
  refine wpAny_bind (wpAny_field oz rfl (x := .ref TI) rfl (wpAny_bind (wpAny_seqItems oI rfl ?_)))
  show wpAny _ _ (do let c ← Builtin.SmallTypes.ownedTupleIsFree (.ref z); _) _ _ _
  refine wpAny_bind (held_at oz oe fun u1 oz1 e1 => ?_)
  simp only [Bool.false_eq_true, if_false]
  refine wpAny_bind ?_
  rw [← Array.forIn_toList]
  simp only [List.forIn_cons, List.forIn_nil]
  refine wpAny_bind (wpAny_bind (wpAny_holding ?_))
  show wpAny _ _ (draw (Value.bool q == Value.bool true) (.ref i1)) _ _ _
  refine draw_item (s := { s with heap := u1 }) (m1.at fun o e => e1.extBut _ _ D.i1z e) (n1.at fun o e => e1.extBut _ _ D.l1z e) g1 fun u2 m1' e2 => ?_
  replace e2 : Heap.SameBut i1 u1 u2 := e2
  refine wpAny_pure ?_
  refine wpAny_bind (wpAny_bind (wpAny_holding ?_))
  show wpAny _ _ (draw (Value.bool q == Value.bool true) (.ref i2)) _ _ _
  refine draw_item (s := { s with heap := u2 }) (m2.at fun o e => e2.extBut _ _ D.i12.symm (e1.extBut _ _ D.i2z e)) (n2.at fun o e => e2.extBut _ _ D.l2i1 (e1.extBut _ _ D.l2z e)) g2 fun u3 m2' e3 => ?_
  replace e3 : Heap.SameBut i2 u2 u3 := e3
  refine wpAny_pure (wpAny_pure ?_)
  show wpAny _ _ (do let c ← newTuple [x, y]; _) _ _ _
  refine wpAny_bind (wpAny_newTuple ?_)
  have z3 : u3.objs.size = s.heap.objs.size := by rw [e3.1, e2.1, e1.1]
  have oz3 : Zo q u3 z TI TO (rawInt T) true := e3.extBut _ _ D.i2z.symm (e2.extBut _ _ D.i1z.symm oz1)
  have up : ∀ c o, c ≠ z → c ≠ i1 → c ≠ i2 → s.heap.get? c = some o → u3.get? c = some o := fun c o c1 c2 c3 e => e3.extBut _ _ c3 (e2.extBut _ _ c2 (e1.extBut _ _ c1 e))
  refine wpAny_pure ⟨_, rfl, ?_⟩
  show Q (.ref u3.objs.size) _
  have nw : IsPair (u3.push { cls := .type "tuple", data := .seq #[x, y] }) u3.objs.size x y := Heap.get?_push_size _ rfl
  have z4 : (u3.push { cls := .type "tuple", data := .seq #[x, y] }).objs.size = u3.objs.size + 1 := Heap.size_push ..
  rw [z3] at nw z4 ⊢
  exact k _ (Heap.get?_push_of_some _ oz3) (m1'.at fun o e => Heap.get?_push_of_some _ (e3.extBut _ _ D.i12 e)) (m2'.at fun o e => Heap.get?_push_of_some _ e) nw z4 fun c o c1 c2 c3 e => Heap.get?_push_of_some _ (up c o c1 c2 c3 e)
end
end Zq
end
section
set_option maxHeartbeats 4000000
namespace Zq
open PySem
section
variable {prog : Program} {w : World} {A : Around} {E : Value → Shared → Prop} {s : Shared}
theorem stop_raise {α : Type} {Q : α → Shared → Prop} (hh : A.handled = none) (k : ∀ h' e, (∀ c o, s.heap.get? c = some o → h'.get? c = some o) → (∃ o, h'.get? e = some o ∧ o.cls = .type "StopIteration") → E (.ref e) { s with heap := h' }) :
    wpAny (model prog w) A (Builtin.SmallTypes.stopIteration : Sem α) Q E s := by
  show wpAny _ _ (do let x ← newExc (.type "StopIteration") []; _) _ _ _
  refine wpAny_bind ?_
  simp only [newExc, newTuple]
  refine wpAny_bind (wpAny_newObj_type (wpAny_bind (m := firstArgMember _ _) (wpAny_of_eq (a := Value.none) (by first | rfl | (simp only [firstArgMember]; rfl)) (wpAny_newObj_type ?_ (by size_fits)))) (by size_fits))
  simp only [raiseNew]
  refine wpAny_bind (wpAny_handled ?_)
  rw [hh]
  refine wpAny_bind (wpAny_pure (wpAny_throw (k _ _ (fun c o e => Heap.get?_push_of_some _ (Heap.get?_push_of_some _ e)) ⟨_, Heap.get?_push_size _ rfl, rfl⟩)))
variable {q t1 t2 : Bool} {z TI TO i1 i2 l1 l2 : Addr} {k1 k2 : Nat} {xs ys : Array Value} {x y a b : Value}
/-- where it ends: the shorter one, or, if strict, both at once -/
def Ends (q : Bool) (xs ys : Array Value) (k1 k2 : Nat) : Prop := (q = false ∧ (xs[k1]? = none ∨ ys[k2]? = none)) ∨ (q = true ∧ xs[k1]? = none ∧ ys[k2]? = none)
theorem free_end {Q : Fin → Shared → Prop} (hh : A.handled = none) (D : ZipApart z TI TO i1 i2 l1 l2) (oz : Zo q s.heap z TI TO .none false) (oI : IsPair s.heap TI (.ref i1) (.ref i2)) (oO : IsPair s.heap TO a b)
    (m1 : Im t1 s.heap i1 l1 k1) (m2 : Im t2 s.heap i2 l2 k2) (n1 : Sq t1 s.heap l1 xs) (n2 : Sq t2 s.heap l2 ys) (g : Ends q xs ys k1 k2)
    (k : ∀ h' e, (∀ c o, c ≠ z → c ≠ TO → c ≠ i1 → c ≠ i2 → s.heap.get? c = some o → h'.get? c = some o) → (∃ o, h'.get? e = some o ∧ o.cls = .type "StopIteration") → E (.ref e) { s with heap := h' }) :
    wpAny (model prog w) A (Builtin.«zip.__next__» ⟨[.ref z], []⟩) Q E s := by
  show wpAny _ _ (do let c ← field (.ref z) 2; _) _ _ _
  refine wpAny_bind (wpAny_field oz rfl (x := .bool q) rfl ?_)
  show wpAny _ _ (do let c ← field (.ref z) 3; _) _ _ _
  refine wpAny_bind (wpAny_field oz rfl (x := .ref TI) rfl (wpAny_bind (wpAny_seqItems oI rfl ?_)))
  show wpAny _ _ (do let c ← Builtin.SmallTypes.ownedTupleIsFree (.ref z); _) _ _ _
  refine wpAny_bind (free_at oz ?_)
  simp only [if_true]
  refine wpAny_bind (wpAny_rule (wpAny_bind (wpAny_field oz rfl (x := .ref TO) rfl ?_)))
  refine wpAny_bind (wpAny_setField_rec oz (by simp) fun u1 oz1 e1 => ?_)
  replace oz1 : Zo q u1 z TI TO .ellipsis false := oz1
  replace e1 : Heap.SameBut z s.heap u1 := e1
  refine wpAny_bind ?_
  simp only [List.zipIdx_cons, List.zipIdx_nil, List.forIn_cons, List.forIn_nil]
  rcases g with ⟨rfl, g⟩ | ⟨rfl, g1, g2⟩
  · refine wpAny_bind (wpAny_bind (wpAny_onRaise ?_))
    show wpAny _ _ (do let c ← Builtin.SmallTypes.nextOf (.ref i1); _) _ _ _
    cases hx : xs[k1]? with
    | none =>
      refine wpAny_bind (ended (s := { s with heap := u1 }) hh (m1.at fun o e => e1.extBut _ _ D.i1z e) (n1.at fun o e => e1.extBut _ _ D.l1z e) hx fun u2 e e2 y2 => ?_)
      obtain ⟨oe, y3, y4⟩ := y2
      have oz2 : Zo false u2 z TI TO .ellipsis false := e2 _ _ D.i1z.symm oz1
      have nz : e ≠ z := fun c => by subst c; rw [oz2] at y3; cases y3; simp at y4
      exact wpAny_setField_rec oz2 (by simp) fun u3 _ e3 => k u3 e (fun c o c1 _ c3 _ v => e3.extBut _ _ c1 (e2 _ _ c3 (e1.extBut _ _ c1 v))) ⟨oe, e3.extBut _ _ nz y3, y4⟩
    | some x =>
      have g2 : ys[k2]? = none := by
        rcases g with g | g
        · rw [hx] at g; cases g
        · exact g
      refine wpAny_bind (pick (s := { s with heap := u1 }) (m1.at fun o e => e1.extBut _ _ D.i1z e) (n1.at fun o e => e1.extBut _ _ D.l1z e) hx fun u2 m1' e2 => wpAny_pure ?_)
      replace e2 : Heap.SameBut i1 u1 u2 := e2
      have oO2 : IsPair u2 TO a b := e2.extBut _ _ D.TOi1 (e1.extBut _ _ D.TOz oO)
      refine wpAny_bind (wpAny_seqItems oO2 rfl (wpAny_bind (wpAny_updateSeq_pair oO2 fun u3 oO3 e3 => ?_)))
      replace e3 : Heap.SameBut TO u2 u3 := e3
      refine wpAny_bind (wpAny_letGo (wpAny_pure (wpAny_bind (wpAny_bind (wpAny_onRaise ?_)))))
      show wpAny _ _ (do let c ← Builtin.SmallTypes.nextOf (.ref i2); _) _ _ _
      refine wpAny_bind (ended (s := { s with heap := u3 }) hh (m2.at fun o e => e3.extBut _ _ D.TOi2.symm (e2.extBut _ _ D.i12.symm (e1.extBut _ _ D.i2z e))) (n2.at fun o e => e3.extBut _ _ D.l2TO (e2.extBut _ _ D.l2i1 (e1.extBut _ _ D.l2z e))) g2 fun u4 e e4 y2 => ?_)
      obtain ⟨oe, y3, y4⟩ := y2
      have oz4 : Zo false u4 z TI TO .ellipsis false := e4 _ _ D.i2z.symm (e3.extBut _ _ D.TOz.symm (e2.extBut _ _ D.i1z.symm oz1))
      have nz : e ≠ z := fun c => by subst c; rw [oz4] at y3; cases y3; simp at y4
      exact wpAny_setField_rec oz4 (by simp) fun u5 _ e5 => k u5 e (fun c o c1 c2 c3 c4 v => e5.extBut _ _ c1 (e4 _ _ c4 (e3.extBut _ _ c2 (e2.extBut _ _ c3 (e1.extBut _ _ c1 v))))) ⟨oe, e5.extBut _ _ nz y3, y4⟩
  · refine wpAny_bind (wpAny_bind (wpAny_onRaise ?_))
    show wpAny _ _ (Builtin.SmallTypes.nextOrEnd (.ref i1)) _ _ _
    refine draw_none (s := { s with heap := u1 }) hh (m1.at fun o e => e1.extBut _ _ D.i1z e) (n1.at fun o e => e1.extBut _ _ D.l1z e) g1 fun u2 e2 => ?_
    replace e2 : Heap.ExtBut i1 u1 u2 := e2
    have oz2 : Zo true u2 z TI TO .ellipsis false := e2 _ _ D.i1z.symm oz1
    refine wpAny_bind (wpAny_setField_rec oz2 (by simp) fun u3 oz3 e3 => ?_)
    replace e3 : Heap.SameBut z u2 u3 := e3
    refine wpAny_bind ?_
    show wpAny _ _ (forIn [(Value.ref i2, 1)] PUnit.unit _ >>= _) _ _ _
    simp only [List.forIn_cons, List.forIn_nil]
    refine wpAny_bind (wpAny_bind (wpAny_bind ?_))
    refine draw_none (s := { s with heap := u3 }) hh (m2.at fun o e => e3.extBut _ _ D.i2z (e2 _ _ D.i12.symm (e1.extBut _ _ D.i2z e))) (n2.at fun o e => e3.extBut _ _ D.l2z (e2 _ _ D.l2i1 (e1.extBut _ _ D.l2z e))) g2 fun u4 e4 => ?_
    replace e4 : Heap.ExtBut i2 u3 u4 := e4
    refine wpAny_pure (wpAny_pure (wpAny_bind (wpAny_rule ?_)))
    exact stop_raise (s := { s with heap := u4 }) hh fun u5 e e5 y2 => k u5 e (fun c o c1 c2 c3 c4 v => e5 _ _ (e4 _ _ c4 (e3.extBut _ _ c1 (e2 _ _ c3 (e1.extBut _ _ c1 v))))) y2
end
end Zq
end
section
set_option maxHeartbeats 4000000
namespace Zq
open PySem
section
variable {prog : Program} {w : World} {A : Around} {E : Value → Shared → Prop} {s : Shared} {q t1 t2 : Bool} {z TI TO i1 i2 l1 l2 : Addr} {k1 k2 : Nat} {xs ys : Array Value} {x y a b : Value}
theorem held_end {T : Addr} {f : Bool} {oT : Obj} {Q : Fin → Shared → Prop} (hh : A.handled = none) (D : ZipApart z TI TO i1 i2 l1 l2) (oz : Zo q s.heap z TI TO (rawInt T) f) (oe : s.heap.get? T = some oT) (oI : IsPair s.heap TI (.ref i1) (.ref i2))
    (m1 : Im t1 s.heap i1 l1 k1) (m2 : Im t2 s.heap i2 l2 k2) (n1 : Sq t1 s.heap l1 xs) (n2 : Sq t2 s.heap l2 ys) (g : Ends q xs ys k1 k2)
    (k : ∀ h' e, (∀ c o, c ≠ z → c ≠ i1 → c ≠ i2 → s.heap.get? c = some o → h'.get? c = some o) → (∃ o, h'.get? e = some o ∧ o.cls = .type "StopIteration") → E (.ref e) { s with heap := h' }) :
    wpAny (model prog w) A (Builtin.«zip.__next__» ⟨[.ref z], []⟩) Q E s := by
  show wpAny _ _ (do let c ← field (.ref z) 2; _) _ _ _
  refine wpAny_bind (wpAny_field oz rfl (x := .bool q) rfl ?_)
  show wpAny _ _ (do let c ← field (.ref z) 3; _) _ _ _
  refine wpAny_bind (wpAny_field oz rfl (x := .ref TI) rfl (wpAny_bind (wpAny_seqItems oI rfl ?_)))
  show wpAny _ _ (do let c ← Builtin.SmallTypes.ownedTupleIsFree (.ref z); _) _ _ _
  refine wpAny_bind (held_at oz oe fun u1 oz1 e1 => ?_)
  simp only [Bool.false_eq_true, if_false]
  refine wpAny_bind ?_
  rw [← Array.forIn_toList]
  simp only [List.forIn_cons, List.forIn_nil]
  rcases g with ⟨rfl, g⟩ | ⟨rfl, g1, g2⟩
  · refine wpAny_bind (wpAny_bind (wpAny_holding ?_))
    show wpAny _ _ (do let c ← Builtin.SmallTypes.nextOf (.ref i1); _) _ _ _
    cases hx : xs[k1]? with
    | none => exact wpAny_bind (ended (s := { s with heap := u1 }) hh (m1.at fun o e => e1.extBut _ _ D.i1z e) (n1.at fun o e => e1.extBut _ _ D.l1z e) hx fun u2 e e2 y2 => k u2 e (fun c o c1 c2 _ v => e2 _ _ c2 (e1.extBut _ _ c1 v)) y2)
    | some x =>
      have g2 : ys[k2]? = none := by
        rcases g with g | g
        · rw [hx] at g; cases g
        · exact g
      refine wpAny_bind (pick (s := { s with heap := u1 }) (m1.at fun o e => e1.extBut _ _ D.i1z e) (n1.at fun o e => e1.extBut _ _ D.l1z e) hx fun u2 m1' e2 => wpAny_pure (wpAny_pure (wpAny_bind (wpAny_bind (wpAny_holding ?_)))))
      show wpAny _ _ (do let c ← Builtin.SmallTypes.nextOf (.ref i2); _) _ _ _
      replace e2 : Heap.SameBut i1 u1 u2 := e2
      exact wpAny_bind (ended (s := { s with heap := u2 }) hh (m2.at fun o e => e2.extBut _ _ D.i12.symm (e1.extBut _ _ D.i2z e)) (n2.at fun o e => e2.extBut _ _ D.l2i1 (e1.extBut _ _ D.l2z e)) g2 fun u3 e e3 y2 => k u3 e (fun c o c1 c2 c3 v => e3 _ _ c3 (e2.extBut _ _ c2 (e1.extBut _ _ c1 v))) y2)
  · refine wpAny_bind (wpAny_bind (wpAny_holding ?_))
    show wpAny _ _ (Builtin.SmallTypes.nextOrEnd (.ref i1)) _ _ _
    refine draw_none (s := { s with heap := u1 }) hh (m1.at fun o e => e1.extBut _ _ D.i1z e) (n1.at fun o e => e1.extBut _ _ D.l1z e) g1 fun u2 e2 => ?_
    replace e2 : Heap.ExtBut i1 u1 u2 := e2
    refine wpAny_bind ?_
    show wpAny _ _ (forIn [(Value.ref i2, 1)] PUnit.unit _ >>= _) _ _ _
    simp only [List.forIn_cons, List.forIn_nil]
    refine wpAny_bind (wpAny_bind (wpAny_bind ?_))
    refine draw_none (s := { s with heap := u2 }) hh (m2.at fun o e => e2 _ _ D.i12.symm (e1.extBut _ _ D.i2z e)) (n2.at fun o e => e2 _ _ D.l2i1 (e1.extBut _ _ D.l2z e)) g2 fun u4 e4 => ?_
    replace e4 : Heap.ExtBut i2 u2 u4 := e4
    refine wpAny_pure (wpAny_pure (wpAny_bind (wpAny_rule ?_)))
    exact stop_raise (s := { s with heap := u4 }) hh fun u5 e e5 y2 => k u5 e (fun c o c1 c2 c3 v => e5 _ _ (e4 _ _ c3 (e2 _ _ c2 (e1.extBut _ _ c1 v)))) y2
/-! as pyNext -/
theorem nx_item {Q : Option Value → Shared → Prop} (oz : ∃ f0 f1, Zo q s.heap z TI TO f0 f1) (h : wpAny (model prog w) A.in1 (Builtin.«zip.__next__» ⟨[.ref z], []⟩) (fun fin s' => ∃ v, fin = .done (.ret v) ∧ Q (some v) s') (fun _ _ => False) s) :
    wpAny (model prog w) A (pyNext (.ref z)) Q E s := by
  obtain ⟨f0, f1, oz⟩ := oz
  have ty : s.TypeIs (.ref z) "zip" := ⟨_, oz, rfl⟩
  unfold pyNext
  refine wpAny_bind (wpAny_attempt (wpAny_callSpecial?_slot (name := Str.ofString "__next__") ty F.slot_zip_next (wpAny_call_entry F.slot_zip_next ty F.entry_zip_next ?_ (F.args_zip_next_1 _))))
  exact wpAny_mono h (fun fin s' ⟨v, e, x⟩ => ⟨v, e, wpAny_pure x⟩) (fun _ _ h => h.elim)
theorem nx_end {Q : Option Value → Shared → Prop} {P : Heap → Prop} (oz : ∃ f0 f1, Zo q s.heap z TI TO f0 f1)
    (h : wpAny (model prog w) A.in1 (Builtin.«zip.__next__» ⟨[.ref z], []⟩) (fun _ _ => False) (fun v s' => ∃ h' e, v = .ref e ∧ s' = { s with heap := h' } ∧ P h' ∧ ∃ o, h'.get? e = some o ∧ o.cls = .type "StopIteration") s)
    (k : ∀ h', P h' → Q none { s with heap := h' }) : wpAny (model prog w) A (pyNext (.ref z)) Q E s := by
  obtain ⟨f0, f1, oz⟩ := oz
  have ty : s.TypeIs (.ref z) "zip" := ⟨_, oz, rfl⟩
  unfold pyNext
  refine wpAny_bind (wpAny_attempt (wpAny_callSpecial?_slot (name := Str.ofString "__next__") ty F.slot_zip_next (wpAny_call_entry F.slot_zip_next ty F.entry_zip_next ?_ (F.args_zip_next_1 _))))
  refine wpAny_mono h (fun fin s' h => h.elim) ?_
  rintro v s' ⟨h', e, rfl, rfl, p, o, e1, e2⟩
  exact wpAny_bind (wpAny_isInstance (b := true) (T := "StopIteration") ⟨o, e1, e2⟩ isSubtype_stop (wpAny_pure (k h' p)))
end
end Zq
end
section
set_option maxHeartbeats 4000000
namespace Zq
open PySem
def itO (t : Bool) (l : Addr) : Obj := { cls := .type (if t = true then "tuple_iterator" else "list_iterator"), data := .fields #[.ref l, .int 0 0] }
section
variable {prog : Program} {w : World} {A : Around} {E : Value → Shared → Prop} {s : Shared}
theorem it_new {t : Bool} {l : Addr} {xs : Array Value} {Q : Value → Shared → Prop} (n : Sq t s.heap l xs) (k : Q (.ref s.heap.objs.size) { s with heap := s.heap.push (itO t l) }) : wpAny (model prog w) A (pyIter (.ref l)) Q E s := by
  cases t with
  | true => exact wpAny_pyIter_tuple n k
  | false => exact wpAny_pyIter_list n k
end
theorem itO_im {t : Bool} {h : Heap} {a l : Addr} (e : h.get? a = some (itO t l)) : Im t h a l 0 := by
  cases t with
  | true => exact ⟨_, e, rfl, rfl⟩
  | false => exact ⟨_, e, rfl, rfl⟩
abbrev zH2 (t1 t2 : Bool) (h : Heap) (l1 l2 : Addr) : Heap := (h.push (itO t1 l1)).push (itO t2 l2)
abbrev zH3 (t1 t2 : Bool) (h : Heap) (l1 l2 : Addr) : Heap := (zH2 t1 t2 h l1 l2).push { cls := .type "tuple", data := .seq #[.ref h.objs.size, .ref (h.push (itO t1 l1)).objs.size] }
abbrev zH4 (t1 t2 : Bool) (h : Heap) (l1 l2 : Addr) : Heap := (zH3 t1 t2 h l1 l2).push { cls := .type "tuple", data := .seq #[.none, .none] }
abbrev zH5 (q t1 t2 : Bool) (h : Heap) (l1 l2 : Addr) : Heap := (zH4 t1 t2 h l1 l2).push { cls := .type "zip", data := .fields #[.none, .bool false, .bool q, .ref (zH2 t1 t2 h l1 l2).objs.size, .ref (zH3 t1 t2 h l1 l2).objs.size] }
theorem zip_made (t1 t2 : Bool) (l1 l2 : Addr) (xs ys : Array Value) :
    Meets (Builtin.«zip.__new__» ⟨[.type "zip", .ref l1, .ref l2], []⟩) (fun _ R s => Sq t1 s.heap l1 xs ∧ Sq t2 s.heap l2 ys ∧ R (.ok (.ret (.ref (zH4 t1 t2 s.heap l1 l2).objs.size))) { s with heap := zH5 false t1 t2 s.heap l1 l2 }) :=
  .of_wp fun prog w A R s h => by
    obtain ⟨hp, g, d, tk, os⟩ := s
    obtain ⟨n1, n2, h⟩ := h
    have hsub := sub_zip
    have N1 : Sq t1 (Shared.heap ⟨hp, g, d, tk, os⟩) l1 xs := n1
    have N2 : Sq t2 (Shared.heap ⟨hp.push (itO t1 l1), g, d, tk, os⟩) l2 ys := n2.at fun o e => Heap.get?_push_of_some _ e
    wp_walk using it_new N1, it_new N2
    exact ⟨_, rfl, h⟩
section
variable {prog : Program} {w : World} {A : Around} {E : Value → Shared → Prop} {s : Shared}
/-- what a zip is, just made -/
theorem made_zip {q t1 t2 : Bool} {h : Heap} {l1 l2 : Addr} : Zo q (zH5 q t1 t2 h l1 l2) (h.objs.size + 4) (h.objs.size + 2) (h.objs.size + 3) .none false ∧ IsPair (zH5 q t1 t2 h l1 l2) (h.objs.size + 2) (.ref h.objs.size) (.ref (h.objs.size + 1)) ∧
    IsPair (zH5 q t1 t2 h l1 l2) (h.objs.size + 3) .none .none ∧ Im t1 (zH5 q t1 t2 h l1 l2) h.objs.size l1 0 ∧ Im t2 (zH5 q t1 t2 h l1 l2) (h.objs.size + 1) l2 0 ∧ (zH4 t1 t2 h l1 l2).objs.size = h.objs.size + 4 ∧
    ∀ c o, h.get? c = some o → (zH5 q t1 t2 h l1 l2).get? c = some o := by
  have z1 : (h.push (itO t1 l1)).objs.size = h.objs.size + 1 := Heap.size_push ..
  have z2 : (zH2 t1 t2 h l1 l2).objs.size = h.objs.size + 2 := by rw [Heap.size_push, z1]
  have z3 : (zH3 t1 t2 h l1 l2).objs.size = h.objs.size + 3 := by rw [Heap.size_push, z2]
  have z4 : (zH4 t1 t2 h l1 l2).objs.size = h.objs.size + 4 := by rw [Heap.size_push, z3]
  have a5 : (zH5 q t1 t2 h l1 l2).get? (zH4 t1 t2 h l1 l2).objs.size = some _ := Heap.get?_push_size _ rfl
  have a4 : (zH5 q t1 t2 h l1 l2).get? (zH3 t1 t2 h l1 l2).objs.size = some _ := Heap.get?_push_of_some _ (Heap.get?_push_size _ rfl)
  have a3 : (zH5 q t1 t2 h l1 l2).get? (zH2 t1 t2 h l1 l2).objs.size = some _ := Heap.get?_push_of_some _ (Heap.get?_push_of_some _ (Heap.get?_push_size _ rfl))
  have a2 : (zH5 q t1 t2 h l1 l2).get? (h.push (itO t1 l1)).objs.size = some (itO t2 l2) := Heap.get?_push_of_some _ (Heap.get?_push_of_some _ (Heap.get?_push_of_some _ (Heap.get?_push_size _ rfl)))
  have a1 : (zH5 q t1 t2 h l1 l2).get? h.objs.size = some (itO t1 l1) := Heap.get?_push_of_some _ (Heap.get?_push_of_some _ (Heap.get?_push_of_some _ (Heap.get?_push_of_some _ (Heap.get?_push_size _ rfl))))
  rw [z2, z3, z4] at a5
  rw [z1, z2] at a3
  rw [z3] at a4
  rw [z1] at a2
  exact ⟨a5, a3, a4, itO_im a1, itO_im a2, z4, fun c o e => Heap.get?_push_of_some _ (Heap.get?_push_of_some _ (Heap.get?_push_of_some _ (Heap.get?_push_of_some _ (Heap.get?_push_of_some _ e))))⟩
theorem call_zip {t1 t2 : Bool} {l1 l2 : Addr} {xs ys : Array Value} {Q : Value → Shared → Prop} (n1 : Sq t1 s.heap l1 xs) (n2 : Sq t2 s.heap l2 ys)
    (k : ∀ h', Zo false h' (s.heap.objs.size + 4) (s.heap.objs.size + 2) (s.heap.objs.size + 3) .none false → IsPair h' (s.heap.objs.size + 2) (.ref s.heap.objs.size) (.ref (s.heap.objs.size + 1)) → IsPair h' (s.heap.objs.size + 3) .none .none →
      Im t1 h' s.heap.objs.size l1 0 → Im t2 h' (s.heap.objs.size + 1) l2 0 → (∀ c o, s.heap.get? c = some o → h'.get? c = some o) → Q (.ref (s.heap.objs.size + 4)) { s with heap := h' }) :
    wpAny (model prog w) A (call (.type "zip") [.ref l1, .ref l2]) Q E s := by
  refine callType_new F.called_zip (by decide) (F.typeCall_zip_2 _ _) (F.newCall_zip_2 _ _) (fun obj => F.args_object_init_3 obj _ _) F.entry_zip_new (zip_made t1 t2 l1 l2 xs ys) ⟨n1, n2, ?_⟩
  obtain ⟨a1, a2, a3, a4, a5, a6, a7⟩ := made_zip (q := false) (t1 := t1) (t2 := t2) (h := s.heap) (l1 := l1) (l2 := l2)
  show _ ∧ _
  rw [a6]
  exact ⟨⟨_, a1, rfl⟩, k _ a1 a2 a3 a4 a5 a7⟩
end
end Zq
end
section
set_option maxHeartbeats 4000000
namespace Zq
open PySem
/-- a zip at its i-th turn, whatever became of its tuple -/
structure Zl (q t1 t2 : Bool) (z TI TO i1 i2 l1 l2 : Addr) (xs ys : Array Value) (i : Nat) (h : Heap) : Prop where
  pI : IsPair h TI (.ref i1) (.ref i2)
  m1 : Im t1 h i1 l1 i
  m2 : Im t2 h i2 l2 i
  n1 : Sq t1 h l1 xs
  n2 : Sq t2 h l2 ys
  st : (Zo q h z TI TO .none false ∧ ∃ a b, IsPair h TO a b) ∨ ∃ (T : Addr) (f : Bool) (oT : Obj), Zo q h z TI TO (rawInt T) f ∧ h.get? T = some oT ∧ T ≠ z ∧ T ≠ i1 ∧ T ≠ i2
section
variable {prog : Program} {w : World} {A : Around} {E : Value → Shared → Prop} {s : Shared} {q t1 t2 : Bool} {z TI TO i1 i2 l1 l2 S : Addr} {xs ys : Array Value} {x y : Value} {i : Nat}
theorem Zl.zo {h : Heap} (st : Zl q t1 t2 z TI TO i1 i2 l1 l2 xs ys i h) : ∃ f0 f1, Zo q h z TI TO f0 f1 := by
  rcases st.st with ⟨o, _⟩ | ⟨T, f, oT, o, _⟩
  · exact ⟨_, _, o⟩
  · exact ⟨_, _, o⟩
structure Off (S z TI TO i1 i2 l1 l2 : Addr) : Prop where
  z : z ≠ S
  TI : TI ≠ S
  TO : TO ≠ S
  i1 : i1 ≠ S
  i2 : i2 ≠ S
  l1 : l1 ≠ S
  l2 : l2 ≠ S
theorem Zl.frame {h h' : Heap} (f : Off S z TI TO i1 i2 l1 l2) (st : Zl q t1 t2 z TI TO i1 i2 l1 l2 xs ys i h) (e : ∀ b o, b ≠ S → h.get? b = some o → h'.get? b = some o) (eS : ∃ o, h'.get? S = some o) : Zl q t1 t2 z TI TO i1 i2 l1 l2 xs ys i h' := by
  refine ⟨e _ _ f.TI st.pI, st.m1.at fun o => e _ o f.i1, st.m2.at fun o => e _ o f.i2, st.n1.at fun o => e _ o f.l1, st.n2.at fun o => e _ o f.l2, ?_⟩
  rcases st.st with ⟨o, a, b, p⟩ | ⟨T, g, oT, o, p, r⟩
  · exact .inl ⟨e _ _ f.z o, a, b, e _ _ f.TO p⟩
  · by_cases hT : T = S
    · subst hT
      obtain ⟨o', ho'⟩ := eS
      exact .inr ⟨T, g, o', e _ _ f.z o, ho', r⟩
    · exact .inr ⟨T, g, oT, e _ _ f.z o, e _ _ hT p, r⟩
theorem zl_item {Q : Option Value → Shared → Prop} (D : ZipApart z TI TO i1 i2 l1 l2) (st : Zl q t1 t2 z TI TO i1 i2 l1 l2 xs ys i s.heap) (g1 : xs[i]? = some x) (g2 : ys[i]? = some y)
    (k : ∀ h', Zl q t1 t2 z TI TO i1 i2 l1 l2 xs ys (i + 1) h' → IsPair h' s.heap.objs.size x y → h'.objs.size = s.heap.objs.size + 1 → (∀ c o, c ≠ z → c ≠ TO → c ≠ i1 → c ≠ i2 → s.heap.get? c = some o → h'.get? c = some o) → Q (some (.ref s.heap.objs.size)) { s with heap := h' }) :
    wpAny (model prog w) A (pyNext (.ref z)) Q E s := by
  refine nx_item st.zo ?_
  obtain ⟨pI, m1, m2, n1, n2, st⟩ := st
  have lt : ∀ {c o}, s.heap.get? c = some o → s.heap.objs.size ≠ c := fun e => Nat.ne_of_gt (Heap.lt_size e)
  rcases st with ⟨o, a, b, p⟩ | ⟨T, g, oT, o, p, r1, r2, r3⟩
  · refine free_item D o pI p m1 m2 n1 n2 g1 g2 fun h' a1 a2 a3 a4 a5 a6 a7 => k h' ⟨a7 _ _ D.TIz D.TITO D.TIi1 D.TIi2 pI, a3, a4, n1.at fun o => a7 _ o D.l1z D.l1TO D.l1i1 D.l1i2, n2.at fun o => a7 _ o D.l2z D.l2TO D.l2i1 D.l2i2, .inr ⟨_, false, _, a1, a5, lt o, ?_, ?_⟩⟩ a5 a6 a7
    · exact Nat.ne_of_gt m1.lt
    · exact Nat.ne_of_gt m2.lt
  · exact held_item D o p pI m1 m2 n1 n2 g1 g2 fun h' a1 a3 a4 a5 a6 a7 => k h' ⟨a7 _ _ D.TIz D.TIi1 D.TIi2 pI, a3, a4, n1.at fun o => a7 _ o D.l1z D.l1i1 D.l1i2, n2.at fun o => a7 _ o D.l2z D.l2i1 D.l2i2, .inr ⟨T, true, oT, a1, a7 _ _ r1 r2 r3 p, r1, r2, r3⟩⟩ a5 a6 fun c o c1 _ c3 c4 e => a7 c o c1 c3 c4 e
theorem zl_end {Q : Option Value → Shared → Prop} (hh : A.handled = none) (D : ZipApart z TI TO i1 i2 l1 l2) (st : Zl q t1 t2 z TI TO i1 i2 l1 l2 xs ys i s.heap) (g : Ends q xs ys i i)
    (k : ∀ h', (∀ c o, c ≠ z → c ≠ TO → c ≠ i1 → c ≠ i2 → s.heap.get? c = some o → h'.get? c = some o) → Q none { s with heap := h' }) : wpAny (model prog w) A (pyNext (.ref z)) Q E s := by
  refine nx_end (P := fun h' => ∀ c o, c ≠ z → c ≠ TO → c ≠ i1 → c ≠ i2 → s.heap.get? c = some o → h'.get? c = some o) st.zo ?_ k
  obtain ⟨pI, m1, m2, n1, n2, st⟩ := st
  rcases st with ⟨o, a, b, p⟩ | ⟨T, f, oT, o, p, r1, r2, r3⟩
  · exact free_end (A := A.in1) hh D o pI p m1 m2 n1 n2 g fun h' e a1 a2 => ⟨h', e, rfl, rfl, a1, a2⟩
  · exact held_end (A := A.in1) hh D o p pI m1 m2 n1 n2 g fun h' e a1 a2 => ⟨h', e, rfl, rfl, fun c o c1 _ c3 c4 v => a1 c o c1 c3 c4 v, a2⟩
/-- the pairs made so far -/
structure Prs (xs ys : Array Value) (lo : Addr) (h : Heap) (as : List Addr) : Prop where
  rise : as.Pairwise (· < ·)
  above : ∀ a ∈ as, lo ≤ a
  at_ : ∀ (j : Nat) (a : Addr), as[j]? = some a → ∃ x y, xs[j]? = some x ∧ ys[j]? = some y ∧ IsPair h a x y
theorem Prs.there {lo : Addr} {h : Heap} {as : List Addr} (g : Prs xs ys lo h as) {a : Addr} (ha : a ∈ as) : a < h.objs.size := by
  obtain ⟨j, hj⟩ := List.mem_iff_getElem?.mp ha
  obtain ⟨_, _, _, _, e⟩ := g.at_ j a hj
  exact Heap.lt_size e
theorem far {lo a c : Addr} (h : lo ≤ a) (g : c < lo) : a ≠ c := Nat.ne_of_gt (Nat.lt_of_lt_of_le g h)
theorem zl_loop {R : Result → Shared → Prop} (hh : A.handled = none) (D : ZipApart z TI TO i1 i2 l1 l2) (f : Off S z TI TO i1 i2 l1 l2) (res : Value) {lo : Addr} {n : Nat} {h₁ : Heap} (hlo : S < lo) (hlz : z < lo) (hlT : TO < lo) (hl1 : i1 < lo) (hl2 : i2 < lo) (hn : n = min xs.size ys.size) (hq : q = true → xs.size = ys.size) (hz : n ≤ sizeLine)
    (hR : ∀ h' tk acc c as, (∀ b o, b ≠ S → b ≠ z → b ≠ TO → b ≠ i1 → b ≠ i2 → h₁.get? b = some o → h'.get? b = some o) → h'.get? S = some { cls := .type "list", dict := none, data := .seq acc c, slots := #[] } → as.length = n → Prs xs ys lo h' as → acc.toList = as.map Value.ref →
      R (.ok (.ret res)) { s with heap := h', toks := tk }) :
    ∀ (k i : Nat) (h : Heap) (tk c : Nat) (acc : Array Value) (as : List Addr), n - i = k → i ≤ n → Zl q t1 t2 z TI TO i1 i2 l1 l2 xs ys i h → (∀ b o, b ≠ S → b ≠ z → b ≠ TO → b ≠ i1 → b ≠ i2 → h₁.get? b = some o → h.get? b = some o) →
      h.get? S = some { cls := .type "list", dict := none, data := .seq acc c, slots := #[] } → acc.toList = as.map Value.ref → as.length = i → Prs xs ys lo h as → lo ≤ h.objs.size →
      codeAny (model prog w) A (.builtin "list.extend.loop" ⟨[.ref S, .ref z, res], []⟩) R { s with heap := h, toks := tk } := by
  intro k
  induction k with
  | zero =>
    intro i h tk c acc as hk hi st kp hS hacc hal g hlz'
    have hin : i = n := by omega
    have e1 : Ends q xs ys i i := by
      by_cases hq' : q = true
      · have := hq hq'
        exact .inr ⟨hq', Array.getElem?_eq_none (by omega), Array.getElem?_eq_none (by omega)⟩
      · refine .inl ⟨by simpa using hq', ?_⟩
        rcases Nat.le_total xs.size ys.size with c | c
        · exact .inl (Array.getElem?_eq_none (by omega))
        · exact .inr (Array.getElem?_eq_none (by omega))
    refine codeAny_builtin PySem.F.entry_extend_loop ?_
    rw [Around.under_plainId PySem.F.plain_extend_loop _]
    show wpAny _ A.in1 (do let v ← pyNext (.ref z); _) _ _ _
    refine wpAny_bind (zl_end (s := { s with heap := h, toks := tk }) (A := A.in1) hh D st e1 fun h' kk => ?_)
    refine wpAny_pure (hR h' tk acc c as (fun b o c0 c1 c2 c3 c4 v => kk b o c1 c2 c3 c4 (kp b o c0 c1 c2 c3 c4 v)) (kk S _ f.z.symm f.TO.symm f.i1.symm f.i2.symm hS) (by omega) ⟨g.rise, g.above, fun j a hj => ?_⟩ hacc)
    obtain ⟨x, y, p1, p2, p3⟩ := g.at_ j a hj
    have ha := g.above a (List.mem_of_getElem? hj)
    exact ⟨x, y, p1, p2, kk a _ (far ha hlz) (far ha hlT) (far ha hl1) (far ha hl2) p3⟩
  | succ k ih =>
    intro i h tk c acc as hk hi st kp hS hacc hal g hlz'
    have lt : i < n := by omega
    obtain ⟨x, gx⟩ : ∃ p, xs[i]? = some p := ⟨_, Array.getElem?_eq_getElem (show i < xs.size by omega)⟩
    obtain ⟨y, gy⟩ : ∃ p, ys[i]? = some p := ⟨_, Array.getElem?_eq_getElem (show i < ys.size by omega)⟩
    have za : acc.size = i := by rw [← Array.length_toList, hacc, List.length_map, hal]
    refine codeAny_builtin PySem.F.entry_extend_loop ?_
    rw [Around.under_plainId PySem.F.plain_extend_loop _]
    show wpAny _ A.in1 (do let v ← pyNext (.ref z); _) _ _ _
    refine wpAny_bind (zl_item (s := { s with heap := h, toks := tk }) D st gx gy fun h' st' nw z' kk => ?_)
    dsimp only at nw z' kk ⊢
    have hS' := kk S _ f.z.symm f.TO.symm f.i1.symm f.i2.symm hS
    have up : ∀ b o, b ≠ S → h'.get? b = some o → (h'.update S (Obj.mapSeq (·.push (Value.ref h.objs.size)))).get? b = some o := fun b o hb e => (Heap.get?_update_other _ _ (Ne.symm hb)).trans e
    have lS : S < h.objs.size := Heap.lt_size hS
    show wpAny _ A.in1 (do let v ← updateSeq S (·.push (Value.ref h.objs.size)); _) _ _ _
    refine wpAny_bind ?_
    have hS2 := Heap.get?_update_self (Obj.mapSeq (·.push (Value.ref h.objs.size))) hS' rfl
    have nw2 := up _ _ (Nat.ne_of_gt lS) nw
    refine wpAny_updateSeq hS' rfl (wpAny_pure ⟨plainId_quiet PySem.F.plain_extend_loop _, ih (i + 1) _ tk _ (acc.push (Value.ref h.objs.size)) (as ++ [h.objs.size]) (by omega) lt (st'.frame f up ⟨_, hS2⟩)
      (fun b o c0 c1 c2 c3 c4 v => up b o c0 (kk b o c1 c2 c3 c4 (kp b o c0 c1 c2 c3 c4 v))) hS2 (by rw [Array.toList_push, hacc, List.map_append]; rfl) (by rw [List.length_append, hal]; rfl) ⟨?_, ?_, ?_⟩ ?_⟩) (by rw [za]; omega) (by show (acc.push (Value.ref h.objs.size)).size ≤ sizeLine + 1; rw [Array.size_push]; omega)
    · refine List.pairwise_append.mpr ⟨g.rise, List.pairwise_singleton _ _, fun a ha b hb => ?_⟩
      rw [List.mem_singleton.mp hb]
      exact g.there ha
    · intro a ha
      rcases List.mem_append.mp ha with v | v
      · exact g.above a v
      · rw [List.mem_singleton.mp v]; exact hlz'
    · intro j b hj
      rcases Nat.lt_trichotomy j as.length with h1 | h1 | h1
      · rw [List.getElem?_append_left h1] at hj
        obtain ⟨x', y', p1, p2, p3⟩ := g.at_ j b hj
        have hb := g.above b (List.mem_of_getElem? hj)
        exact ⟨x', y', p1, p2, up b _ (far hb hlo) (kk b _ (far hb hlz) (far hb hlT) (far hb hl1) (far hb hl2) p3)⟩
      · subst h1
        have hb : h.objs.size = b := by simpa using hj
        subst hb
        exact ⟨x, y, by rw [hal]; exact gx, by rw [hal]; exact gy, nw2⟩
      · rw [List.getElem?_eq_none (by rw [List.length_append, List.length_singleton]; omega)] at hj; cases hj
    · exact Nat.le_of_lt (Nat.lt_of_le_of_lt hlz' (Heap.lt_size nw2))
end
end Zq
end
section
set_option maxHeartbeats 4000000
namespace Zq
open PySem
theorem zip_len0 : typeLookup (.type "zip") "__len__" = pure none := am_miss_of_fast (by first | decide +kernel | rfl)
theorem zip_hint0 : typeLookup (.type "zip") "__length_hint__" = pure none := am_miss_of_fast (by first | decide +kernel | rfl)
section
variable {prog : Program} {w : World} {A : Around} {E : Value → Shared → Prop} {s : Shared} {q t1 t2 : Bool} {z TI TO i1 i2 l1 l2 S : Addr} {xs ys : Array Value} {x y : Value} {i n : Nat}
theorem zip_hint {Q : Bool → Shared → Prop} (ty : s.TypeIs (.ref z) "zip") (k : Q true s) : wpAny (model prog w) A (Builtin.List.listLengthHint (.ref z)) Q E s := by
  unfold Builtin.List.listLengthHint
  refine wpAny_bind (wpAny_specialOf ty zip_len0 ?_)
  refine wpAny_ite_split (fun c => absurd c (by decide)) fun _ => ?_
  refine wpAny_ite_split (fun c => absurd c (by decide)) fun _ => ?_
  exact wpAny_bind (wpAny_specialOf ty zip_hint0 (wpAny_pure k))
theorem zip_self {Q : Value → Shared → Prop} (ty : s.TypeIs (.ref z) "zip") (k : Q (.ref z) s) : wpAny (model prog w) A (pyIter (.ref z)) Q E s := by
  refine wpAny_pyIter_slot ty F.slot_zip_iter (wpAny_call_entry F.slot_zip_iter ty F.entry_zip_iter ?_ (F.args_zip_iter_1 _))
  exact wpAny_pure ⟨_, rfl, "zip", _, ty, F.slot_zip_next.lookup, k⟩
theorem zl_extend {R : Result → Shared → Prop} (hh : A.handled = none) (D : ZipApart z TI TO i1 i2 l1 l2) (f : Off S z TI TO i1 i2 l1 l2) (st : Zl q t1 t2 z TI TO i1 i2 l1 l2 xs ys 0 s.heap) (hn : n = min xs.size ys.size) (hq : q = true → xs.size = ys.size) (hz : n ≤ sizeLine) (res : Value) (c₀ : Nat) (hTO : TO < s.heap.objs.size)
    (hS : s.heap.get? S = some { cls := .type "list", data := .seq #[] c₀ })
    (hR : ∀ h' tk acc c as, (∀ b o, b ≠ S → b ≠ z → b ≠ TO → b ≠ i1 → b ≠ i2 → s.heap.get? b = some o → h'.get? b = some o) → h'.get? S = some { cls := .type "list", dict := none, data := .seq acc c, slots := #[] } → as.length = n → Prs xs ys s.heap.objs.size h' as → acc.toList = as.map Value.ref →
      R (.ok (.ret res)) { s with heap := h', toks := tk }) :
    wpAny (model prog w) A.in1 (Builtin.List.listExtendWith (.ref S) (.ref z) res)
      (fun fin s' => match fin with | .done f => R (.ok f) s' | .again c' => c'.quiet = true ∧ codeAny (model prog w) A c' R s') (fun e s' => R (.error e) s') s := by
  obtain ⟨f0, f1, oz⟩ := st.zo
  have ty : s.TypeIs (.ref z) "zip" := ⟨_, oz, rfl⟩
  unfold Builtin.List.listExtendWith
  refine wpAny_bind (wpAny_typeOf ty ?_)
  have a1 : Builtin.List.listSameRef (.ref S) (.ref z) = false := by simp [Builtin.List.listSameRef, f.z.symm]
  have a2 : (Value.type "zip" == Value.type "list") = false := by decide
  have a3 : (Value.type "zip" == Value.type "tuple") = false := by decide
  simp only [a1, a2, a3, Bool.or_false, Bool.false_eq_true, if_false]
  refine wpAny_bind (zip_self ty ?_)
  refine wpAny_bind (wpAny_holding (zip_hint ty ?_))
  refine wpAny_ite_split (fun _ => ?_) fun c => absurd (by rfl) c
  refine wpAny_bind (wpAny_rule (wpAny_bind ?_))
  show wpAny _ _ (do updateSeq S (·.push .none); updateSeq S (·.pop)) _ _ _
  refine wpAny_bind (wpAny_updateSeq hS rfl ?_)
  have hS₂ := Heap.get?_update_self (Obj.mapSeq (·.push Value.none)) hS rfl
  refine wpAny_updateSeq (hz := by seq_fits) hS₂ rfl ?_
  have hS₃ := Heap.get?_update_self (Obj.mapSeq (·.pop)) hS₂ rfl
  have off : ∀ b o, b ≠ S → s.heap.get? b = some o → ((s.heap.update S (Obj.mapSeq (·.push Value.none))).update S (Obj.mapSeq (·.pop))).get? b = some o := fun b o hb e => (Heap.get?_update_other _ _ (Ne.symm hb)).trans ((Heap.get?_update_other _ _ (Ne.symm hb)).trans e)
  have lS : S < s.heap.objs.size := Heap.lt_size hS
  refine wpAny_pure ⟨plainId_quiet PySem.F.plain_extend_loop _, zl_loop (h₁ := s.heap) (lo := s.heap.objs.size) hh D f res lS (Heap.lt_size oz) hTO st.m1.lt st.m2.lt hn hq hz hR n 0 _ _ _ #[] [] (Nat.sub_zero _) (Nat.zero_le _) (st.frame f off ⟨_, hS₃⟩) (fun b o c0 _ _ _ _ e => off b o c0 e) hS₃ rfl rfl ⟨List.Pairwise.nil, (fun _ ha => nomatch ha), (fun j a hj => by simp at hj)⟩ ?_⟩
  rw [Heap.size_update, Heap.size_update]
  exact Nat.le_refl _
theorem zl_list {Q : Value → Shared → Prop} (hh : A.handled = none) (D : ZipApart z TI TO i1 i2 l1 l2) (st : Zl q t1 t2 z TI TO i1 i2 l1 l2 xs ys 0 s.heap) (hTO : TO < s.heap.objs.size) (hn : n = min xs.size ys.size) (hq : q = true → xs.size = ys.size) (hz : n ≤ sizeLine)
    (k : ∀ h' tk acc c as, (∀ b o, b ≠ z → b ≠ TO → b ≠ i1 → b ≠ i2 → s.heap.get? b = some o → h'.get? b = some o) → h'.get? s.heap.objs.size = some { cls := .type "list", dict := none, data := .seq acc c, slots := #[] } → as.length = n → Prs xs ys (s.heap.objs.size + 1) h' as → acc.toList = as.map Value.ref →
      Q (.ref s.heap.objs.size) { s with heap := h', toks := tk }) :
    wpAny (model prog w) A (call (.type "list") [.ref z]) Q E s := by
  refine callType_codes (Q₁ := fun obj s₁ => obj = .ref s.heap.objs.size ∧ s₁ = { s with heap := s.heap.push { cls := .type "list", data := .seq #[] } }) PySem.F.called_list (PySem.F.typeCall_list_1 _) PySem.F.entry_list_init (code_list_new _ ⟨rfl, rfl⟩) fun obj s₁ h₁ => ?_
  obtain ⟨rfl, rfl⟩ := h₁
  have hS : (s.heap.push { cls := .type "list", data := .seq #[] }).get? s.heap.objs.size = some { cls := .type "list", data := .seq #[] } := Heap.get?_push_size _ rfl
  obtain ⟨f0, f1, oz⟩ := st.zo
  refine ⟨⟨_, hS, rfl⟩, PySem.F.args_list_init_2 _ _, ?_⟩
  have up1 : ∀ b o, s.heap.get? b = some o → (s.heap.push { cls := .type "list", data := .seq #[] }).get? b = some o := fun b o e => Heap.get?_push_of_some _ e
  have ne : ∀ b o, s.heap.get? b = some o → b ≠ s.heap.objs.size := fun b o e => Nat.ne_of_lt (Heap.lt_size e)
  show wpAny _ _ (do let old ← Builtin.List.listItems (.ref s.heap.objs.size); Builtin.List.listUpdate (.ref s.heap.objs.size) (fun _ => #[]); letGo old.toList.reverse; Builtin.List.listExtendWith (.ref s.heap.objs.size) (.ref z) .none) _ _ _
  refine wpAny_bind ?_
  unfold Builtin.List.listItems
  refine wpAny_bind (wpAny_seqItems hS rfl (wpAny_pure ?_))
  show wpAny _ _ (do updateSeq s.heap.objs.size (fun _ => #[]); letGo (#[] : Array Value).toList.reverse; Builtin.List.listExtendWith (.ref s.heap.objs.size) (.ref z) .none) _ _ _
  refine wpAny_bind (wpAny_updateSeq hS rfl ?_)
  have hS₂ := Heap.get?_update_self (Obj.mapSeq (fun _ => (#[] : Array Value))) hS rfl
  have off : ∀ b o, b ≠ s.heap.objs.size → (s.heap.push { cls := .type "list", data := .seq #[] }).get? b = some o → ((s.heap.push { cls := .type "list", data := .seq #[] }).update s.heap.objs.size (Obj.mapSeq (fun _ => (#[] : Array Value)))).get? b = some o :=
    fun b o hb e => (Heap.get?_update_other _ _ (Ne.symm hb)).trans e
  refine wpAny_bind (wpAny_letGo ?_)
  have f : Off s.heap.objs.size z TI TO i1 i2 l1 l2 := ⟨ne _ _ oz, ne _ _ st.pI, Nat.ne_of_lt hTO, Nat.ne_of_lt st.m1.lt, Nat.ne_of_lt st.m2.lt, Nat.ne_of_lt st.n1.lt, Nat.ne_of_lt st.n2.lt⟩
  have z2 : ((s.heap.push { cls := .type "list", data := .seq #[] }).update s.heap.objs.size (Obj.mapSeq (fun _ => (#[] : Array Value)))).objs.size = s.heap.objs.size + 1 := by rw [Heap.size_update, Heap.size_push]
  refine zl_extend (A := A.in1) (n := n) (S := s.heap.objs.size) hh D f (st.frame f (fun b o hb e => off b o hb (up1 b o e)) ⟨_, hS₂⟩) hn hq hz .none _ (by show TO < _; rw [z2]; exact Nat.lt_succ_of_lt hTO) hS₂ fun h' tk acc c as a1 a2 a3 a4 a5 => ?_
  dsimp only at a1 a4
  rw [z2] at a4
  exact ⟨rfl, k h' tk acc c as (fun b o c1 c2 c3 c4 e => a1 b o (ne b o e) c1 c2 c3 c4 (off b o (ne b o e) (up1 b o e))) a2 a3 a4 a5⟩
end
end Zq
end
section
set_option maxHeartbeats 4000000
namespace L2
open PySem PySem.Spec PyProof.Rows
/-- a caught exception at a: its class, its dict -/
def exq (a : Addr) (cls : Value) (d : Option Addr) : HO := .ext fun h => ∃ (oe : Obj) (vs : Array Value), h.get? a = some oe ∧ Zc cls d oe ∧ oe.data = .fields vs
end L2
/-! Dv: plain data over the hand layer. D: a datum; frozen things (never changed again), owned lists and dicts of a frame's slots, an ambient object (a draw's state). -/
namespace Dv
open PySem PySem.Spec PyProof.Rows L2

/-- a datum -/
inductive D where
  | non | bl (b : Bool) | int (i : Int) | str (x : Str) | tup (x : Bool) (l : List D) | lst (l : List D) | dct (ks : List Key) (l : List D) | ob (n : Nat) | scr (ns : List Int) | dtt (ks : List (List Key)) (l : List D) | exc (c : Str) (ns : List Str) (l : List D)

/-- the ground: the written part, the ambient objects' places, what may be changed by them, how their state lies in the heap -/
structure Gd (Sg : Type) where
  K : PySem.W.Frag
  ad : Nat → Addr
  Z : Addr → Prop
  Amb : Sg → Hp → Prop
  frame : ∀ s H H', Amb s H → (∀ a, Z a → H' a = H a) → Amb s H'
  there : ∀ s H a, Amb s H → Z a → ∃ o, H a = some o
  cl : Str → Addr := fun _ => 0

/-- the script: a list that is never written -/
def Lk (K : PySem.W.Frag) (H : Hp) (a : Addr) (xs : List V) : Prop := (∃ o, H a = some (.frz o (.lst xs))) ∨
    ∃ (its : Array Value) (n : Nat), K.lookup a = some { cls := .type "list", data := .seq its n } ∧ its.size ≤ sizeLine ∧ Vals xs its.toList
theorem Lk.sq {K : PySem.W.Frag} {H : Hp} {a : Addr} {xs : List V} (h : Lk K H a xs) : SqL K H a xs := by
  rcases h with ⟨o, h⟩ | ⟨its, n, h, z, r⟩
  · exact .inl (.inr ⟨o, h⟩)
  · exact .inr ⟨_, its, n, h, rfl, rfl, rfl, z, r⟩

def LkZ (Z : Addr → Prop) (K : PySem.W.Frag) (H : Hp) (a : Addr) (xs : List V) : Prop := (∃ o, H a = some (.frz o (.lst xs)) ∧ ¬ Z a) ∨
    ∃ (its : Array Value) (n : Nat), K.lookup a = some { cls := .type "list", data := .seq its n } ∧ its.size ≤ sizeLine ∧ Vals xs its.toList
theorem LkZ.lk {Z : Addr → Prop} {K : PySem.W.Frag} {H : Hp} {a : Addr} {xs : List V} (h : LkZ Z K H a xs) : Lk K H a xs := by
  rcases h with ⟨o, h, _⟩ | h
  · exact .inl ⟨o, h⟩
  · exact .inr h
/-- a dict that stands still: frozen, or locked -/
def DkF (H : Hp) (F : Addr → Prop) (a : Addr) (kvs : List (Key × V)) : Prop := (H a = some (.dK kvs) ∧ F a) ∨ ∃ o, H a = some (.frz o (.dK kvs))
theorem DkF.rd {H : Hp} {F : Addr → Prop} {a : Addr} {kvs : List (Key × V)} (h : DkF H F a kvs) : Rd H a (.dK kvs) := by
  rcases h with ⟨h, _⟩ | h
  · exact .inl h
  · exact .inr h

def DtF (H : Hp) (F : Addr → Prop) (a : Addr) (kvs : List (List Key × V)) : Prop := H a = some (.dT kvs) ∧ F a
/-- at a there is nothing but the tuple -/
def ExT (K : PySem.W.Frag) (H : Hp) (a : Addr) : Prop := (∃ o u, H a = some (.frz o (.tup u)) ∧ o.dict = none) ∨ ∃ o, K.lookup a = some o ∧ o.dict = none
def SqF (x : Bool) (K : PySem.W.Frag) (H : Hp) (a : Addr) (vs : List V) : Prop := SqT K H a vs ∧ (x = true → ExT K H a) ∧ (x = false → H a = some (.tup vs))
theorem SqF.no {K : PySem.W.Frag} {H : Hp} {a : Addr} {vs : List V} (h : H a = some (.tup vs)) : SqF false K H a vs := ⟨.inl (.inl h), fun q => (nomatch q), fun _ => h⟩
/-- what a dict of an exception tells -/
def XdF {Sg : Type} (G : Gd Sg) (H : Hp) (od : Option Addr) (fv : List (Str × V)) : Prop := (od = none ∧ fv = []) ∨ ∃ dd, od = some dd ∧ H dd = some (.xd fv) ∧ ¬ G.Z dd
section
variable {Sg : Type} (G : Gd Sg) (H : Hp) (F : Addr → Prop)
mutual
/-- v is the datum d, all that is in it frozen -/
def Rp : D → V → Prop
  | .non, v => v = .non
  | .bl b, v => v = .bl b
  | .int i, v => v = .int i
  | .str x, v => v = .str x
  | .tup x l, v => ∃ a vs, v = .ref a ∧ SqF x G.K H a vs ∧ ¬ G.Z a ∧ Rps l vs
  | .lst l, v => ∃ a vs, v = .ref a ∧ H a = some (.lst vs) ∧ F a ∧ ¬ G.Z a ∧ Rps l vs
  | .dct ks l, v => ∃ a kvs, v = .ref a ∧ DkF H F a kvs ∧ ¬ G.Z a ∧ kvs.map (·.1) = ks ∧ Rps l (kvs.map (·.2))
  | .ob n, v => v = .ref (G.ad n)
  | .scr ns, v => ∃ a, v = .ref a ∧ LkZ G.Z G.K H a (ns.map V.int)
  | .dtt ks l, v => ∃ a kvs, v = .ref a ∧ DtF H F a kvs ∧ ¬ G.Z a ∧ kvs.map (·.1) = ks ∧ Rps l (kvs.map (·.2))
  | .exc c ns l, v => ∃ a od fv, v = .ref a ∧ H a = some (exq a (.ref (G.cl c)) od) ∧ ¬ G.Z a ∧ XdF G H od fv ∧ fv.map (·.1) = ns ∧ Rps l (fv.map (·.2))
def Rps : List D → List V → Prop
  | [], vs => vs = []
  | d :: l, vs => ∃ v r, vs = v :: r ∧ Rp d v ∧ Rps l r
end
end

mutual
/-- nothing that can be changed is in it -/
def pureD : D → Bool
  | .non => true | .bl _ => true | .int _ => true | .str _ => true
  | .tup _ l => puresD l
  | .lst _ => false | .dct _ _ => false | .ob _ => true | .scr _ => true | .dtt _ _ => false
  | .exc _ _ l => puresD l
def puresD : List D → Bool
  | [] => true
  | d :: l => pureD d && puresD l
end

/-- heaps: all that was tracked, but for the ambient objects, stands -/
def Fr (Z : Addr → Prop) (H H' : Hp) : Prop := ∀ a o, H a = some o → ¬ Z a → H' a = some o
theorem Fr.refl {Z : Addr → Prop} {H : Hp} : Fr Z H H := fun _ _ e _ => e
theorem Fr.trans {Z : Addr → Prop} {H H1 H2 : Hp} (h1 : Fr Z H H1) (h2 : Fr Z H1 H2) : Fr Z H H2 := fun a o e z => h2 a o (h1 a o e z) z
theorem Fr.upd {Z : Addr → Prop} {H : Hp} {p : Addr} {o : HO} (h : H p = none) : Fr Z H (upd H p o) := fun b x e _ => by
  rw [upd_ne (ne_of_none e h)]; exact e
theorem Fr.sqT {Z : Addr → Prop} {K : PySem.W.Frag} {H H' : Hp} {a : Addr} {xs : List V} (f : Fr Z H H') (z : ¬ Z a) (h : SqT K H a xs) : SqT K H' a xs := by
  rcases h with (h | ⟨o, h⟩) | h
  · exact .inl (.inl (f _ _ h z))
  · exact .inl (.inr ⟨o, f _ _ h z⟩)
  · exact .inr h
theorem Fr.exT {Z : Addr → Prop} {K : PySem.W.Frag} {H H' : Hp} {a : Addr} (f : Fr Z H H') (z : ¬ Z a) (h : ExT K H a) : ExT K H' a := by
  rcases h with ⟨o, u, h, d⟩ | h
  · exact .inl ⟨o, u, f _ _ h z, d⟩
  · exact .inr h
theorem Fr.sqL {Z : Addr → Prop} {K : PySem.W.Frag} {H H' : Hp} {a : Addr} {xs : List V} (f : Fr Z H H') (z : ¬ Z a) (h : SqL K H a xs) : SqL K H' a xs := by
  rcases h with (h | ⟨o, h⟩) | h
  · exact .inl (.inl (f _ _ h z))
  · exact .inl (.inr ⟨o, f _ _ h z⟩)
  · exact .inr h
theorem Fr.dkF {Z : Addr → Prop} {H H' : Hp} {F F' : Addr → Prop} {a : Addr} {kvs : List (Key × V)} (f : Fr Z H H') (g : ∀ a, F a → F' a) (z : ¬ Z a) (h : DkF H F a kvs) : DkF H' F' a kvs := by
  rcases h with ⟨h, hf⟩ | ⟨o, h⟩
  · exact .inl ⟨f _ _ h z, g _ hf⟩
  · exact .inr ⟨o, f _ _ h z⟩
theorem Fr.dtF {Z : Addr → Prop} {H H' : Hp} {F F' : Addr → Prop} {a : Addr} {kvs : List (List Key × V)} (f : Fr Z H H') (g : ∀ a, F a → F' a) (z : ¬ Z a) (h : DtF H F a kvs) : DtF H' F' a kvs := ⟨f _ _ h.1 z, g _ h.2⟩
theorem Fr.rd {Z : Addr → Prop} {H H' : Hp} {a : Addr} {u : HO} (f : Fr Z H H') (z : ¬ Z a) (h : Rd H a u) : Rd H' a u := by
  rcases h with h | ⟨o, h⟩
  · exact .inl (f _ _ h z)
  · exact .inr ⟨o, f _ _ h z⟩
theorem Fr.lk {Z : Addr → Prop} {K : PySem.W.Frag} {H H' : Hp} {a : Addr} {xs : List V} (f : Fr Z H H') (h : LkZ Z K H a xs) : LkZ Z K H' a xs := by
  rcases h with ⟨o, h, z⟩ | h
  · exact .inl ⟨o, f _ _ h z, z⟩
  · exact .inr h

section
variable {Sg : Type} {G : Gd Sg} {H H' : Hp} {F F' : Addr → Prop}
theorem XdF.to {od : Option Addr} {fv : List (Str × V)} (h : XdF G H od fv) (f : ∀ dd, H dd = some (.xd fv) → ¬ G.Z dd → H' dd = some (.xd fv)) : XdF G H' od fv := by
  rcases h with h | ⟨dd, e, s, z⟩
  · exact .inl h
  · exact .inr ⟨dd, e, f dd s z, z⟩
theorem XdF.fr {od : Option Addr} {fv : List (Str × V)} (h : XdF G H od fv) (f : Fr G.Z H H') : XdF G H' od fv := h.to fun dd s z => f _ _ s z
mutual
theorem Rp.fr (f : Fr G.Z H H') (g : ∀ a, F a → F' a) : ∀ {d : D} {v : V}, Rp G H F d v → Rp G H' F' d v
  | .non, _, h => h
  | .bl _, _, h => h
  | .int _, _, h => h
  | .str _, _, h => h
  | .tup x l, _, h => by
    obtain ⟨a, vs, e, s, z, r⟩ := h
    exact ⟨a, vs, e, ⟨f.sqT z s.1, fun q => f.exT z (s.2.1 q), fun q => f _ _ (s.2.2 q) z⟩, z, Rps.fr f g r⟩
  | .lst l, _, h => by
    obtain ⟨a, vs, e, s, hf, z, r⟩ := h
    exact ⟨a, vs, e, f _ _ s z, g _ hf, z, Rps.fr f g r⟩
  | .scr ns, _, h => by
    obtain ⟨a, e, s⟩ := h
    exact ⟨a, e, f.lk s⟩
  | .dct ks l, _, h => by
    obtain ⟨a, kvs, e, s, z, k, r⟩ := h
    exact ⟨a, kvs, e, f.dkF g z s, z, k, Rps.fr f g r⟩
  | .ob _, _, h => h
  | .dtt ks l, _, h => by
    obtain ⟨a, kvs, e, s, z, k, r⟩ := h
    exact ⟨a, kvs, e, f.dtF g z s, z, k, Rps.fr f g r⟩
  | .exc c ns l, _, h => by
    obtain ⟨a, dd, fv, e, s, z, s2, k, r⟩ := h
    exact ⟨a, dd, fv, e, f _ _ s z, z, s2.fr f, k, Rps.fr f g r⟩
theorem Rps.fr (f : Fr G.Z H H') (g : ∀ a, F a → F' a) : ∀ {l : List D} {vs : List V}, Rps G H F l vs → Rps G H' F' l vs
  | [], _, h => h
  | d :: l, _, h => by
    obtain ⟨v, r, e, h1, h2⟩ := h
    exact ⟨v, r, e, Rp.fr f g h1, Rps.fr f g h2⟩
end
mutual
/-- what is pure asks nothing of F -/
theorem Rp.pure : ∀ {d : D} {v : V}, pureD d = true → Rp G H F d v → Rp G H F' d v
  | .non, _, _, h => h
  | .bl _, _, _, h => h
  | .int _, _, _, h => h
  | .str _, _, _, h => h
  | .tup x l, _, p, h => by
    obtain ⟨a, vs, e, s, z, r⟩ := h
    exact ⟨a, vs, e, s, z, Rps.pure (l := l) p r⟩
  | .lst l, _, p, _ => nomatch p
  | .dct ks l, _, p, _ => nomatch p
  | .ob _, _, _, h => h
  | .scr _, _, _, h => h
  | .dtt ks l, _, p, _ => nomatch p
  | .exc c ns l, _, p, h => by
    obtain ⟨a, dd, fv, e, s, z, s2, k, r⟩ := h
    exact ⟨a, dd, fv, e, s, z, s2, k, Rps.pure (l := l) p r⟩
theorem Rps.pure : ∀ {l : List D} {vs : List V}, puresD l = true → Rps G H F l vs → Rps G H F' l vs
  | [], _, _, h => h
  | d :: l, _, p, h => by
    obtain ⟨v, r, e, h1, h2⟩ := h
    obtain ⟨p1, p2⟩ := Bool.and_eq_true_iff.mp (show (pureD d && puresD l) = true from p)
    exact ⟨v, r, e, Rp.pure p1 h1, Rps.pure p2 h2⟩
end
theorem Rps.length : ∀ {l : List D} {vs : List V}, Rps G H F l vs → vs.length = l.length
  | [], _, h => by rw [show _ = [] from h]; rfl
  | d :: l, _, h => by
    obtain ⟨v, r, e, _, h2⟩ := h
    subst e
    rw [List.length_cons, List.length_cons, Rps.length h2]
theorem Rps.get : ∀ {l : List D} {vs : List V} {i : Nat} {d : D}, Rps G H F l vs → l[i]? = some d → ∃ v, vs[i]? = some v ∧ Rp G H F d v
  | [], _, _, _, _, e => by simp at e
  | d :: l, _, 0, _, h, e => by
    obtain ⟨v, r, rfl, h1, _⟩ := h
    have e' : d = _ := Option.some.inj e
    subst e'
    exact ⟨v, rfl, h1⟩
  | d :: l, _, i + 1, _, h, e => by
    obtain ⟨v, r, rfl, _, h2⟩ := h
    obtain ⟨u, q1, q2⟩ := Rps.get (i := i) h2 (by simpa using e)
    exact ⟨u, by simpa using q1, q2⟩
theorem Rps.getV : ∀ {l : List D} {vs : List V} {i : Nat} {v : V}, Rps G H F l vs → vs[i]? = some v → ∃ d, l[i]? = some d ∧ Rp G H F d v
  | [], _, _, _, h, e => by
    have h' : _ = [] := h
    subst h'
    simp at e
  | d :: l, _, 0, _, h, e => by
    obtain ⟨v, r, rfl, h1, _⟩ := h
    have e' : v = _ := Option.some.inj e
    subst e'
    exact ⟨d, rfl, h1⟩
  | d :: l, _, i + 1, _, h, e => by
    obtain ⟨v, r, rfl, _, h2⟩ := h
    obtain ⟨u, q1, q2⟩ := Rps.getV (i := i) h2 (by simpa using e)
    exact ⟨u, by simpa using q1, q2⟩
theorem Rps.app : ∀ {l m : List D} {vs us : List V}, Rps G H F l vs → Rps G H F m us → Rps G H F (l ++ m) (vs ++ us)
  | [], _, _, _, h, h' => by
    have e : _ = [] := h
    subst e
    exact h'
  | d :: l, _, _, _, h, h' => by
    obtain ⟨v, r, rfl, h1, h2⟩ := h
    exact ⟨v, _, rfl, h1, Rps.app h2 h'⟩
theorem Rps.one {d : D} {v : V} (h : Rp G H F d v) : Rps G H F [d] [v] := ⟨v, [], rfl, h, rfl⟩
theorem Rps.take : ∀ {l : List D} {vs : List V} (n : Nat), Rps G H F l vs → Rps G H F (l.take n) (vs.take n)
  | _, _, 0, _ => rfl
  | [], _, n + 1, h => by
    have e : _ = [] := h
    subst e
    rfl
  | d :: l, _, n + 1, h => by
    obtain ⟨v, r, rfl, h1, h2⟩ := h
    exact ⟨v, _, rfl, h1, Rps.take n h2⟩
theorem Rps.drop : ∀ {l : List D} {vs : List V} (n : Nat), Rps G H F l vs → Rps G H F (l.drop n) (vs.drop n)
  | _, _, 0, h => h
  | [], _, n + 1, h => by
    have e : _ = [] := h
    subst e
    rfl
  | d :: l, _, n + 1, h => by
    obtain ⟨v, r, rfl, h1, h2⟩ := h
    exact Rps.drop n h2
theorem Rps.rev : ∀ {l : List D} {vs : List V}, Rps G H F l vs → Rps G H F l.reverse vs.reverse
  | [], _, h => by
    have e : _ = [] := h
    subst e
    rfl
  | d :: l, _, h => by
    obtain ⟨v, r, rfl, h1, h2⟩ := h
    rw [List.reverse_cons, List.reverse_cons]
    exact (Rps.rev h2).app (Rps.one h1)
end

/-- an owned list or dict at a: its items frozen -/
def Ow {Sg : Type} (G : Gd Sg) (H : Hp) (F : Addr → Prop) (a : Addr) : D → Prop
  | .lst l => ∃ vs, H a = some (.lst vs) ∧ Rps G H F l vs
  | .dct ks l => ∃ kvs, H a = some (.dK kvs) ∧ kvs.map (·.1) = ks ∧ Rps G H F l (kvs.map (·.2))
  | .dtt ks l => ∃ kvs, H a = some (.dT kvs) ∧ kvs.map (·.1) = ks ∧ Rps G H F l (kvs.map (·.2))
  | _ => False
/-- borrowed: read, no more -/
def Rb {Sg : Type} (G : Gd Sg) (H : Hp) (F : Addr → Prop) : D → V → Prop
  | .lst l, v => ∃ a vs, v = .ref a ∧ H a = some (.lst vs) ∧ ¬ G.Z a ∧ Rps G H F l vs
  | .dct ks l, v => ∃ a kvs, v = .ref a ∧ Rd H a (.dK kvs) ∧ ¬ G.Z a ∧ kvs.map (·.1) = ks ∧ Rps G H F l (kvs.map (·.2))
  | .dtt ks l, v => ∃ a kvs, v = .ref a ∧ H a = some (.dT kvs) ∧ ¬ G.Z a ∧ kvs.map (·.1) = ks ∧ Rps G H F l (kvs.map (·.2))
  | d, v => Rp G H F d v
section
variable {Sg : Type} {G : Gd Sg} {H H' : Hp} {F F' : Addr → Prop} {a : Addr} {d : D} {v : V}
theorem Rp.rb (h : Rp G H F d v) : Rb G H F d v := by
  cases d with
  | lst l =>
    obtain ⟨a, vs, e, s, _, z, r⟩ := h
    exact ⟨a, vs, e, s, z, r⟩
  | dct ks l =>
    obtain ⟨a, kvs, e, s, z, k, r⟩ := h
    exact ⟨a, kvs, e, s.rd, z, k, r⟩
  | dtt ks l =>
    obtain ⟨a, kvs, e, s, z, k, r⟩ := h
    exact ⟨a, kvs, e, s.1, z, k, r⟩
  | _ => exact h
theorem Ow.rb (h : Ow G H F a d) (z : ¬ G.Z a) : Rb G H F d (.ref a) := by
  cases d with
  | lst l =>
    obtain ⟨vs, s, r⟩ := h
    exact ⟨a, vs, rfl, s, z, r⟩
  | dct ks l =>
    obtain ⟨kvs, s, k, r⟩ := h
    exact ⟨a, kvs, rfl, .inl s, z, k, r⟩
  | dtt ks l =>
    obtain ⟨kvs, s, k, r⟩ := h
    exact ⟨a, kvs, rfl, s, z, k, r⟩
  | _ => exact (show False from h).elim
/-- an owned thing is frozen -/
theorem Ow.freeze (h : Ow G H F a d) (z : ¬ G.Z a) (g : ∀ b, F b → F' b) (fa : F' a) : Rp G H F' d (.ref a) := by
  cases d with
  | lst l =>
    obtain ⟨vs, s, r⟩ := h
    exact ⟨a, vs, rfl, s, fa, z, r.fr Fr.refl g⟩
  | dct ks l =>
    obtain ⟨kvs, s, k, r⟩ := h
    exact ⟨a, kvs, rfl, .inl ⟨s, fa⟩, z, k, r.fr Fr.refl g⟩
  | dtt ks l =>
    obtain ⟨kvs, s, k, r⟩ := h
    exact ⟨a, kvs, rfl, ⟨s, fa⟩, z, k, r.fr Fr.refl g⟩
  | _ => exact (show False from h).elim
theorem Ow.there (h : Ow G H F a d) : ∃ o, H a = some o := by
  cases d with
  | lst l =>
    obtain ⟨vs, s, _⟩ := h
    exact ⟨_, s⟩
  | dct ks l =>
    obtain ⟨kvs, s, _⟩ := h
    exact ⟨_, s⟩
  | dtt ks l =>
    obtain ⟨kvs, s, _⟩ := h
    exact ⟨_, s⟩
  | _ => exact (show False from h).elim
theorem Ow.fr (h : Ow G H F a d) (f : Fr G.Z H H') (g : ∀ b, F b → F' b) (z : ¬ G.Z a) : Ow G H' F' a d := by
  cases d with
  | lst l =>
    obtain ⟨vs, s, r⟩ := h
    exact ⟨vs, f _ _ s z, r.fr f g⟩
  | dct ks l =>
    obtain ⟨kvs, s, k, r⟩ := h
    exact ⟨kvs, f _ _ s z, k, r.fr f g⟩
  | dtt ks l =>
    obtain ⟨kvs, s, k, r⟩ := h
    exact ⟨kvs, f _ _ s z, k, r.fr f g⟩
  | _ => exact (show False from h).elim
theorem Rb.fr (h : Rb G H F d v) (f : Fr G.Z H H') (g : ∀ b, F b → F' b) : Rb G H' F' d v := by
  cases d with
  | lst l =>
    obtain ⟨a, vs, e, s, z, r⟩ := h
    exact ⟨a, vs, e, f _ _ s z, z, r.fr f g⟩
  | dct ks l =>
    obtain ⟨a, kvs, e, s, z, k, r⟩ := h
    exact ⟨a, kvs, e, f.rd z s, z, k, r.fr f g⟩
  | dtt ks l =>
    obtain ⟨a, kvs, e, s, z, k, r⟩ := h
    exact ⟨a, kvs, e, f _ _ s z, z, k, r.fr f g⟩
  | exc c ns l => exact Rp.fr f g (d := .exc c ns l) h
  | non => exact Rp.fr f g (d := .non) h
  | bl b => exact Rp.fr f g (d := .bl b) h
  | int i => exact Rp.fr f g (d := .int i) h
  | str x => exact Rp.fr f g (d := .str x) h
  | tup x l => exact Rp.fr f g (d := .tup x l) h
  | ob n => exact Rp.fr f g (d := .ob n) h
  | scr ns => exact Rp.fr f g (d := .scr ns) h
/-- a borrowed thing that is pure is the thing -/
theorem Rb.pure (h : Rb G H F d v) (p : pureD d = true) : Rp G H F' d v := by
  cases d with
  | lst l => cases p
  | dct ks l => cases p
  | dtt ks l => cases p
  | exc c ns l => exact Rp.pure p (F := F) h
  | non => exact Rp.pure p (F := F) h
  | bl b => exact Rp.pure p (F := F) h
  | int i => exact Rp.pure p (F := F) h
  | str x => exact Rp.pure p (F := F) h
  | tup x l => exact Rp.pure p (F := F) h
  | ob n => exact Rp.pure p (F := F) h
  | scr ns => exact Rp.pure p (F := F) h
end

/-! ### slots -/
inductive Sl where
  | non | im (d : D) | ow (d : D)
abbrev En := List Sl
def SlotOk {Sg : Type} (G : Gd Sg) (H : Hp) (F : Addr → Prop) (A : Option Addr) : Sl → Option V → Prop
  | .non, _ => A = none
  | .im d, w => A = none ∧ ∃ v, w = some v ∧ Rp G H F d v
  | .ow d, w => ∃ a, A = some a ∧ w = some (.ref a) ∧ Ow G H F a d
/-- the state of the ground -/
structure Gs {Sg : Type} (G : Gd Sg) (H : Hp) (F : Addr → Prop) (S : Sg) : Prop where
  trk : ∀ a, F a → ∃ o, H a = some o
  nZ : ∀ a, F a → ¬ G.Z a
  amb : G.Amb S H
theorem Gs.fresh {Sg : Type} {G : Gd Sg} {H : Hp} {F : Addr → Prop} {S : Sg} (g : Gs G H F S) {a : Addr} (h : H a = none) : ¬ F a ∧ ¬ G.Z a :=
  ⟨fun z => (by obtain ⟨o, e⟩ := g.trk a z; rw [h] at e; cases e), fun z => (by obtain ⟨o, e⟩ := G.there S H a g.amb z; rw [h] at e; cases e)⟩
/-- only new things -/
theorem Gs.ex {Sg : Type} {G : Gd Sg} {H H' : Hp} {F : Addr → Prop} {S : Sg} (g : Gs G H F S) (h : ∀ a o, H a = some o → H' a = some o) : Gs G H' F S :=
  ⟨fun a z => by obtain ⟨o, e⟩ := g.trk a z; exact ⟨o, h a o e⟩, g.nZ, G.frame S H H' g.amb fun a z => by obtain ⟨o, e⟩ := G.there S H a g.amb z; rw [e, h a o e]⟩
theorem Gs.more {Sg : Type} {G : Gd Sg} {H : Hp} {F : Addr → Prop} {S : Sg} (g : Gs G H F S) {b : Addr} {o : HO} (hb : H b = some o) (z : ¬ G.Z b) : Gs G H (fun a => F a ∨ a = b) S :=
  ⟨fun a q => by
    rcases q with q | rfl
    · exact g.trk a q
    · exact ⟨o, hb⟩, fun a q => by
    rcases q with q | rfl
    · exact g.nZ a q
    · exact z, g.amb⟩

structure Rel {Sg : Type} (G : Gd Sg) (H0 : Hp) (F0 : Addr → Prop) (ρ : En) (σ : L2.St) (H : Hp) (F : Addr → Prop) (As : Nat → Option Addr) (S : Sg) : Prop where
  gs : Gs G H F S
  len : ρ.length = σ.length
  slot : ∀ (i : Nat) (sl : Sl), ρ[i]? = some sl → ∃ w, σ[i]? = some w ∧ SlotOk G H F (As i) sl w
  none_ : ∀ i, ρ[i]? = none → As i = none
  inj : ∀ i j a, As i = some a → As j = some a → i = j
  nF : ∀ i a, As i = some a → ¬ F a ∧ ¬ G.Z a
  new : ∀ i a, As i = some a → H0 a = none
  base : Fr G.Z H0 H
  bF : ∀ a, F0 a → F a

/-- what an expression comes to -/
inductive Rv where
  | im (d : D) | nw (d : D) | br (d : D)
def Rv.d : Rv → D
  | .im d => d | .nw d => d | .br d => d
/-- Hs, Ass: the heap and what was owned ahead of the expression -/
def RepR {Sg : Type} (G : Gd Sg) (H0 Hs : Hp) (Ass : Nat → Option Addr) (H : Hp) (F : Addr → Prop) (As : Nat → Option Addr) : Rv → V → Prop
  | .im d, v => Rp G H F d v
  | .nw d, v => ∃ a, v = .ref a ∧ Ow G H F a d ∧ ¬ F a ∧ ¬ G.Z a ∧ (∀ i, As i ≠ some a) ∧ H0 a = none ∧ (Hs a = none ∨ ∃ j, Ass j = some a)
  | .br d, v => Rb G H F d v
theorem RepR.rb {Sg : Type} {G : Gd Sg} {H0 Hs H : Hp} {F : Addr → Prop} {Ass As : Nat → Option Addr} {r : Rv} {v : V} (h : RepR G H0 Hs Ass H F As r v) : Rb G H F r.d v := by
  cases r with
  | im d => exact Rp.rb h
  | nw d =>
    obtain ⟨a, rfl, o, _, z, _⟩ := h
    exact o.rb z
  | br d => exact h

section
variable {Sg : Type} {G : Gd Sg} {H0 H H' : Hp} {F0 F F' : Addr → Prop} {ρ : En} {σ : L2.St} {As : Nat → Option Addr} {S : Sg}
theorem SlotOk.fr {A : Option Addr} {sl : Sl} {w : Option V} (h : SlotOk G H F A sl w) (f : Fr G.Z H H') (g : ∀ b, F b → F' b) (z : ∀ a, A = some a → ¬ G.Z a) : SlotOk G H' F' A sl w := by
  cases sl with
  | non => exact h
  | im d =>
    obtain ⟨e, v, e2, r⟩ := h
    exact ⟨e, v, e2, r.fr f g⟩
  | ow d =>
    obtain ⟨a, e, e2, r⟩ := h
    exact ⟨a, e, e2, r.fr f g (z a e)⟩
/-- new things, or what the ground changed -/
theorem Rel.fr {S' : Sg} (R : Rel G H0 F0 ρ σ H F As S) (f : Fr G.Z H H') (g : ∀ b, F b → F' b) (gs : Gs G H' F' S') (nf : ∀ i a, As i = some a → ¬ F' a) : Rel G H0 F0 ρ σ H' F' As S' :=
  ⟨gs, R.len, fun i sl e => by
    obtain ⟨w, e2, h⟩ := R.slot i sl e
    exact ⟨w, e2, h.fr f g fun a q => (R.nF i a q).2⟩, R.none_, R.inj, fun i a q => ⟨nf i a q, (R.nF i a q).2⟩, R.new, R.base.trans f, fun a q => g a (R.bF a q)⟩
theorem Rel.ex (R : Rel G H0 F0 ρ σ H F As S) (h : ∀ a o, H a = some o → H' a = some o) : Rel G H0 F0 ρ σ H' F As S :=
  R.fr (fun a o e _ => h a o e) (fun _ q => q) (R.gs.ex h) fun i a q => (R.nF i a q).1
theorem Rel.there (R : Rel G H0 F0 ρ σ H F As S) {i : Nat} {a : Addr} (e : As i = some a) : ∃ o, H a = some o := by
  cases q : ρ[i]? with
  | none => rw [R.none_ i q] at e; cases e
  | some sl =>
    obtain ⟨w, _, h⟩ := R.slot i sl q
    cases sl with
    | non => rw [show As i = none from h] at e; cases e
    | im d => rw [h.1] at e; cases e
    | ow d =>
      obtain ⟨b, e1, _, o⟩ := h
      rw [e] at e1; cases e1
      exact o.there
theorem Rel.nnew (R : Rel G H0 F0 ρ σ H F As S) {p : Addr} (h : H p = none) : ∀ i, As i ≠ some p := fun i e => by
  obtain ⟨o, q⟩ := R.there e
  rw [h] at q; cases q
theorem Rel.old (R : Rel G H0 F0 ρ σ H F As S) {p : Addr} (h : H p = none) : H0 p = none := by
  cases q : H0 p with
  | none => rfl
  | some o =>
    have z := R.base p o q (fun z => by obtain ⟨o', e'⟩ := G.there S H p R.gs.amb z; rw [h] at e'; cases e')
    rw [h] at z; cases z
end
end Dv
end
section
set_option maxHeartbeats 4000000
namespace Dv
open PySem PySem.Spec PyProof.Rows L2
variable {Sg : Type}
abbrev SE (Sg : Type) := En → Sg → Option (Rv × En × Sg)
abbrev ST (Sg : Type) := En → Sg → Option (Bool × En × Sg)
abbrev SA (Sg : Type) := En → Sg → Option (List D × En × Sg)
inductive Ct where
  | nx | rt (r : Rv) | bk | ct
abbrev SS (Sg : Type) := En → Sg → Option (Ct × En × Sg)

def Rbs (G : Gd Sg) (H : Hp) (F : Addr → Prop) : List D → List V → Prop
  | [], vs => vs = []
  | d :: l, vs => ∃ v r, vs = v :: r ∧ Rb G H F d v ∧ Rbs G H F l r
theorem Rbs.fr {G : Gd Sg} {H H' : Hp} {F F' : Addr → Prop} (f : Fr G.Z H H') (g : ∀ b, F b → F' b) : ∀ {l : List D} {vs : List V}, Rbs G H F l vs → Rbs G H' F' l vs
  | [], _, h => h
  | d :: l, _, h => by
    obtain ⟨v, r, e, h1, h2⟩ := h
    exact ⟨v, r, e, h1.fr f g, Rbs.fr f g h2⟩
theorem Rps.rbs {G : Gd Sg} {H : Hp} {F : Addr → Prop} : ∀ {l : List D} {vs : List V}, Rps G H F l vs → Rbs G H F l vs
  | [], _, h => h
  | d :: l, _, h => by
    obtain ⟨v, r, e, h1, h2⟩ := h
    exact ⟨v, r, e, h1.rb, Rps.rbs h2⟩

/-- F' and As' come of F and As by a step of an expression -/
structure Stp (G : Gd Sg) (H H' : Hp) (F F' : Addr → Prop) (As As' : Nat → Option Addr) : Prop where
  fr : Fr G.Z H H'
  fF : ∀ a, F a → F' a
  gF : ∀ a, F' a → ¬ G.Z a → F a ∨ H a = none ∨ ∃ j, As j = some a
  as : ∀ i a, As' i = some a → As i = some a
theorem Stp.refl {G : Gd Sg} {H : Hp} {F : Addr → Prop} {As : Nat → Option Addr} : Stp G H H F F As As := ⟨Fr.refl, fun _ q => q, fun _ q _ => .inl q, fun _ _ q => q⟩
theorem Stp.ext {G : Gd Sg} {H H' : Hp} {F : Addr → Prop} {As : Nat → Option Addr} (x : ∀ a o, H a = some o → H' a = some o) : Stp G H H' F F As As := ⟨fun a o e _ => x a o e, fun _ q => q, fun _ q _ => .inl q, fun _ _ q => q⟩
theorem Stp.trans {G : Gd Sg} {H H1 H2 : Hp} {F F1 F2 : Addr → Prop} {As A1 A2 : Nat → Option Addr} (a : Stp G H H1 F F1 As A1) (b : Stp G H1 H2 F1 F2 A1 A2) : Stp G H H2 F F2 As A2 :=
  ⟨a.fr.trans b.fr, fun x q => b.fF x (a.fF x q), fun x q z => by
    rcases b.gF x q z with h | h | ⟨j, h⟩
    · exact a.gF x h z
    · cases e : H x with
      | none => exact .inr (.inl rfl)
      | some o => rw [a.fr x o e z] at h; cases h
    · exact .inr (.inr ⟨j, a.as j x h⟩), fun i x q => a.as i x (b.as i x q)⟩
theorem Stp.frz {G : Gd Sg} {H H1 : Hp} {F F1 F2 : Addr → Prop} {As A1 : Nat → Option Addr} (a : Stp G H H1 F F1 As A1) (g : ∀ x, F1 x → F2 x) (h : ∀ x, F2 x → F1 x ∨ H x = none ∨ ∃ j, As j = some x) : Stp G H H1 F F2 As A1 :=
  ⟨a.fr, fun x q => g x (a.fF x q), fun x q z => by
    rcases h x q with q | q
    · exact a.gF x q z
    · exact .inr q, a.as⟩

section
variable (G : Gd Sg)
def tE (f : SE Sg) : TE := fun σ H Q => ∃ H0 F0 ρ F As S r ρ' S', Rel G H0 F0 ρ σ H F As S ∧ f ρ S = some (r, ρ', S') ∧
  ∀ v H' F' As', Stp G H H' F F' As As' → Rel G H0 F0 ρ' σ H' F' As' S' → RepR G H0 H As H' F' As' r v → Q v H'
def tT (f : ST Sg) : TT := fun σ H Q => ∃ H0 F0 ρ F As S b ρ' S', Rel G H0 F0 ρ σ H F As S ∧ f ρ S = some (b, ρ', S') ∧
  ∀ H' F' As', Stp G H H' F F' As As' → Rel G H0 F0 ρ' σ H' F' As' S' → Q b H'
/-- arguments, all frozen; all borrowed -/
def tAF (f : SA Sg) : TA := fun σ H Q => ∃ H0 F0 ρ F As S ds ρ' S', Rel G H0 F0 ρ σ H F As S ∧ f ρ S = some (ds, ρ', S') ∧
  ∀ vs H' F' As', Stp G H H' F F' As As' → Rel G H0 F0 ρ' σ H' F' As' S' → Rps G H' F' ds vs → Q vs H'
def tAB (f : SA Sg) : TA := fun σ H Q => ∃ H0 F0 ρ F As S ds ρ' S', Rel G H0 F0 ρ σ H F As S ∧ f ρ S = some (ds, ρ', S') ∧
  ∀ vs H' F' As', Stp G H H' F F' As As' → Rel G H0 F0 ρ' σ H' F' As' S' → Rbs G H' F' ds vs → Q vs H'
end

section
variable {X : Cx} {G : Gd Sg} {e a b c : Expr} {pos : Pos}
theorem RepR.back {H0 H H1 H' : Hp} {F F1 F' : Addr → Prop} {As A1 A' : Nat → Option Addr} {r : Rv} {v : V} (p : Stp G H H1 F F1 As A1) (h : RepR G H0 H1 A1 H' F' A' r v) : RepR G H0 H As H' F' A' r v := by
  cases r with
  | im d => exact h
  | nw d =>
    obtain ⟨a, e, o, nf, z, na, n0, q⟩ := h
    refine ⟨a, e, o, nf, z, na, n0, ?_⟩
    rcases q with q | ⟨j, q⟩
    · cases e2 : H a with
      | none => exact .inl rfl
      | some x => rw [p.fr a x e2 z] at q; cases q
    · exact .inr ⟨j, p.as j a q⟩
  | br d => exact h
theorem PE.mono' {t t' : TE} (h : PE X e t) (i : ∀ σ H Q, t' σ H Q → t σ H Q) : PE X e t' := ⟨fun pins s σ H Q I q => h.run pins s σ H Q I (i _ _ _ q)⟩
theorem PT.mono' {t t' : TT} (h : PT X e t) (i : ∀ σ H Q, t' σ H Q → t σ H Q) : PT X e t' := ⟨fun pins s σ H Q I q => h.run pins s σ H Q I (i _ _ _ q)⟩
theorem PW.mono' {t t' : TT} (h : PW X e t) (i : ∀ σ H Q, t' σ H Q → t σ H Q) : PW X e t' := ⟨fun wh pins s σ H Q I q => h.run wh pins s σ H Q I (i _ _ _ q)⟩
theorem PA.mono' {es : List Expr} {t t' : TA} (h : PA X es t) (i : ∀ σ H Q, t' σ H Q → t σ H Q) : PA X es t' := ⟨fun p pins s σ H Q I q => h.run p pins s σ H Q I (i _ _ _ q)⟩
theorem PS.mono' {st : Stmt} {t t' : TS} (h : PS X st t) (i : ∀ D σ H, t' D σ H → t D σ H) : PS X st t' := ⟨fun pins s σ H D I q => h.run pins s σ H D I (i _ _ _ q)⟩
theorem PSs.mono' {st : List Stmt} {t t' : TS} (h : PSs X st t) (i : ∀ D σ H, t' D σ H → t D σ H) : PSs X st t' := ⟨fun pins s σ H D I q => h.run pins s σ H D I (i _ _ _ q)⟩

/-! ### constants, names -/
def eC (d : D) : SE Sg := fun ρ S => some (.im d, ρ, S)
theorem tC_of {d : D} {v : V} (hv : ∀ H F, Rp G H F d v) : ∀ σ H Q, tE G (eC d) σ H Q → tC v σ H Q := by
  rintro σ H Q ⟨H0, F0, ρ, F, As, S, r, ρ', S', R, e, k⟩
  cases e
  exact k v H F As Stp.refl R (hv H F)
theorem pd_int {i : Int} {j} : PE X (.Constant (.int i) j pos) (tE G (eC (.int i))) := PE.mono' pe_int (tC_of fun _ _ => rfl)
theorem pd_str {x : Str} {j} : PE X (.Constant (.str x) j pos) (tE G (eC (.str x))) := PE.mono' pe_str (tC_of fun _ _ => rfl)
theorem pd_bl {b : Bool} {j} : PE X (.Constant (.bool b) j pos) (tE G (eC (.bl b))) := PE.mono' pe_bl (tC_of fun _ _ => rfl)
theorem pd_non {j} : PE X (.Constant .none j pos) (tE G (eC .non)) := PE.mono' pe_non (tC_of fun _ _ => rfl)
theorem pd_glob {x : Str} {v : V} {u : Value} {d : D} (hg : Gl X x) (hm : X.mg x = some u) (r : RelV v u) (hv : ∀ H F, Rp G H F d v) (hd : (x == ("__debug__" : Str)) = false := by decide) : PE X (.Name x pos) (tE G (eC d)) :=
  PE.mono' (pe_glob hg hm r hd) (tC_of hv)

/-- a slot read: what is owned is frozen by it -/
def eVar (i : Nat) : SE Sg := fun ρ S => match ρ[i]? with
  | some (.im d) => some (.im d, ρ, S)
  | some (.ow d) => some (.im d, ρ.set i (.im d), S)
  | _ => none
/-- a slot borrowed -/
def eBr (i : Nat) : SE Sg := fun ρ S => match ρ[i]? with
  | some (.im d) => some (.im d, ρ, S)
  | some (.ow d) => some (.br d, ρ, S)
  | _ => none
theorem Rel.freeze {H0 H : Hp} {F0 F : Addr → Prop} {ρ : En} {σ : L2.St} {As : Nat → Option Addr} {S : Sg} {i : Nat} {d : D} {a : Addr} (R : Rel G H0 F0 ρ σ H F As S) (hi : ρ[i]? = some (.ow d)) (ea : As i = some a) :
    Rel G H0 F0 (ρ.set i (.im d)) σ H (fun b => F b ∨ b = a) (fun j => if j = i then none else As j) S := by
  obtain ⟨o, ho⟩ := R.there ea
  have za := (R.nF i a ea).2
  have gs := R.gs.more ho za
  have li : i < ρ.length := (List.getElem?_eq_some_iff.mp hi).1
  refine ⟨gs, by rw [List.length_set]; exact R.len, fun j sl e => ?_, fun j e => ?_, fun j k b e1 e2 => ?_, fun j b e => ?_, fun j b e => ?_, R.base, fun b q => .inl (R.bF b q)⟩
  · by_cases hj : j = i
    · subst hj
      rw [List.getElem?_set_self li] at e
      cases e
      obtain ⟨w, e2, b, e3, e4, ow⟩ := R.slot j _ hi
      rw [ea] at e3; cases e3
      exact ⟨w, e2, if_pos rfl, .ref a, e4, ow.freeze za (fun b q => .inl q) (.inr rfl)⟩
    · rw [List.getElem?_set_ne (Ne.symm hj)] at e
      obtain ⟨w, e2, h⟩ := R.slot j sl e
      rw [if_neg hj]
      exact ⟨w, e2, h.fr Fr.refl (fun b q => .inl q) fun b q => (R.nF j b q).2⟩
  · by_cases hj : j = i
    · exact if_pos hj
    · rw [if_neg hj]
      rw [List.getElem?_set_ne (Ne.symm hj)] at e
      exact R.none_ j e
  · by_cases hj : j = i
    · rw [if_pos hj] at e1; cases e1
    · by_cases hk : k = i
      · rw [if_pos hk] at e2; cases e2
      · rw [if_neg hj] at e1; rw [if_neg hk] at e2
        exact R.inj j k b e1 e2
  · by_cases hj : j = i
    · rw [if_pos hj] at e; cases e
    · rw [if_neg hj] at e
      refine ⟨fun q => ?_, (R.nF j b e).2⟩
      rcases q with q | q
      · exact (R.nF j b e).1 q
      · subst q
        exact hj (R.inj j i b e ea)
  · by_cases hj : j = i
    · rw [if_pos hj] at e; cases e
    · rw [if_neg hj] at e
      exact R.new j b e
theorem pd_var {i : Nat} {x : Str} (hN : X.N[i]? = some x) (hv : Vis X.env.scope x) (hd : (x == ("__debug__" : Str)) = false := by decide) (hcd : (x == ("__classdict__" : Str)) = false := by decide) : PE X (.Name x pos) (tE G (eVar i)) := by
  refine PE.mono' (pe_var hN hv hd hcd) ?_
  rintro σ H Q ⟨H0, F0, ρ, F, As, S, r, ρ', S', R, e, k⟩
  unfold eVar at e
  cases q : ρ[i]? with
  | none => rw [q] at e; cases e
  | some sl =>
    rw [q] at e
    cases sl with
    | non => cases e
    | im d =>
      cases e
      obtain ⟨w, e2, ea, v, e3, h⟩ := R.slot i _ q
      subst e3
      exact ⟨v, e2, k v H F As Stp.refl R h⟩
    | ow d =>
      cases e
      obtain ⟨w, e2, a, ea, e3, ow⟩ := R.slot i _ q
      subst e3
      refine ⟨.ref a, e2, k (.ref a) H (fun b => F b ∨ b = a) (fun j => if j = i then none else As j) ⟨Fr.refl, fun b q => .inl q, fun b q _ => q.elim .inl (fun z => .inr (.inr ⟨i, z ▸ ea⟩)), fun j b q => ?_⟩ (R.freeze q ea) (ow.freeze (R.nF i a ea).2 (fun b q => .inl q) (.inr rfl))⟩
      by_cases hj : j = i
      · rw [if_pos hj] at q; cases q
      · rw [if_neg hj] at q; exact q
theorem pd_br {i : Nat} {x : Str} (hN : X.N[i]? = some x) (hv : Vis X.env.scope x) (hd : (x == ("__debug__" : Str)) = false := by decide) (hcd : (x == ("__classdict__" : Str)) = false := by decide) : PE X (.Name x pos) (tE G (eBr i)) := by
  refine PE.mono' (pe_var hN hv hd hcd) ?_
  rintro σ H Q ⟨H0, F0, ρ, F, As, S, r, ρ', S', R, e, k⟩
  unfold eBr at e
  cases q : ρ[i]? with
  | none => rw [q] at e; cases e
  | some sl =>
    rw [q] at e
    cases sl with
    | non => cases e
    | im d =>
      cases e
      obtain ⟨w, e2, ea, v, e3, h⟩ := R.slot i _ q
      subst e3
      exact ⟨v, e2, k v H F As Stp.refl R h⟩
    | ow d =>
      cases e
      obtain ⟨w, e2, a, ea, e3, ow⟩ := R.slot i _ q
      subst e3
      exact ⟨.ref a, e2, k (.ref a) H F As Stp.refl R (ow.rb (R.nF i a ea).2)⟩

/-! ### what an operation on data gives -/
/-- the new value behind an operation that only makes new things -/
def ResN (G : Gd Sg) (H H' : Hp) (F : Addr → Prop) : Rv → V → Prop
  | .im d, v => Rp G H' F d v
  | .nw d, v => ∃ a, v = .ref a ∧ H a = none ∧ Ow G H' F a d
  | .br _, _ => False
theorem ResN.rep {H0 H H' : Hp} {F0 F : Addr → Prop} {ρ : En} {σ : L2.St} {As : Nat → Option Addr} {S : Sg} {r : Rv} {v : V} (R : Rel G H0 F0 ρ σ H F As S) (h : ResN G H H' F r v) : RepR G H0 H As H' F As r v := by
  cases r with
  | im d => exact h
  | nw d =>
    obtain ⟨a, rfl, n, o⟩ := h
    have z := R.gs.fresh n
    exact ⟨a, rfl, o, z.1, z.2, R.nnew n, R.old n, .inl n⟩
  | br d => exact h.elim
def Ext (H H' : Hp) : Prop := ∀ a o, H a = some o → H' a = some o
theorem Ext.refl {H : Hp} : Ext H H := fun _ _ e => e
theorem Ext.upd {H : Hp} {p : Addr} {o : HO} (h : H p = none) : Ext H (upd H p o) := fun b x e => by
  rw [upd_ne (ne_of_none e h)]; exact e
theorem Ext.trans {H H1 H2 : Hp} (a : Ext H H1) (b : Ext H1 H2) : Ext H H2 := fun x o e => b x o (a x o e)
/-- the continuation of such an operation -/
def KN (G : Gd Sg) (H : Hp) (F : Addr → Prop) (r : Rv) (Q : VK) : Prop := ∀ v H', Ext H H' → ResN G H H' F r v → Q v H'
def Op2 (G : Gd Sg) (r : R2) (op : D → D → Option Rv) : Prop := ∀ (x y : V) (d e : D) (H : Hp) (F : Addr → Prop) (S : Sg) (res : Rv) (Q : VK), Gs G H F S → Rb G H F d x → Rb G H F e y → op d e = some res → KN G H F res Q → r x y H Q
def Op1 (G : Gd Sg) (r : V → Hp → VK → Prop) (op : D → Option Rv) : Prop := ∀ (x : V) (d : D) (H : Hp) (F : Addr → Prop) (S : Sg) (res : Rv) (Q : VK), Gs G H F S → Rb G H F d x → op d = some res → KN G H F res Q → r x H Q
def OpN (G : Gd Sg) (r : List V → Hp → VK → Prop) (op : List D → Option Rv) : Prop := ∀ (xs : List V) (ds : List D) (H : Hp) (F : Addr → Prop) (S : Sg) (res : Rv) (Q : VK), Gs G H F S → Rbs G H F ds xs → op ds = some res → KN G H F res Q → r xs H Q

def eOp1 (op : D → Option Rv) (f : SE Sg) : SE Sg := fun ρ S => (f ρ S).bind fun p => (op p.1.d).bind fun r => some (r, p.2.1, p.2.2)
def eOp2 (op : D → D → Option Rv) (f g : SE Sg) : SE Sg := fun ρ S => (f ρ S).bind fun p => (g p.2.1 p.2.2).bind fun q => (op p.1.d q.1.d).bind fun r => some (r, q.2.1, q.2.2)
def eOpN (op : List D → Option Rv) (f : SA Sg) : SE Sg := fun ρ S => (f ρ S).bind fun p => (op p.1).bind fun r => some (r, p.2.1, p.2.2)

theorem Rel.kn {H0 H : Hp} {F0 F : Addr → Prop} {ρ : En} {σ : L2.St} {As : Nat → Option Addr} {S : Sg} {r : Rv} {Q : VK} (R : Rel G H0 F0 ρ σ H F As S)
    (k : ∀ v H' F' As', Stp G H H' F F' As As' → Rel G H0 F0 ρ σ H' F' As' S → RepR G H0 H As H' F' As' r v → Q v H') : KN G H F r Q := fun v H' x h =>
  k v H' F As (Stp.ext x) (R.ex x) (h.rep R)
theorem op2_le {r : R2} {op : D → D → Option Rv} {f g : SE Sg} (ho : Op2 G r op) : ∀ σ H Q, tE G (eOp2 op f g) σ H Q → tOp r (tE G f) (tE G g) σ H Q := by
  rintro σ H Q ⟨H0, F0, ρ, F, As, S, rr, ρ', S', R, e, k⟩
  obtain ⟨⟨r1, ρ1, S1⟩, e1, e⟩ := Option.bind_eq_some_iff.mp e
  obtain ⟨⟨r2, ρ2, S2⟩, e2, e⟩ := Option.bind_eq_some_iff.mp e
  obtain ⟨r3, e3, e⟩ := Option.bind_eq_some_iff.mp e
  cases e
  refine ⟨H0, F0, ρ, F, As, S, r1, ρ1, S1, R, e1, fun v1 H1 F1 A1 p1 R1 h1 => ?_⟩
  refine ⟨H0, F0, ρ1, F1, A1, S1, r2, ρ2, S2, R1, e2, fun v2 H2 F2 A2 p2 R2 h2 => ?_⟩
  exact ho v1 v2 _ _ H2 F2 S2 _ Q R2.gs (h1.rb.fr p2.fr p2.fF) h2.rb e3 (R2.kn fun v H' F' A' p R' h => k v H' F' A' ((p1.trans p2).trans p) R' (h.back (p1.trans p2)))
theorem op1_le {r : V → Hp → VK → Prop} {op : D → Option Rv} {f : SE Sg} (ho : Op1 G r op) : ∀ σ H Q, tE G (eOp1 op f) σ H Q → tUn r (tE G f) σ H Q := by
  rintro σ H Q ⟨H0, F0, ρ, F, As, S, rr, ρ', S', R, e, k⟩
  obtain ⟨⟨r1, ρ1, S1⟩, e1, e⟩ := Option.bind_eq_some_iff.mp e
  obtain ⟨r3, e3, e⟩ := Option.bind_eq_some_iff.mp e
  cases e
  refine ⟨H0, F0, ρ, F, As, S, r1, ρ1, S1, R, e1, fun v1 H1 F1 A1 p1 R1 h1 => ?_⟩
  exact ho v1 _ H1 F1 S1 _ Q R1.gs h1.rb e3 (R1.kn fun v H' F' A' p R' h => k v H' F' A' (p1.trans p) R' (h.back p1))
theorem opN_le {r : List V → Hp → VK → Prop} {op : List D → Option Rv} {f : SA Sg} (ho : OpN G r op) : ∀ σ H Q, tE G (eOpN op f) σ H Q → tCB r (tAB G f) σ H Q := by
  rintro σ H Q ⟨H0, F0, ρ, F, As, S, rr, ρ', S', R, e, k⟩
  obtain ⟨⟨r1, ρ1, S1⟩, e1, e⟩ := Option.bind_eq_some_iff.mp e
  obtain ⟨r3, e3, e⟩ := Option.bind_eq_some_iff.mp e
  cases e
  refine ⟨H0, F0, ρ, F, As, S, r1, ρ1, S1, R, e1, fun v1 H1 F1 A1 p1 R1 h1 => ?_⟩
  exact ho v1 _ H1 F1 S1 _ Q R1.gs h1 e3 (R1.kn fun v H' F' A' p R' h => k v H' F' A' (p1.trans p) R' (h.back p1))
theorem pd_op {op : Operator} {r : R2} {sem : D → D → Option Rv} {f g : SE Sg} (hr : OpR X (binaryOp op) r) (ho : Op2 G r sem) (ha : PE X a (tE G f)) (hb : PE X b (tE G g)) : PE X (.BinOp a op b pos) (tE G (eOp2 sem f g)) :=
  PE.mono' (pe_op hr ha hb) (op2_le ho)
theorem pd_cmp {op : CmpOp} {r : R2} {sem : D → D → Option Rv} {f g : SE Sg} (hr : OpR X (compareOp op) r) (ho : Op2 G r sem) (ha : PE X a (tE G f)) (hb : PE X b (tE G g)) (hm : behindInMarks op b = false) : PE X (.Compare a [op] [b] pos) (tE G (eOp2 sem f g)) :=
  PE.mono' (pe_cmpR hr ha hb hm) (op2_le ho)
theorem pd_un {op : UnaryOp} {r : V → Hp → VK → Prop} {sem : D → Option Rv} {f : SE Sg} (hr : UnR X (unaryOp op) r) (ho : Op1 G r sem) (ha : PE X a (tE G f)) : PE X (.UnaryOp op a pos) (tE G (eOp1 sem f)) :=
  PE.mono' (pe_un hr ha) (op1_le ho)

/-! ### argument lists -/
def aNil : SA Sg := fun ρ S => some ([], ρ, S)
def aB (f : SE Sg) (g : SA Sg) : SA Sg := fun ρ S => (f ρ S).bind fun p => (g p.2.1 p.2.2).bind fun q => some (p.1.d :: q.1, q.2.1, q.2.2)
def frz : Rv → Option D
  | .im d => some d
  | .nw d => some d
  | .br d => if pureD d = true then some d else none
def aF (f : SE Sg) (g : SA Sg) : SA Sg := fun ρ S => (f ρ S).bind fun p => (frz p.1).bind fun d => (g p.2.1 p.2.2).bind fun q => some (d :: q.1, q.2.1, q.2.2)
theorem pb_nil : PA X [] (tAB G aNil) := by
  refine PA.mono' pa_nil ?_
  rintro σ H Q ⟨H0, F0, ρ, F, As, S, r, ρ', S', R, e, k⟩
  cases e
  exact k [] H F As Stp.refl R rfl
theorem pf_nil : PA X [] (tAF G aNil) := by
  refine PA.mono' pa_nil ?_
  rintro σ H Q ⟨H0, F0, ρ, F, As, S, r, ρ', S', R, e, k⟩
  cases e
  exact k [] H F As Stp.refl R rfl
theorem pb_cons {es : List Expr} {f : SE Sg} {g : SA Sg} (ha : PE X e (tE G f)) (hr : PA X es (tAB G g)) (hs : starEach (e :: es) X.env = (false, eval e X.env) :: starEach es X.env := by rfl) : PA X (e :: es) (tAB G (aB f g)) := by
  refine PA.mono' (pa_cons ha hr hs) ?_
  rintro σ H Q ⟨H0, F0, ρ, F, As, S, r, ρ', S', R, e, k⟩
  obtain ⟨⟨r1, ρ1, S1⟩, e1, e⟩ := Option.bind_eq_some_iff.mp e
  obtain ⟨⟨ds, ρ2, S2⟩, e2, e⟩ := Option.bind_eq_some_iff.mp e
  cases e
  refine ⟨H0, F0, ρ, F, As, S, r1, ρ1, S1, R, e1, fun v1 H1 F1 A1 p1 R1 h1 => ?_⟩
  refine ⟨H0, F0, ρ1, F1, A1, S1, ds, ρ2, S2, R1, e2, fun vs H2 F2 A2 p2 R2 h2 => ?_⟩
  exact k _ H2 F2 A2 (p1.trans p2) R2 ⟨v1, vs, rfl, h1.rb.fr p2.fr p2.fF, h2⟩
/-- what comes is frozen -/
theorem Rel.frz {H0 H : Hp} {F0 F : Addr → Prop} {ρ : En} {σ : L2.St} {As : Nat → Option Addr} {S : Sg} {r : Rv} {v : V} {d : D} (R : Rel G H0 F0 ρ σ H F As S) {Hs : Hp} {Ass : Nat → Option Addr} (h : RepR G H0 Hs Ass H F As r v) (e : frz r = some d) :
    ∃ F', (∀ a, F a → F' a) ∧ (∀ a, F' a → F a ∨ Hs a = none ∨ ∃ j, Ass j = some a) ∧ Rel G H0 F0 ρ σ H F' As S ∧ Rp G H F' d v := by
  cases r with
  | im d' => cases e; exact ⟨F, fun _ q => q, fun _ q => .inl q, R, h⟩
  | nw d' =>
    cases e
    obtain ⟨a, rfl, ow, nf, nz, na, _, hfr⟩ := h
    obtain ⟨o, ho⟩ := ow.there
    refine ⟨fun b => F b ∨ b = a, fun b q => .inl q, fun b q => q.elim .inl (fun z => .inr (z ▸ hfr)), R.fr Fr.refl (fun b q => .inl q) (R.gs.more ho nz) (fun i b q z => ?_), ow.freeze nz (fun b q => .inl q) (.inr rfl)⟩
    rcases z with z | z
    · exact (R.nF i b q).1 z
    · subst z; exact na i q
  | br d' =>
    have e : (if pureD d' = true then some d' else none) = some d := e
    by_cases p : pureD d' = true
    · rw [if_pos p] at e; cases e
      exact ⟨F, fun _ q => q, fun _ q => .inl q, R, Rb.pure h p⟩
    · rw [if_neg p] at e; cases e
theorem pf_cons {es : List Expr} {f : SE Sg} {g : SA Sg} (ha : PE X e (tE G f)) (hr : PA X es (tAF G g)) (hs : starEach (e :: es) X.env = (false, eval e X.env) :: starEach es X.env := by rfl) : PA X (e :: es) (tAF G (aF f g)) := by
  refine PA.mono' (pa_cons ha hr hs) ?_
  rintro σ H Q ⟨H0, F0, ρ, F, As, S, r, ρ', S', R, e, k⟩
  obtain ⟨⟨r1, ρ1, S1⟩, e1, e⟩ := Option.bind_eq_some_iff.mp e
  obtain ⟨d, ed, e⟩ := Option.bind_eq_some_iff.mp e
  obtain ⟨⟨ds, ρ2, S2⟩, e2, e⟩ := Option.bind_eq_some_iff.mp e
  cases e
  refine ⟨H0, F0, ρ, F, As, S, r1, ρ1, S1, R, e1, fun v1 H1 F1 A1 p1 R1 h1 => ?_⟩
  obtain ⟨F1', g1, gg1, R1', h1'⟩ := R1.frz h1 ed
  refine ⟨H0, F0, ρ1, F1', A1, S1, ds, ρ2, S2, R1', e2, fun vs H2 F2 A2 p2 R2 h2 => ?_⟩
  exact k _ H2 F2 A2 ((p1.frz g1 gg1).trans p2) R2 ⟨v1, vs, rfl, h1'.fr p2.fr p2.fF, h2⟩
/-- a tuple, a list of written items -/
def eTup (f : SA Sg) : SE Sg := fun ρ S => (f ρ S).bind fun p => if p.1.length ≤ sizeLine then some (.im (.tup false p.1), p.2.1, p.2.2) else none
def eLst (f : SA Sg) : SE Sg := fun ρ S => (f ρ S).bind fun p => if p.1.length ≤ sizeLine then some (.nw (.lst p.1), p.2.1, p.2.2) else none
theorem pd_tup {es : List Expr} {x1} {f : SA Sg} (h : PA X es (tAF G f)) : PE X (.Tuple es x1 pos) (tE G (eTup f)) := by
  refine PE.mono' (pe_tup h) ?_
  rintro σ H Q ⟨H0, F0, ρ, F, As, S, r, ρ', S', R, e, k⟩
  obtain ⟨⟨ds, ρ1, S1⟩, e1, e⟩ := Option.bind_eq_some_iff.mp e
  by_cases hz : ds.length ≤ sizeLine
  · rw [if_pos hz] at e; cases e
    refine ⟨H0, F0, ρ, F, As, S, ds, ρ1, S1, R, e1, fun vs H1 F1 A1 p1 R1 h1 => ⟨by rw [h1.length]; exact hz, fun p hp => ?_⟩⟩
    have x := Ext.upd (o := .tup vs) hp
    exact k _ _ F1 A1 (p1.trans (Stp.ext x)) (R1.ex x) ⟨p, vs, rfl, .no upd_same, (R1.gs.fresh hp).2, h1.fr (Fr.upd hp) fun _ q => q⟩
  · rw [if_neg hz] at e; cases e
theorem pd_lst {es : List Expr} {f : SA Sg} (h : PA X es (tAF G f)) : PE X (.List es pos) (tE G (eLst f)) := by
  refine PE.mono' (pe_lst h) ?_
  rintro σ H Q ⟨H0, F0, ρ, F, As, S, r, ρ', S', R, e, k⟩
  obtain ⟨⟨ds, ρ1, S1⟩, e1, e⟩ := Option.bind_eq_some_iff.mp e
  by_cases hz : ds.length ≤ sizeLine
  · rw [if_pos hz] at e; cases e
    refine ⟨H0, F0, ρ, F, As, S, ds, ρ1, S1, R, e1, fun vs H1 F1 A1 p1 R1 h1 => ⟨by rw [h1.length]; exact hz, fun p hp => ?_⟩⟩
    have x := Ext.upd (o := .lst vs) hp
    have fz := R1.gs.fresh hp
    exact k _ _ F1 A1 (p1.trans (Stp.ext x)) (R1.ex x) (RepR.back p1 ⟨p, rfl, ⟨vs, upd_same, h1.fr (Fr.upd hp) fun _ q => q⟩, fz.1, fz.2, R1.nnew hp, R1.old hp, .inl hp⟩)
  · rw [if_neg hz] at e; cases e

/-! ### tests -/
def tst (f : SE Sg) : ST Sg := fun ρ S => (f ρ S).bind fun p => match p.1.d with
  | .bl b => some (b, p.2.1, p.2.2)
  | _ => none
theorem tst_le {f : SE Sg} : ∀ σ H Q, tT G (tst f) σ H Q → tTest (tE G f) σ H Q := by
  rintro σ H Q ⟨H0, F0, ρ, F, As, S, b, ρ', S', R, e, k⟩
  obtain ⟨⟨r1, ρ1, S1⟩, e1, e⟩ := Option.bind_eq_some_iff.mp e
  refine ⟨H0, F0, ρ, F, As, S, r1, ρ1, S1, R, e1, fun v1 H1 F1 A1 p1 R1 h1 => ?_⟩
  have hb := h1.rb
  dsimp only at e
  cases q : r1.d with
  | bl c =>
    rw [q] at e hb
    cases e
    exact ⟨b, hb, k H1 F1 A1 p1 R1⟩
  | _ => rw [q] at e; cases e
theorem td_cmp {op : CmpOp} {r : R2} {sem : D → D → Option Rv} {f g : SE Sg} (hr : OpR X (compareOp op) r) (ho : Op2 G r sem) (ha : PE X a (tE G f)) (hb : PE X b (tE G g)) (hm : behindInMarks op b = false) : PT X (.Compare a [op] [b] pos) (tT G (tst (eOp2 sem f g))) :=
  PT.mono' (pt_cmpR hr ha hb hm) fun σ H Q h => by
    have h2 := tst_le σ H Q h
    exact op2_le ho σ H _ h2
theorem td_val {f : SE Sg} (h : PE X e (tE G f)) (he : ∀ whole, isTrue e X.env whole = (do let v ← whole; standAt e.pos; holding [v] (truthy v)) := by intro _; rfl) : PT X e (tT G (tst f)) :=
  PT.mono' (pt_val h he) fun σ H Q h => tst_le σ H Q h
def tAnd' (f g : ST Sg) : ST Sg := fun ρ S => (f ρ S).bind fun p => if p.1 = true then g p.2.1 p.2.2 else some (false, p.2.1, p.2.2)
def tOr' (f g : ST Sg) : ST Sg := fun ρ S => (f ρ S).bind fun p => if p.1 = true then some (true, p.2.1, p.2.2) else g p.2.1 p.2.2
def tNot' (f : ST Sg) : ST Sg := fun ρ S => (f ρ S).bind fun p => some (!p.1, p.2.1, p.2.2)
theorem td_and1 {f : ST Sg} (ha : PT X a (tT G f)) : PW X (.BoolOp .And [a] pos) (tT G f) := pw_and1 ha
theorem td_or1 {f : ST Sg} (ha : PT X a (tT G f)) : PW X (.BoolOp .Or [a] pos) (tT G f) := pw_or1 ha
theorem td_and {rest : List Expr} {f g : ST Sg} (ha : PT X a (tT G f)) (hb : PW X (.BoolOp .And (b :: rest) pos) (tT G g)) : PW X (.BoolOp .And (a :: b :: rest) pos) (tT G (tAnd' f g)) := by
  refine PW.mono' (pw_and ha hb) ?_
  rintro σ H Q ⟨H0, F0, ρ, F, As, S, b, ρ', S', R, e, k⟩
  obtain ⟨⟨r1, ρ1, S1⟩, e1, e⟩ := Option.bind_eq_some_iff.mp e
  refine ⟨H0, F0, ρ, F, As, S, r1, ρ1, S1, R, e1, fun H1 F1 A1 p1 R1 => ?_⟩
  cases r1 with
  | true =>
    rw [if_pos rfl] at e ⊢
    exact ⟨H0, F0, ρ1, F1, A1, S1, b, ρ', S', R1, e, fun H2 F2 A2 p2 R2 => k H2 F2 A2 (p1.trans p2) R2⟩
  | false =>
    rw [if_neg Bool.false_ne_true] at e ⊢
    cases e
    exact k H1 F1 A1 p1 R1
theorem td_or {rest : List Expr} {f g : ST Sg} (ha : PT X a (tT G f)) (hb : PW X (.BoolOp .Or (b :: rest) pos) (tT G g)) : PW X (.BoolOp .Or (a :: b :: rest) pos) (tT G (tOr' f g)) := by
  refine PW.mono' (pw_or ha hb) ?_
  rintro σ H Q ⟨H0, F0, ρ, F, As, S, b, ρ', S', R, e, k⟩
  obtain ⟨⟨r1, ρ1, S1⟩, e1, e⟩ := Option.bind_eq_some_iff.mp e
  refine ⟨H0, F0, ρ, F, As, S, r1, ρ1, S1, R, e1, fun H1 F1 A1 p1 R1 => ?_⟩
  cases r1 with
  | true =>
    rw [if_pos rfl] at e ⊢
    cases e
    exact k H1 F1 A1 p1 R1
  | false =>
    rw [if_neg Bool.false_ne_true] at e ⊢
    exact ⟨H0, F0, ρ1, F1, A1, S1, b, ρ', S', R1, e, fun H2 F2 A2 p2 R2 => k H2 F2 A2 (p1.trans p2) R2⟩
theorem td_not {f : ST Sg} (ha : PT X a (tT G f)) : PT X (.UnaryOp .Not a pos) (tT G (tNot' f)) := by
  refine PT.mono' (pt_not ha) ?_
  rintro σ H Q ⟨H0, F0, ρ, F, As, S, b, ρ', S', R, e, k⟩
  obtain ⟨⟨r1, ρ1, S1⟩, e1, e⟩ := Option.bind_eq_some_iff.mp e
  cases e
  exact ⟨H0, F0, ρ, F, As, S, r1, ρ1, S1, R, e1, k⟩
/-! .. as values -/
def eAnd (f g : SE Sg) : SE Sg := fun ρ S => (f ρ S).bind fun p => match p.1.d with
  | .bl true => g p.2.1 p.2.2
  | .bl false => some (.im (.bl false), p.2.1, p.2.2)
  | _ => none
def eOr (f g : SE Sg) : SE Sg := fun ρ S => (f ρ S).bind fun p => match p.1.d with
  | .bl true => some (.im (.bl true), p.2.1, p.2.2)
  | .bl false => g p.2.1 p.2.2
  | _ => none
def eNot (f : SE Sg) : SE Sg := fun ρ S => (f ρ S).bind fun p => match p.1.d with
  | .bl c => some (.im (.bl (!c)), p.2.1, p.2.2)
  | _ => none
theorem pd_one {op} {f : SE Sg} (h : PE X a (tE G f)) : PE X (.BoolOp op [a] pos) (tE G f) := pe_one h
theorem pd_and {rest : List Expr} {f g : SE Sg} (ha : PE X a (tE G f)) (hb : PE X (.BoolOp .And (b :: rest) pos) (tE G g)) : PE X (.BoolOp .And (a :: b :: rest) pos) (tE G (eAnd f g)) := by
  refine PE.mono' (pe_and ha hb) ?_
  rintro σ H Q ⟨H0, F0, ρ, F, As, S, r, ρ', S', R, e, k⟩
  obtain ⟨⟨r1, ρ1, S1⟩, e1, e⟩ := Option.bind_eq_some_iff.mp e
  refine ⟨H0, F0, ρ, F, As, S, r1, ρ1, S1, R, e1, fun v1 H1 F1 A1 p1 R1 h1 => ?_⟩
  have hb := h1.rb
  dsimp only at e
  cases q : r1.d with
  | bl c =>
    rw [q] at e hb
    refine ⟨c, hb, ?_⟩
    cases c with
    | true =>
      rw [if_pos rfl]
      exact ⟨H0, F0, ρ1, F1, A1, S1, r, ρ', S', R1, e, fun v2 H2 F2 A2 p2 R2 h2 => k v2 H2 F2 A2 (p1.trans p2) R2 (h2.back p1)⟩
    | false =>
      rw [if_neg Bool.false_ne_true]
      cases e
      exact k _ H1 F1 A1 p1 R1 rfl
  | _ => rw [q] at e; cases e
theorem pd_or {rest : List Expr} {f g : SE Sg} (ha : PE X a (tE G f)) (hb : PE X (.BoolOp .Or (b :: rest) pos) (tE G g)) : PE X (.BoolOp .Or (a :: b :: rest) pos) (tE G (eOr f g)) := by
  refine PE.mono' (pe_or ha hb) ?_
  rintro σ H Q ⟨H0, F0, ρ, F, As, S, r, ρ', S', R, e, k⟩
  obtain ⟨⟨r1, ρ1, S1⟩, e1, e⟩ := Option.bind_eq_some_iff.mp e
  refine ⟨H0, F0, ρ, F, As, S, r1, ρ1, S1, R, e1, fun v1 H1 F1 A1 p1 R1 h1 => ?_⟩
  have hb := h1.rb
  dsimp only at e
  cases q : r1.d with
  | bl c =>
    rw [q] at e hb
    refine ⟨c, hb, ?_⟩
    cases c with
    | true =>
      rw [if_pos rfl]
      cases e
      exact k _ H1 F1 A1 p1 R1 rfl
    | false =>
      rw [if_neg Bool.false_ne_true]
      exact ⟨H0, F0, ρ1, F1, A1, S1, r, ρ', S', R1, e, fun v2 H2 F2 A2 p2 R2 h2 => k v2 H2 F2 A2 (p1.trans p2) R2 (h2.back p1)⟩
  | _ => rw [q] at e; cases e
theorem pd_not {f : SE Sg} (ha : PE X a (tE G f)) : PE X (.UnaryOp .Not a pos) (tE G (eNot f)) := by
  refine PE.mono' (pe_not ha) ?_
  rintro σ H Q ⟨H0, F0, ρ, F, As, S, r, ρ', S', R, e, k⟩
  obtain ⟨⟨r1, ρ1, S1⟩, e1, e⟩ := Option.bind_eq_some_iff.mp e
  refine ⟨H0, F0, ρ, F, As, S, r1, ρ1, S1, R, e1, fun v1 H1 F1 A1 p1 R1 h1 => ?_⟩
  have hb := h1.rb
  dsimp only at e
  cases q : r1.d with
  | bl c =>
    rw [q] at e hb
    cases e
    exact ⟨c, hb, k _ H1 F1 A1 p1 R1 rfl⟩
  | _ => rw [q] at e; cases e
def eIf (t : ST Sg) (f g : SE Sg) : SE Sg := fun ρ S => (t ρ S).bind fun p => if p.1 = true then f p.2.1 p.2.2 else g p.2.1 p.2.2
theorem pd_if {t : ST Sg} {f g : SE Sg} (hc : PT X c (tT G t)) (ha : PE X a (tE G f)) (hb : PE X b (tE G g)) : PE X (.IfExp c a b pos) (tE G (eIf t f g)) := by
  refine PE.mono' (pe_ifExp hc ha hb) ?_
  rintro σ H Q ⟨H0, F0, ρ, F, As, S, r, ρ', S', R, e, k⟩
  obtain ⟨⟨r1, ρ1, S1⟩, e1, e⟩ := Option.bind_eq_some_iff.mp e
  refine ⟨H0, F0, ρ, F, As, S, r1, ρ1, S1, R, e1, fun H1 F1 A1 p1 R1 => ?_⟩
  cases r1 with
  | true =>
    rw [if_pos rfl] at e ⊢
    exact ⟨H0, F0, ρ1, F1, A1, S1, r, ρ', S', R1, e, fun v2 H2 F2 A2 p2 R2 h2 => k v2 H2 F2 A2 (p1.trans p2) R2 (h2.back p1)⟩
  | false =>
    rw [if_neg Bool.false_ne_true] at e ⊢
    exact ⟨H0, F0, ρ1, F1, A1, S1, r, ρ', S', R1, e, fun v2 H2 F2 A2 p2 R2 h2 => k v2 H2 F2 A2 (p1.trans p2) R2 (h2.back p1)⟩
/-- a op b op' c -/
def eChain (op op' : D → D → Option Rv) (f g h : SE Sg) : SE Sg := fun ρ S => (f ρ S).bind fun p => (g p.2.1 p.2.2).bind fun q => (op p.1.d q.1.d).bind fun r => match r.d with
  | .bl true => (h q.2.1 q.2.2).bind fun w => (op' q.1.d w.1.d).bind fun r' => some (r', w.2.1, w.2.2)
  | .bl false => some (.im (.bl false), q.2.1, q.2.2)
  | _ => none
theorem ResN.rb {H H' : Hp} {F : Addr → Prop} {S : Sg} {r : Rv} {v : V} (g : Gs G H F S) (h : ResN G H H' F r v) : Rb G H' F r.d v := by
  cases r with
  | im d => exact Rp.rb h
  | nw d =>
    obtain ⟨a, rfl, n, o⟩ := h
    exact o.rb (g.fresh n).2
  | br d => exact h.elim
theorem chain_le {r r' : R2} {op op' : D → D → Option Rv} {f g h : SE Sg} (ho : Op2 G r op) (ho' : Op2 G r' op') : ∀ σ H Q, tE G (eChain op op' f g h) σ H Q → tChain r r' (tE G f) (tE G g) (tE G h) σ H Q := by
  rintro σ H Q ⟨H0, F0, ρ, F, As, S, rr, ρ', S', R, e, k⟩
  obtain ⟨⟨r1, ρ1, S1⟩, e1, e⟩ := Option.bind_eq_some_iff.mp e
  obtain ⟨⟨r2, ρ2, S2⟩, e2, e⟩ := Option.bind_eq_some_iff.mp e
  obtain ⟨r3, e3, e⟩ := Option.bind_eq_some_iff.mp e
  refine ⟨H0, F0, ρ, F, As, S, r1, ρ1, S1, R, e1, fun v1 H1 F1 A1 p1 R1 h1 => ?_⟩
  refine ⟨H0, F0, ρ1, F1, A1, S1, r2, ρ2, S2, R1, e2, fun v2 H2 F2 A2 p2 R2 h2 => ?_⟩
  refine ho v1 v2 _ _ H2 F2 S2 r3 _ R2.gs (h1.rb.fr p2.fr p2.fF) h2.rb e3 fun v3 H3 x3 h3 => ?_
  have hb := h3.rb R2.gs
  have R3 := R2.ex x3
  have p3 : Stp G H2 H3 F2 F2 A2 A2 := Stp.ext x3
  dsimp only at e
  cases q : r3.d with
  | bl c =>
    rw [q] at e hb
    refine ⟨c, hb, ?_⟩
    cases c with
    | true =>
      rw [if_pos rfl]
      obtain ⟨⟨r4, ρ4, S4⟩, e4, e⟩ := Option.bind_eq_some_iff.mp e
      obtain ⟨r5, e5, e⟩ := Option.bind_eq_some_iff.mp e
      cases e
      refine ⟨H0, F0, ρ2, F2, A2, S2, r4, ρ4, S4, R3, e4, fun v4 H4 F4 A4 p4 R4 h4 => ?_⟩
      exact ho' v2 v4 _ _ H4 F4 S4 _ Q R4.gs ((h2.rb.fr p3.fr p3.fF).fr p4.fr p4.fF) h4.rb e5 (R4.kn fun v H' F' A' p R' h => k v H' F' A' ((((p1.trans p2).trans p3).trans p4).trans p) R' (h.back (((p1.trans p2).trans p3).trans p4)))
    | false =>
      rw [if_neg Bool.false_ne_true]
      cases e
      exact k _ H3 F2 A2 ((p1.trans p2).trans p3) R3 rfl
  | _ => rw [q] at e; cases e
theorem pd_chain {op op' : CmpOp} {r r' : R2} {s s' : D → D → Option Rv} {f g h : SE Sg} (hr : OpR X (compareOp op) r) (ho : Op2 G r s) (hr' : OpR X (compareOp op') r') (ho' : Op2 G r' s') (ha : PE X a (tE G f)) (hb : PE X b (tE G g)) (hc : PE X c (tE G h))
    (hm : lastMarks [op, op'] [b, c] = false := by with_unfolding_all rfl) : PE X (.Compare a [op, op'] [b, c] pos) (tE G (eChain s s' f g h)) :=
  PE.mono' (pe_chain hr hr' ha hb hc hm) (chain_le ho ho')
theorem td_chain {op op' : CmpOp} {r r' : R2} {s s' : D → D → Option Rv} {f g h : SE Sg} (hr : OpR X (compareOp op) r) (ho : Op2 G r s) (hr' : OpR X (compareOp op') r') (ho' : Op2 G r' s') (ha : PE X a (tE G f)) (hb : PE X b (tE G g)) (hc : PE X c (tE G h))
    (hm : lastMarks [op, op'] [b, c] = false := by with_unfolding_all rfl) : PT X (.Compare a [op, op'] [b, c] pos) (tT G (tst (eChain s s' f g h))) :=
  PT.mono' (pt_chain hr hr' ha hb hc hm) fun σ H Q h => chain_le ho ho' σ H _ (tst_le σ H Q h)
end
end Dv
end
section
set_option maxHeartbeats 4000000
namespace Dv
open PySem PySem.Spec PyProof.Rows L2
variable {Sg : Type}

/-! ### statements: what stays -/
structure Sts (G : Gd Sg) (H H' : Hp) (F F' : Addr → Prop) (As As' : Nat → Option Addr) : Prop where
  fr : ∀ a o, H a = some o → ¬ G.Z a → (∀ i, As i ≠ some a) → H' a = some o
  fF : ∀ a, F a → F' a
  gF : ∀ a, F' a → ¬ G.Z a → F a ∨ H a = none ∨ ∃ j, As j = some a
  as : ∀ i a, As' i = some a → ¬ G.Z a ∧ ((∃ j, As j = some a) ∨ H a = none)
theorem Sts.trans {G : Gd Sg} {H H1 H2 : Hp} {F F1 F2 : Addr → Prop} {As A1 A2 : Nat → Option Addr} (a : Sts G H H1 F F1 As A1) (b : Sts G H1 H2 F1 F2 A1 A2) : Sts G H H2 F F2 As A2 where
  fr := fun x o e z n => b.fr x o (a.fr x o e z n) z fun i q => by
    rcases (a.as i x q).2 with ⟨j, q'⟩ | q'
    · exact n j q'
    · rw [e] at q'; cases q'
  fF := fun x q => b.fF x (a.fF x q)
  gF := fun x q z => by
    rcases b.gF x q z with h | h | ⟨j, h⟩
    · exact a.gF x h z
    · cases e : H x with
      | none => exact .inr (.inl rfl)
      | some o =>
        by_cases n : ∃ j, As j = some x
        · exact .inr (.inr n)
        · rw [a.fr x o e z fun j q2 => n ⟨j, q2⟩] at h; cases h
    · rcases (a.as j x h).2 with h | h
      · exact .inr (.inr h)
      · exact .inr (.inl h)
  as := fun i x q => by
    obtain ⟨z, q1⟩ := b.as i x q
    refine ⟨z, ?_⟩
    rcases q1 with ⟨j, q'⟩ | q'
    · exact (a.as j x q').2
    · cases e : H x with
      | none => exact .inr rfl
      | some o =>
        by_cases n : ∃ j, As j = some x
        · exact .inl n
        · have := a.fr x o e z fun j q2 => n ⟨j, q2⟩
          rw [q'] at this; cases this
section
variable {G : Gd Sg} {H0 H H' : Hp} {F0 F F' : Addr → Prop} {ρ : En} {σ : L2.St} {As As' : Nat → Option Addr} {S : Sg}
theorem Rel.sts (R : Rel G H0 F0 ρ σ H F As S) : Sts G H H F F As As := ⟨fun _ _ e _ _ => e, fun _ q => q, fun _ q _ => .inl q, fun i a q => ⟨(R.nF i a q).2, .inl ⟨i, q⟩⟩⟩
theorem Rel.stp (R : Rel G H0 F0 ρ σ H F As S) (p : Stp G H H' F F' As As') : Sts G H H' F F' As As' := ⟨fun a o e z _ => p.fr a o e z, p.fF, p.gF, fun i a q => ⟨(R.nF i a (p.as i a q)).2, .inl ⟨i, p.as i a q⟩⟩⟩
/-- what is owned is a list or a dict -/
theorem Rel.owned (R : Rel G H0 F0 ρ σ H F As S) {i : Nat} {a : Addr} (e : As i = some a) : (∃ vs, H a = some (.lst vs)) ∨ (∃ kvs, H a = some (.dK kvs)) ∨ ∃ kvs, H a = some (.dT kvs) := by
  cases q : ρ[i]? with
  | none => rw [R.none_ i q] at e; cases e
  | some sl =>
    obtain ⟨w, _, h⟩ := R.slot i sl q
    cases sl with
    | non => rw [show As i = none from h] at e; cases e
    | im d => rw [h.1] at e; cases e
    | ow d =>
      obtain ⟨b, e1, _, o⟩ := h
      rw [e] at e1; cases e1
      cases d with
      | lst l => obtain ⟨vs, s, _⟩ := o; exact .inl ⟨vs, s⟩
      | dct ks l => obtain ⟨kvs, s, _⟩ := o; exact .inr (.inl ⟨kvs, s⟩)
      | dtt ks l => obtain ⟨kvs, s, _⟩ := o; exact .inr (.inr ⟨kvs, s⟩)
      | _ => exact (show False from o).elim
theorem Rel.nown (R : Rel G H0 F0 ρ σ H F As S) {a : Addr} {o : HO} (e : H a = some o) (h1 : ∀ vs, o ≠ .lst vs) (h2 : ∀ kvs, o ≠ .dK kvs) (h3 : ∀ kvs, o ≠ .dT kvs := by intro _ q; cases q) : ∀ i, As i ≠ some a := fun i q => by
  rcases R.owned q with ⟨vs, z⟩ | ⟨kvs, z⟩ | ⟨kvs, z⟩
  · rw [e] at z; cases z; exact h1 _ rfl
  · rw [e] at z; cases z; exact h2 _ rfl
  · rw [e] at z; cases z; exact h3 _ rfl
theorem Rel.nownF (R : Rel G H0 F0 ρ σ H F As S) {a : Addr} (h : F a) : ∀ i, As i ≠ some a := fun i q => (R.nF i a q).1 h
mutual
theorem Rp.sts (R : Rel G H0 F0 ρ σ H F As S) (p : Sts G H H' F F' As As') : ∀ {d : D} {v : V}, Rp G H F d v → Rp G H' F' d v
  | .non, _, h => h
  | .bl _, _, h => h
  | .int _, _, h => h
  | .str _, _, h => h
  | .tup x l, _, h => by
    obtain ⟨a, vs, e, ⟨s, sx, sy⟩, z, r⟩ := h
    refine ⟨a, vs, e, ⟨?_, fun q => ?_, fun q => p.fr _ _ (sy q) z (R.nown (sy q) (fun _ q => nomatch q) fun _ q => nomatch q)⟩, z, Rps.sts R p r⟩
    rotate_left
    · rcases sx q with ⟨o, u, s, d⟩ | s
      · exact .inl ⟨o, u, p.fr _ _ s z (R.nown s (fun _ q => nomatch q) fun _ q => nomatch q), d⟩
      · exact .inr s
    rcases s with (s | ⟨o, s⟩) | s
    · exact .inl (.inl (p.fr _ _ s z (R.nown s (fun _ q => nomatch q) fun _ q => nomatch q)))
    · exact .inl (.inr ⟨o, p.fr _ _ s z (R.nown s (fun _ q => nomatch q) fun _ q => nomatch q)⟩)
    · exact .inr s
  | .lst l, _, h => by
    obtain ⟨a, vs, e, s, f, z, r⟩ := h
    exact ⟨a, vs, e, p.fr _ _ s z (R.nownF f), p.fF _ f, z, Rps.sts R p r⟩
  | .scr ns, _, h => by
    obtain ⟨a, e, s⟩ := h
    refine ⟨a, e, ?_⟩
    rcases s with ⟨o, s, z⟩ | s
    · exact .inl ⟨o, p.fr _ _ s z (R.nown s (fun _ q => nomatch q) fun _ q => nomatch q), z⟩
    · exact .inr s
  | .dct ks l, _, h => by
    obtain ⟨a, kvs, e, s, z, k, r⟩ := h
    refine ⟨a, kvs, e, ?_, z, k, Rps.sts R p r⟩
    rcases s with ⟨s, hf⟩ | ⟨o, s⟩
    · exact .inl ⟨p.fr _ _ s z (R.nownF hf), p.fF _ hf⟩
    · exact .inr ⟨o, p.fr _ _ s z (R.nown s (fun _ q => nomatch q) fun _ q => nomatch q)⟩
  | .ob _, _, h => h
  | .dtt ks l, _, h => by
    obtain ⟨a, kvs, e, s, z, k, r⟩ := h
    exact ⟨a, kvs, e, ⟨p.fr _ _ s.1 z (R.nownF s.2), p.fF _ s.2⟩, z, k, Rps.sts R p r⟩
  | .exc c ns l, _, h => by
    obtain ⟨a, dd, fv, e, s, z, s2, k, r⟩ := h
    exact ⟨a, dd, fv, e, p.fr _ _ s z (R.nown s (fun _ q => nomatch q) (fun _ q => nomatch q)), z, s2.to fun _ s2 z2 => p.fr _ _ s2 z2 (R.nown s2 (fun _ q => nomatch q) (fun _ q => nomatch q)), k, Rps.sts R p r⟩
theorem Rps.sts (R : Rel G H0 F0 ρ σ H F As S) (p : Sts G H H' F F' As As') : ∀ {l : List D} {vs : List V}, Rps G H F l vs → Rps G H' F' l vs
  | [], _, h => h
  | d :: l, _, h => by
    obtain ⟨v, r, e, h1, h2⟩ := h
    exact ⟨v, r, e, Rp.sts R p h1, Rps.sts R p h2⟩
end
end

/-- what is handed back -/
def RepT (G : Gd Sg) (H0 H : Hp) (F : Addr → Prop) : Rv → V → Prop
  | .im d, v => Rp G H F d v
  | .nw d, v => ∃ a, v = .ref a ∧ Ow G H F a d ∧ ¬ F a ∧ ¬ G.Z a ∧ H0 a = none
  | .br d, v => Rb G H F d v
theorem RepR.ret {G : Gd Sg} {H0 Hs H : Hp} {F : Addr → Prop} {Ass As : Nat → Option Addr} {r : Rv} {v : V} (h : RepR G H0 Hs Ass H F As r v) : RepT G H0 H F r v := by
  cases r with
  | im d => exact h
  | nw d =>
    obtain ⟨a, e, o, nf, z, _, n0, _⟩ := h
    exact ⟨a, e, o, nf, z, n0⟩
  | br d => exact h
def tSs (G : Gd Sg) (f : SS Sg) : TS := fun D σ H => ∃ H0 F0 ρ F As S c ρ' S', Rel G H0 F0 ρ σ H F As S ∧ f ρ S = some (c, ρ', S') ∧
  ∀ σ' H' F' As', Sts G H H' F F' As As' → Rel G H0 F0 ρ' σ' H' F' As' S' → match c with
  | .nx => D.nx σ' H'
  | .rt r => ∀ v, RepT G H0 H' F' r v → D.rt v H'
  | .bk => D.bk σ' H'
  | .ct => D.ct σ' H'

section
variable {X : Cx} {G : Gd Sg} {e a b c : Expr} {pos : Pos}
def sNx : SS Sg := fun ρ S => some (.nx, ρ, S)
def sSeq (f g : SS Sg) : SS Sg := fun ρ S => (f ρ S).bind fun p => match p.1 with
  | .nx => g p.2.1 p.2.2
  | c => some (c, p.2.1, p.2.2)
theorem ss_nil : PSs X [] (tSs G sNx) := by
  refine PSs.mono' pss_nil ?_
  rintro D σ H ⟨H0, F0, ρ, F, As, S, c, ρ', S', R, e, k⟩
  cases e
  exact k σ H F As R.sts R
theorem seq_le {f g : SS Sg} : ∀ D σ H, tSs G (sSeq f g) D σ H → tSeq (tSs G f) (tSs G g) D σ H := by
  rintro D σ H ⟨H0, F0, ρ, F, As, S, c, ρ', S', R, e, k⟩
  obtain ⟨⟨c1, ρ1, S1⟩, e1, e⟩ := Option.bind_eq_some_iff.mp e
  refine ⟨H0, F0, ρ, F, As, S, c1, ρ1, S1, R, e1, fun σ1 H1 F1 A1 p1 R1 => ?_⟩
  cases c1 with
  | nx => exact ⟨H0, F0, ρ1, F1, A1, S1, c, ρ', S', R1, e, fun σ2 H2 F2 A2 p2 R2 => k σ2 H2 F2 A2 (p1.trans p2) R2⟩
  | rt r => cases e; exact k σ1 H1 F1 A1 p1 R1
  | bk => cases e; exact k σ1 H1 F1 A1 p1 R1
  | ct => cases e; exact k σ1 H1 F1 A1 p1 R1
theorem ss_cons {st : Stmt} {rest : List Stmt} {f g : SS Sg} (h1 : PS X st (tSs G f)) (h2 : PSs X rest (tSs G g)) : PSs X (st :: rest) (tSs G (sSeq f g)) := PSs.mono' (pss_cons h1 h2) seq_le
theorem ss_one {st : Stmt} {f : SS Sg} (h1 : PS X st (tSs G f)) : PSs X [st] (tSs G f) := pss_one h1
theorem ds_pass : PS X (.Pass pos) (tSs G sNx) := by
  refine PS.mono' ps_pass ?_
  rintro D σ H ⟨H0, F0, ρ, F, As, S, c, ρ', S', R, e, k⟩
  cases e
  exact k σ H F As R.sts R
def sBk : SS Sg := fun ρ S => some (.bk, ρ, S)
def sCt : SS Sg := fun ρ S => some (.ct, ρ, S)
theorem ds_break : PS X (.Break pos) (tSs G sBk) := by
  refine PS.mono' ps_break ?_
  rintro D σ H ⟨H0, F0, ρ, F, As, S, c, ρ', S', R, e, k⟩
  cases e
  exact k σ H F As R.sts R
theorem ds_continue : PS X (.Continue pos) (tSs G sCt) := by
  refine PS.mono' ps_continue ?_
  rintro D σ H ⟨H0, F0, ρ, F, As, S, c, ρ', S', R, e, k⟩
  cases e
  exact k σ H F As R.sts R
def sRet (f : SE Sg) : SS Sg := fun ρ S => (f ρ S).bind fun p => some (.rt p.1, p.2.1, p.2.2)
theorem ds_ret {f : SE Sg} (he : PE X e (tE G f)) : PS X (.Return (some e) pos) (tSs G (sRet f)) := by
  refine PS.mono' (ps_ret he) ?_
  rintro D σ H ⟨H0, F0, ρ, F, As, S, c, ρ', S', R, e, k⟩
  obtain ⟨⟨r1, ρ1, S1⟩, e1, e⟩ := Option.bind_eq_some_iff.mp e
  cases e
  exact ⟨H0, F0, ρ, F, As, S, r1, ρ1, S1, R, e1, fun v1 H1 F1 A1 p1 R1 h1 => k σ H1 F1 A1 (R.stp p1) R1 v1 h1.ret⟩
def sDrop (f : SE Sg) : SS Sg := fun ρ S => (f ρ S).bind fun p => some (.nx, p.2.1, p.2.2)
theorem ds_expr {f : SE Sg} (he : PE X e (tE G f)) (hs : swapsWith e none pos.line X.env = pure false := by rfl) : PS X (.Expr e pos) (tSs G (sDrop f)) := by
  refine PS.mono' (ps_expr he hs) ?_
  rintro D σ H ⟨H0, F0, ρ, F, As, S, c, ρ', S', R, e, k⟩
  obtain ⟨⟨r1, ρ1, S1⟩, e1, e⟩ := Option.bind_eq_some_iff.mp e
  cases e
  exact ⟨H0, F0, ρ, F, As, S, r1, ρ1, S1, R, e1, fun v1 H1 F1 A1 p1 R1 h1 => k σ H1 F1 A1 (R.stp p1) R1⟩
def sIf (t : ST Sg) (f g : SS Sg) : SS Sg := fun ρ S => (t ρ S).bind fun p => if p.1 = true then f p.2.1 p.2.2 else g p.2.1 p.2.2
theorem ds_if {t : ST Sg} {f g : SS Sg} {s1 s2 : List Stmt} (hc : PT X c (tT G t)) (ha : PSs X s1 (tSs G f)) (hb : PSs X s2 (tSs G g)) : PS X (.If c s1 s2 pos) (tSs G (sIf t f g)) := by
  refine PS.mono' (ps_if hc ha hb) ?_
  rintro D σ H ⟨H0, F0, ρ, F, As, S, c, ρ', S', R, e, k⟩
  obtain ⟨⟨b1, ρ1, S1⟩, e1, e⟩ := Option.bind_eq_some_iff.mp e
  refine ⟨H0, F0, ρ, F, As, S, b1, ρ1, S1, R, e1, fun H1 F1 A1 p1 R1 => ?_⟩
  cases b1 with
  | true =>
    rw [if_pos rfl] at e ⊢
    exact ⟨H0, F0, ρ1, F1, A1, S1, c, ρ', S', R1, e, fun σ2 H2 F2 A2 p2 R2 => k σ2 H2 F2 A2 ((R.stp p1).trans p2) R2⟩
  | false =>
    rw [if_neg Bool.false_ne_true] at e ⊢
    exact ⟨H0, F0, ρ1, F1, A1, S1, c, ρ', S', R1, e, fun σ2 H2 F2 A2 p2 R2 => k σ2 H2 F2 A2 ((R.stp p1).trans p2) R2⟩

/-! ### stores -/
def setA (As : Nat → Option Addr) (i : Nat) (o : Option Addr) : Nat → Option Addr := fun j => if j = i then o else As j
theorem setA_same {As : Nat → Option Addr} {i : Nat} {o : Option Addr} : setA As i o i = o := if_pos rfl
theorem setA_ne {As : Nat → Option Addr} {i j : Nat} {o : Option Addr} (h : j ≠ i) : setA As i o j = As j := if_neg h
section
variable {H0 H H' : Hp} {F0 F F' : Addr → Prop} {ρ : En} {σ : L2.St} {As As' : Nat → Option Addr} {S : Sg}
/-- a slot is stored: what it held is let go -/
theorem Rel.set (R : Rel G H0 F0 ρ σ H F As S) {i : Nat} {sl : Sl} {w : Option V} {o : Option Addr} (hi : i < ρ.length) (hs : SlotOk G H F o sl w)
    (ho : ∀ a, o = some a → ¬ F a ∧ ¬ G.Z a ∧ H0 a = none ∧ ∀ j, As j = some a → j = i) : Rel G H0 F0 (ρ.set i sl) (σ.set i w) H F (setA As i o) S := by
  have hl := R.len
  refine ⟨R.gs, by rw [List.length_set, List.length_set]; exact R.len, fun j s e => ?_, fun j e => ?_, fun j k a e1 e2 => ?_, fun j a e => ?_, fun j a e => ?_, R.base, R.bF⟩
  · by_cases hj : j = i
    · subst hj
      rw [List.getElem?_set_self hi] at e; cases e
      exact ⟨w, List.getElem?_set_self (by omega), by rw [setA_same]; exact hs⟩
    · rw [List.getElem?_set_ne (Ne.symm hj)] at e
      obtain ⟨w', e2, h⟩ := R.slot j s e
      exact ⟨w', by rw [List.getElem?_set_ne (Ne.symm hj)]; exact e2, by rw [setA_ne hj]; exact h⟩
  · have hj : j ≠ i := fun z => by
      subst z
      rw [List.getElem?_set_self hi] at e; cases e
    rw [setA_ne hj]
    rw [List.getElem?_set_ne (Ne.symm hj)] at e
    exact R.none_ j e
  · by_cases hj : j = i
    · subst hj
      rw [setA_same] at e1
      by_cases hk : k = j
      · exact hk.symm
      · rw [setA_ne hk] at e2
        exact ((ho a e1).2.2.2 k e2).symm
    · rw [setA_ne hj] at e1
      by_cases hk : k = i
      · subst hk
        rw [setA_same] at e2
        exact (ho a e2).2.2.2 j e1
      · rw [setA_ne hk] at e2
        exact R.inj j k a e1 e2
  · by_cases hj : j = i
    · subst hj; rw [setA_same] at e
      exact ⟨(ho a e).1, (ho a e).2.1⟩
    · rw [setA_ne hj] at e; exact R.nF j a e
  · by_cases hj : j = i
    · subst hj; rw [setA_same] at e
      exact (ho a e).2.2.1
    · rw [setA_ne hj] at e; exact R.new j a e
theorem Rel.stsA (R : Rel G H0 F0 ρ σ H F As S) {i : Nat} {o : Option Addr} (ho : ∀ a, o = some a → ¬ G.Z a ∧ ((∃ j, As j = some a) ∨ H a = none)) : Sts G H H F F As (setA As i o) :=
  ⟨fun _ _ e _ _ => e, fun _ q => q, fun _ q _ => .inl q, fun j a e => by
    by_cases hj : j = i
    · subst hj; rw [setA_same] at e; exact ho a e
    · rw [setA_ne hj] at e; exact ⟨(R.nF j a e).2, .inl ⟨j, e⟩⟩⟩
end
/-- what a name stored holds -/
def slOf : Rv → Option Sl
  | .im d => some (.im d)
  | .nw d => some (.ow d)
  | .br d => if pureD d = true then some (.im d) else none
def sSet (i : Nat) (f : SE Sg) : SS Sg := fun ρ S => (f ρ S).bind fun p => (slOf p.1).bind fun sl => if i < p.2.1.length then some (.nx, p.2.1.set i sl, p.2.2) else none
/-- frozen, or new: the value to be stored -/
theorem Rel.store {H0 H H1 : Hp} {F0 F F1 : Addr → Prop} {ρ1 : En} {σ1 : L2.St} {As A1 : Nat → Option Addr} {S1 : Sg} {i : Nat} {r : Rv} {sl : Sl} {v : V} (p : Sts G H H1 F F1 As A1)
    (R1 : Rel G H0 F0 ρ1 σ1 H1 F1 A1 S1) (h : RepR G H0 H As H1 F1 A1 r v) (e : slOf r = some sl) (hi : i < ρ1.length) :
    ∃ A2, Sts G H H1 F F1 As A2 ∧ Rel G H0 F0 (ρ1.set i sl) (σ1.set i (some v)) H1 F1 A2 S1 := by
  cases r with
  | im d =>
    cases e
    exact ⟨setA A1 i none, p.trans (R1.stsA fun a q => nomatch q), R1.set hi ⟨rfl, v, rfl, h⟩ fun a q => nomatch q⟩
  | nw d =>
    cases e
    obtain ⟨a, rfl, ow, nf, nz, na, n0, hn⟩ := h
    refine ⟨setA A1 i (some a), ⟨p.fr, p.fF, p.gF, fun j b q => ?_⟩, R1.set hi ⟨a, rfl, rfl, ow⟩ fun b q => ?_⟩
    · by_cases hj : j = i
      · subst hj; rw [setA_same] at q; cases q
        exact ⟨nz, hn.symm⟩
      · rw [setA_ne hj] at q
        exact p.as j b q
    · cases q
      exact ⟨nf, nz, n0, fun j q => absurd q (na j)⟩
  | br d =>
    have e : (if pureD d = true then some (Sl.im d) else none) = some sl := e
    by_cases hp : pureD d = true
    · rw [if_pos hp] at e; cases e
      exact ⟨setA A1 i none, p.trans (R1.stsA fun a q => nomatch q), R1.set hi ⟨rfl, v, rfl, Rb.pure h hp⟩ fun a q => nomatch q⟩
    · rw [if_neg hp] at e; cases e
theorem set_le {i : Nat} {f : SE Sg} : ∀ D σ H, tSs G (sSet i f) D σ H → tAsg (tE G f) (gName i) D σ H := by
  rintro D σ H ⟨H0, F0, ρ, F, As, S, c, ρ', S', R, e, k⟩
  obtain ⟨⟨r1, ρ1, S1⟩, e1, e⟩ := Option.bind_eq_some_iff.mp e
  obtain ⟨sl, e2, e⟩ := Option.bind_eq_some_iff.mp e
  dsimp only at e
  by_cases hi : i < ρ1.length
  · rw [if_pos hi] at e; cases e
    refine ⟨H0, F0, ρ, F, As, S, r1, ρ1, _, R, e1, fun v1 H1 F1 A1 p1 R1 h1 => ?_⟩
    obtain ⟨A2, p2, R2⟩ := Rel.store (R.stp p1) R1 h1 e2 hi
    exact k _ H1 F1 A2 p2 R2
  · rw [if_neg hi] at e; cases e
theorem ds_set {i : Nat} {x : Str} {f : SE Sg} {pos' : Pos} (hN : X.N.Nodup) (hi : X.N[i]? = some x) (hx : Loc X.env.scope x) (he : PE X e (tE G f)) (hs : swapsWith e (some (.Name x pos')) pos.line X.env = pure false := by rfl)
    (hf : X.fn x = true ∨ X.env.scope.names.lookup x = some .local := by first | exact .inl rfl | exact .inr rfl | assumption) : PS X (.Assign [.Name x pos'] e pos) (tSs G (sSet i f)) := PS.mono' (ps_set hN hi hx he hs hf) set_le
/-- a, b = x, y -/
def sPar (i j : Nat) (f : SA Sg) : SS Sg := fun ρ S => (f ρ S).bind fun p => match p.1 with
  | [d, d'] => if i < p.2.1.length ∧ j < p.2.1.length then some (.nx, (p.2.1.set i (.im d)).set j (.im d'), p.2.2) else none
  | _ => none
theorem par_le {i j : Nat} {f : SA Sg} : ∀ D σ H, tSs G (sPar i j f) D σ H → tPar i j (tAF G f) D σ H := by
  rintro D σ H ⟨H0, F0, ρ, F, As, S, c, ρ', S', R, e, k⟩
  obtain ⟨⟨ds, ρ1, S1⟩, e1, e⟩ := Option.bind_eq_some_iff.mp e
  refine ⟨H0, F0, ρ, F, As, S, ds, ρ1, S1, R, e1, fun vs H1 F1 A1 p1 R1 h1 => ?_⟩
  match ds, e, h1 with
  | [d, d'], e, h1 =>
    dsimp only at e
    by_cases hi : i < ρ1.length ∧ j < ρ1.length
    · rw [if_pos hi] at e; cases e
      obtain ⟨v, r, rfl, a1, v2, r2, rfl, a2, rfl⟩ := h1
      refine ⟨v, v2, rfl, ?_⟩
      have R2 := R1.set (i := i) (sl := .im d) (w := some v) (o := none) hi.1 ⟨rfl, v, rfl, a1⟩ fun a q => nomatch q
      have R3 := R2.set (i := j) (sl := .im d') (w := some v2) (o := none) (by rw [List.length_set]; exact hi.2) ⟨rfl, v2, rfl, a2⟩ fun a q => nomatch q
      exact k _ H1 F1 _ (((R.stp p1).trans (R1.stsA (i := i) (o := none) fun a q => nomatch q)).trans (R2.stsA (i := j) (o := none) fun a q => nomatch q)) R3
    · rw [if_neg hi] at e; cases e
  | [], e, _ => cases e
  | [_], e, _ => cases e
  | _ :: _ :: _ :: _, e, _ => cases e
/-- a move out of a slot -/
def eMv (i : Nat) : SE Sg := fun ρ S => match ρ[i]? with
  | some (.im d) => some (.im d, ρ, S)
  | some (.ow d) => some (.nw d, ρ.set i .non, S)
  | _ => none
theorem Rel.drop {H0 H : Hp} {F0 F : Addr → Prop} {ρ : En} {σ : L2.St} {As : Nat → Option Addr} {S : Sg} {i : Nat} (R : Rel G H0 F0 ρ σ H F As S) (hi : i < ρ.length) : Rel G H0 F0 (ρ.set i .non) σ H F (setA As i none) S := by
  have hl := R.len
  have R' := R.set (i := i) (sl := .non) (w := σ[i]?.getD none) (o := none) hi rfl fun a q => nomatch q
  have e : σ.set i (σ[i]?.getD none) = σ := by
    apply List.ext_getElem?
    intro j
    by_cases hj : j = i
    · subst hj
      rw [List.getElem?_set_self (by omega), List.getElem?_eq_getElem (by omega)]
      rfl
    · rw [List.getElem?_set_ne (Ne.symm hj)]
  rw [e] at R'
  exact R'
theorem pd_mv {i : Nat} {x : Str} (hN : X.N[i]? = some x) (hv : Vis X.env.scope x) (hd : (x == ("__debug__" : Str)) = false := by decide) (hcd : (x == ("__classdict__" : Str)) = false := by decide) : PE X (.Name x pos) (tE G (eMv i)) := by
  refine PE.mono' (pe_var hN hv hd hcd) ?_
  rintro σ H Q ⟨H0, F0, ρ, F, As, S, r, ρ', S', R, e, k⟩
  unfold eMv at e
  cases q : ρ[i]? with
  | none => rw [q] at e; cases e
  | some sl =>
    rw [q] at e
    cases sl with
    | non => cases e
    | im d =>
      cases e
      obtain ⟨w, e2, ea, v, e3, h⟩ := R.slot i _ q
      subst e3
      exact ⟨v, e2, k v H F As Stp.refl R h⟩
    | ow d =>
      cases e
      obtain ⟨w, e2, a, ea, e3, ow⟩ := R.slot i _ q
      subst e3
      have hi := (List.getElem?_eq_some_iff.mp q).1
      have nf := R.nF i a ea
      refine ⟨.ref a, e2, k (.ref a) H F (setA As i none) ⟨Fr.refl, fun b q => q, fun b q _ => .inl q, fun j b q => ?_⟩ (R.drop hi) ⟨a, rfl, ow, nf.1, nf.2, fun j q => ?_, R.new i a ea, .inr ⟨i, ea⟩⟩⟩
      · by_cases hj : j = i
        · subst hj; rw [setA_same] at q; cases q
        · rw [setA_ne hj] at q; exact q
      · by_cases hj : j = i
        · subst hj; rw [setA_same] at q; cases q
        · rw [setA_ne hj] at q
          exact hj (R.inj j i a q ea)

/-! ### targets of frozen data -/
theorem Rel.stsLe {H0 H : Hp} {F0 F : Addr → Prop} {ρ : En} {σ : L2.St} {As A' : Nat → Option Addr} {S : Sg} (R : Rel G H0 F0 ρ σ H F As S) (h : ∀ i a, A' i = some a → As i = some a) : Sts G H H F F As A' :=
  ⟨fun _ _ e _ _ => e, fun _ q => q, fun _ q _ => .inl q, fun i a q => ⟨(R.nF i a (h i a q)).2, .inl ⟨i, h i a q⟩⟩⟩
theorem setA_le {As : Nat → Option Addr} {i : Nat} : ∀ j a, setA As i none j = some a → As j = some a := fun j a q => by
  by_cases hj : j = i
  · subst hj; rw [setA_same] at q; cases q
  · rw [setA_ne hj] at q; exact q
abbrev TD := D → En → Option En
def gD (G : Gd Sg) (is : List Nat) (t : TD) : TG := fun v σ H Q => ∃ H0 F0 ρ F As S d ρ', Rel G H0 F0 ρ σ H F As S ∧ Rp G H F d v ∧ t d ρ = some ρ' ∧
  ∀ σ' As', wipe σ' is = wipe σ is → (∀ i a, As' i = some a → As i = some a) → Rel G H0 F0 ρ' σ' H F As' S → Q σ' H
def gDs (G : Gd Sg) (is : List Nat) (t : List D → En → Option En) : TGs := fun vs σ H Q => ∃ H0 F0 ρ F As S ds ρ', Rel G H0 F0 ρ σ H F As S ∧ Rps G H F ds vs ∧ t ds ρ = some ρ' ∧
  ∀ σ' As', wipe σ' is = wipe σ is → (∀ i a, As' i = some a → As i = some a) → Rel G H0 F0 ρ' σ' H F As' S → Q σ' H
theorem PG.mono' {tg : Expr} {t t' : TG} (h : PG X tg t) (i : ∀ v σ H Q, t' v σ H Q → t v σ H Q) : PG X tg t' := ⟨fun pins s σ H v u Q I r q => h.run pins s σ H v u Q I r (i _ _ _ _ q)⟩
theorem PGs.mono' {tg : List Expr} {t t' : TGs} (h : PGs X tg t) (i : ∀ v σ H Q, t' v σ H Q → t v σ H Q) : PGs X tg t' := ⟨fun pins s σ H v u Q I r q => h.run pins s σ H v u Q I r (i _ _ _ _ q)⟩
def tdN (i : Nat) : TD := fun d ρ => if i < ρ.length then some (ρ.set i (.im d)) else none
def tdNil : List D → En → Option En := fun ds ρ => match ds with
  | [] => some ρ
  | _ => none
def tdCons (t : TD) (u : List D → En → Option En) : List D → En → Option En := fun ds ρ => match ds with
  | d :: l => (t d ρ).bind fun ρ1 => u l ρ1
  | [] => none
def tdTup (u : List D → En → Option En) : TD := fun d ρ => match d with
  | .tup _ l => u l ρ
  | _ => none
theorem wipe_get (σ : L2.St) : ∀ (is : List Nat) (j : Nat), (wipe σ is)[j]? = if j ∈ is ∧ j < σ.length then some none else σ[j]?
  | [], j => by rw [if_neg (by rintro ⟨h, _⟩; cases h)]; rfl
  | i :: is, j => by
    unfold wipe
    by_cases hj : j = i
    · subst hj
      by_cases hl : j < σ.length
      · rw [if_pos ⟨List.mem_cons_self, hl⟩, List.getElem?_set_self (by rw [wipe_length]; exact hl)]
      · rw [if_neg (fun z => hl z.2), List.getElem?_eq_none (by rw [List.length_set, wipe_length]; omega), List.getElem?_eq_none (by omega)]
    · rw [List.getElem?_set_ne (Ne.symm hj), wipe_get σ is j]
      by_cases hm : j ∈ is ∧ j < σ.length
      · rw [if_pos hm, if_pos ⟨List.mem_cons_of_mem _ hm.1, hm.2⟩]
      · rw [if_neg hm, if_neg (fun z => hm ⟨(List.mem_cons.mp z.1).resolve_left hj, z.2⟩)]
theorem wipe_set {σ : L2.St} {is : List Nat} {i : Nat} {w : Option V} (h : i ∈ is) : wipe (σ.set i w) is = wipe σ is := by
  apply List.ext_getElem?
  intro j
  rw [wipe_get, wipe_get, List.length_set]
  by_cases hm : j ∈ is ∧ j < σ.length
  · rw [if_pos hm, if_pos hm]
  · rw [if_neg hm, if_neg hm]
    by_cases hj : j = i
    · subst hj
      have hl : ¬ j < σ.length := fun z => hm ⟨h, z⟩
      rw [List.getElem?_eq_none (by rw [List.length_set]; omega), List.getElem?_eq_none (by omega)]
    · rw [List.getElem?_set_ne (Ne.symm hj)]
variable {is : List Nat}
theorem gd_name {i : Nat} {x : Str} (hm : i ∈ is) (hN : X.N.Nodup) (hi : X.N[i]? = some x) (hx : Loc X.env.scope x) (hf : X.fn x = true ∨ X.env.scope.names.lookup x = some .local := by first | exact .inl rfl | exact .inr rfl | assumption) : PG X (.Name x pos) (gD G is (tdN i)) := by
  refine PG.mono' (pg_name hN hi hx hf) ?_
  rintro v σ H Q ⟨H0, F0, ρ, F, As, S, d, ρ', R, h, e, k⟩
  have e : (if i < ρ.length then some (ρ.set i (.im d)) else none) = some ρ' := e
  by_cases hi : i < ρ.length
  · rw [if_pos hi] at e; cases e
    exact k _ _ (wipe_set hm) (setA_le (i := i)) (R.set (o := none) hi ⟨rfl, v, rfl, h⟩ fun a q => nomatch q)
  · rw [if_neg hi] at e; cases e
theorem gds_nil : PGs X [] (gDs G is tdNil) := by
  refine PGs.mono' pgs_nil ?_
  rintro vs σ H Q ⟨H0, F0, ρ, F, As, S, ds, ρ', R, h, e, k⟩
  cases ds with
  | nil =>
    cases e
    exact ⟨h, k σ As rfl (fun _ _ q => q) R⟩
  | cons d l => cases e
theorem gds_cons {e : Expr} {es : List Expr} {t : TD} {u : List D → En → Option En} (h1 : PG X e (gD G is t)) (h2 : PGs X es (gDs G is u))
    (hs : (assignEach (e :: es) X.env).map (·.2) = assign e X.env :: (assignEach es X.env).map (·.2) := by rfl) : PGs X (e :: es) (gDs G is (tdCons t u)) := by
  refine PGs.mono' (pgs_cons h1 h2 hs) ?_
  rintro vs σ H Q ⟨H0, F0, ρ, F, As, S, ds, ρ', R, h, e, k⟩
  cases ds with
  | nil => cases e
  | cons d l =>
    obtain ⟨v, r, rfl, a1, a2⟩ := h
    obtain ⟨ρ1, e1, e2⟩ := Option.bind_eq_some_iff.mp e
    refine ⟨v, r, rfl, H0, F0, ρ, F, As, S, d, ρ1, R, a1, e1, fun σ1 A1 w1 p1 R1 => ?_⟩
    exact ⟨H0, F0, ρ1, F, A1, S, l, ρ', R1, a2, e2, fun σ2 A2 w2 p2 R2 => k σ2 A2 (w2.trans w1) (fun i a q => p1 i a (p2 i a q)) R2⟩
theorem gd_tup {es : List Expr} {kk : Nat} {u : List D → En → Option En} {n : Nat} (hK : G.K = X.K) (hc : X.calm = true) (h : PGs X es (gDs G is u)) (hl : ∀ l ρ ρ', u l ρ = some ρ' → l.length = n)
    (hn : (assignEach es X.env).length = n := by rfl) (hst : (assignEach es X.env).findIdx? (·.1) = none := by rfl) : PG X (.Tuple es kk pos) (gD G is (tdTup u)) := by
  refine PG.mono' (pg_tup hc h hn hst) ?_
  rintro v σ H Q ⟨H0, F0, ρ, F, As, S, d, ρ', R, h, e, k⟩
  cases d with
  | tup x l =>
    obtain ⟨a, vs, rfl, ⟨s, _⟩, z, r⟩ := h
    have e : u l ρ = some ρ' := e
    exact ⟨a, vs, rfl, hK ▸ s, by rw [r.length]; exact hl l ρ ρ' e, H0, F0, ρ, F, As, S, l, ρ', R, r, e, k⟩
  | _ => cases e
/-- target = e, what comes frozen -/
def sAsg (t : TD) (f : SE Sg) : SS Sg := fun ρ S => (f ρ S).bind fun p => (frz p.1).bind fun d => (t d p.2.1).bind fun ρ2 => some (.nx, ρ2, p.2.2)
theorem asg_le {t : TD} {f : SE Sg} : ∀ D σ H, tSs G (sAsg t f) D σ H → tAsg (tE G f) (gD G is t) D σ H := by
  rintro D σ H ⟨H0, F0, ρ, F, As, S, c, ρ', S', R, e, k⟩
  obtain ⟨⟨r1, ρ1, S1⟩, e1, e⟩ := Option.bind_eq_some_iff.mp e
  obtain ⟨d, ed, e⟩ := Option.bind_eq_some_iff.mp e
  obtain ⟨ρ2, e2, e⟩ := Option.bind_eq_some_iff.mp e
  cases e
  refine ⟨H0, F0, ρ, F, As, S, r1, ρ1, S1, R, e1, fun v1 H1 F1 A1 p1 R1 h1 => ?_⟩
  obtain ⟨F1', g1, gg1, R1', h1'⟩ := R1.frz h1 ed
  refine ⟨H0, F0, ρ1, F1', A1, S1, d, ρ', R1', h1', e2, fun σ2 A2 _ p2 R2 => ?_⟩
  have q := R.stp (p1.frz g1 gg1)
  exact k σ2 H1 F1' A2 (q.trans (R1'.stsLe p2)) R2
theorem ds_asg {tg : Expr} {t : TD} {f : SE Sg} (he : PE X e (tE G f)) (hg : PG X tg (gD G is t)) (hs : swapsWithSole [tg] e pos.line X.env = pure false := by rfl) (hw : swappedStores [tg] e X.env = pure none := by rfl) (h1 : (assignEach [tg] X.env).map (·.2) = [assign tg X.env] := by rfl) : PS X (.Assign [tg] e pos) (tSs G (sAsg t f)) :=
  PS.mono' (ps_asg he hg hs hw h1) asg_le
end
end Dv
end
section
set_option maxHeartbeats 4000000
namespace Dv
open PySem PySem.Spec PyProof.Rows L2
variable {Sg : Type}

/-! ### an unfrozen list or dict is changed -/
def Mu (o : HO) : Prop := (∃ vs, o = .lst vs) ∨ (∃ kvs, o = .dK kvs) ∨ ∃ kvs, o = .dT kvs
section
variable {G : Gd Sg} {H0 H H' : Hp} {F0 F F' : Addr → Prop} {ρ : En} {σ : L2.St} {As As' : Nat → Option Addr} {S : Sg} {p : Addr} {o o' : HO}
theorem Mu.ne {b : Addr} {u : HO} (hp : H p = some o) (m : Mu o) (hb : H b = some u) (h1 : ∀ vs, u ≠ .lst vs) (h2 : ∀ kvs, u ≠ .dK kvs) (h3 : ∀ kvs, u ≠ .dT kvs := by intro _ q; cases q) : b ≠ p := fun z => by
  subst z
  rw [hp] at hb; cases hb
  rcases m with ⟨vs, e⟩ | ⟨kvs, e⟩ | ⟨kvs, e⟩
  · exact h1 vs e
  · exact h2 kvs e
  · exact h3 kvs e
mutual
theorem Rp.updO (hp : H p = some o) (m : Mu o) (nf : ¬ F p) : ∀ {d : D} {v : V}, Rp G H F d v → Rp G (upd H p o') F d v
  | .non, _, h => h
  | .bl _, _, h => h
  | .int _, _, h => h
  | .str _, _, h => h
  | .tup x l, _, h => by
    obtain ⟨a, vs, e, ⟨s, sx, sy⟩, z, r⟩ := h
    refine ⟨a, vs, e, ⟨?_, fun q => ?_, fun q => by rw [upd_ne (m.ne hp (sy q) (fun _ q => nomatch q) fun _ q => nomatch q)]; exact sy q⟩, z, Rps.updO hp m nf r⟩
    rotate_left
    · rcases sx q with ⟨o, u, s, d⟩ | s
      · exact .inl ⟨o, u, by rw [upd_ne (m.ne hp s (fun _ q => nomatch q) fun _ q => nomatch q)]; exact s, d⟩
      · exact .inr s
    rcases s with (s | ⟨u, s⟩) | s
    · exact .inl (.inl (by rw [upd_ne (m.ne hp s (fun _ q => nomatch q) fun _ q => nomatch q)]; exact s))
    · exact .inl (.inr ⟨u, by rw [upd_ne (m.ne hp s (fun _ q => nomatch q) fun _ q => nomatch q)]; exact s⟩)
    · exact .inr s
  | .lst l, _, h => by
    obtain ⟨a, vs, e, s, f, z, r⟩ := h
    exact ⟨a, vs, e, by rw [upd_ne (show a ≠ p from fun q => nf (q ▸ f))]; exact s, f, z, Rps.updO hp m nf r⟩
  | .scr ns, _, h => by
    obtain ⟨a, e, s⟩ := h
    refine ⟨a, e, ?_⟩
    rcases s with ⟨u, s, z⟩ | s
    · exact .inl ⟨u, by rw [upd_ne (m.ne hp s (fun _ q => nomatch q) fun _ q => nomatch q)]; exact s, z⟩
    · exact .inr s
  | .dct ks l, _, h => by
    obtain ⟨a, kvs, e, s, z, k, r⟩ := h
    refine ⟨a, kvs, e, ?_, z, k, Rps.updO hp m nf r⟩
    rcases s with ⟨s, f⟩ | ⟨u, s⟩
    · exact .inl ⟨by rw [upd_ne (show a ≠ p from fun q => nf (q ▸ f))]; exact s, f⟩
    · exact .inr ⟨u, by rw [upd_ne (m.ne hp s (fun _ q => nomatch q) fun _ q => nomatch q)]; exact s⟩
  | .ob _, _, h => h
  | .dtt ks l, _, h => by
    obtain ⟨a, kvs, e, s, z, k, r⟩ := h
    exact ⟨a, kvs, e, ⟨by rw [upd_ne (show a ≠ p from fun q => nf (q ▸ s.2))]; exact s.1, s.2⟩, z, k, Rps.updO hp m nf r⟩
  | .exc c ns l, _, h => by
    obtain ⟨a, dd, fv, e, s, z, s2, k, r⟩ := h
    exact ⟨a, dd, fv, e, by rw [upd_ne (m.ne hp s (fun _ q => nomatch q) (fun _ q => nomatch q))]; exact s, z, s2.to fun _ s2 _ => (by rw [upd_ne (m.ne hp s2 (fun _ q => nomatch q) (fun _ q => nomatch q))]; exact s2), k, Rps.updO hp m nf r⟩
theorem Rps.updO (hp : H p = some o) (m : Mu o) (nf : ¬ F p) : ∀ {l : List D} {vs : List V}, Rps G H F l vs → Rps G (upd H p o') F l vs
  | [], _, h => h
  | d :: l, _, h => by
    obtain ⟨v, r, e, h1, h2⟩ := h
    exact ⟨v, r, e, Rp.updO hp m nf h1, Rps.updO hp m nf h2⟩
end
end

/-- a source: it stays as long as its things do -/
structure Stb (G : Gd Sg) (P : Hp → (Addr → Prop) → Prop) : Prop where
  fr : ∀ {H H' : Hp} {F F' : Addr → Prop}, Fr G.Z H H' → (∀ a, F a → F' a) → P H F → P H' F'
  sts : ∀ {H0 H H' : Hp} {F0 F F' : Addr → Prop} {ρ : En} {σ : L2.St} {As As' : Nat → Option Addr} {S : Sg}, Rel G H0 F0 ρ σ H F As S → Sts G H H' F F' As As' → P H F → P H' F'
  up : ∀ {H : Hp} {F : Addr → Prop} {p : Addr} {o o' : HO}, H p = some o → Mu o → ¬ F p → P H F → P (upd H p o') F
theorem stb_rps {G : Gd Sg} {ds : List D} {vs : List V} : Stb G (fun H F => Rps G H F ds vs) := ⟨fun f g h => h.fr f g, fun R p h => h.sts R p, fun hp m nf h => h.updO hp m nf⟩
theorem stb_true {G : Gd Sg} : Stb G (fun _ _ => True) := ⟨fun _ _ h => h, fun _ _ h => h, fun _ _ _ h => h⟩
theorem stb_lk {G : Gd Sg} {d : Addr} {o : Obj} {u : HO} : Stb G (fun H _ => H d = some (.frz o u) ∧ ¬ G.Z d) :=
  ⟨fun f _ h => ⟨f _ _ h.1 h.2, h.2⟩, fun R p h => ⟨p.fr _ _ h.1 h.2 (R.nown h.1 (fun _ q => nomatch q) fun _ q => nomatch q), h.2⟩, fun hp m nf h => ⟨by rw [upd_ne (m.ne hp h.1 (fun _ q => nomatch q) fun _ q => nomatch q)]; exact h.1, h.2⟩⟩
theorem Stb.and {G : Gd Sg} {P P' : Hp → (Addr → Prop) → Prop} (a : Stb G P) (b : Stb G P') : Stb G (fun H F => P H F ∧ P' H F) :=
  ⟨fun f g h => ⟨a.fr f g h.1, b.fr f g h.2⟩, fun R p h => ⟨a.sts R p h.1, b.sts R p h.2⟩, fun hp m nf h => ⟨a.up hp m nf h.1, b.up hp m nf h.2⟩⟩

/-! ### what is walked -/
/-- the iterator J yields the data l, one by one, as long as its source P stands -/
def Yl (G : Gd Sg) (J : It) (l : List D) (P : Hp → (Addr → Prop) → Prop) : Prop := ∀ (i : Nat) (H : Hp) (F : Addr → Prop) (S : Sg), Gs G H F S → P H F →
  (l.length ≤ i → J.stop i H) ∧ ∀ d, l[i]? = some d → J.go i H ∧ ∀ x H', J.yld i H x H' → Ext H H' ∧ Rp G H' F d x
def tIt (G : Gd Sg) (f : SA Sg) : TI := fun σ H R => ∃ H0 F0 ρ F As S l ρ' S', Rel G H0 F0 ρ σ H F As S ∧ f ρ S = some (l, ρ', S') ∧
  ∀ J P H' F' As', Stp G H H' F F' As As' → Rel G H0 F0 ρ' σ H' F' As' S' → Stb G P → P H' F' → Yl G J l P → R J H'
section
variable {X : Cx} {G : Gd Sg} {e a b c tg iter : Expr} {pos : Pos}
theorem PI.mono' {t t' : TI} (h : PI X tg iter t) (i : ∀ σ H R, t' σ H R → t σ H R) : PI X tg iter t' := ⟨fun pins s σ H R I q => h.run pins s σ H R I (i _ _ _ q)⟩

/-- the body of a loop for each datum -/
def forD (b : D → SS Sg) : List D → SS Sg
  | [], ρ, S => some (.nx, ρ, S)
  | d :: l, ρ, S => (b d ρ S).bind fun p => match p.1 with
    | .nx => forD b l p.2.1 p.2.2
    | .ct => forD b l p.2.1 p.2.2
    | .bk => some (.nx, p.2.1, p.2.2)
    | .rt r => some (.rt r, p.2.1, p.2.2)
def sBody (t : TD) (b : SS Sg) : D → SS Sg := fun d ρ S => (t d ρ).bind fun ρ1 => b ρ1 S
def sFor (f : SA Sg) (t : TD) (b : SS Sg) : SS Sg := fun ρ S => (f ρ S).bind fun p => forD (sBody t b) p.1 p.2.1 p.2.2
theorem for_le {f : SA Sg} {t : TD} {b : SS Sg} {vs : List Nat} : ∀ D σ H, tSs G (sFor f t b) D σ H → tFor (tIt G f) (gD G vs t) (tSs G b) D σ H := by
  rintro D σ H ⟨H0, F0, ρ, F, As, S, c, ρ', S', R, e, k⟩
  obtain ⟨⟨l, ρ1, S1⟩, e1, e⟩ := Option.bind_eq_some_iff.mp e
  refine ⟨H0, F0, ρ, F, As, S, l, ρ1, S1, R, e1, fun J P H1 F1 A1 p1 R1 sb hs hy => ?_⟩
  refine ⟨fun i m σ2 H2 => i + m = l.length ∧ ∃ ρ2 F2 A2 S2, Rel G H0 F0 ρ2 σ2 H2 F2 A2 S2 ∧ Sts G H H2 F F2 As A2 ∧ P H2 F2 ∧ forD (sBody t b) (l.drop i) ρ2 S2 = some (c, ρ', S'),
    ⟨l.length, Nat.zero_add _, ρ1, F1, A1, S1, R1, R.stp p1, hs, e⟩, fun i m σ2 H2 => ?_⟩
  rintro ⟨him, ρ2, F2, A2, S2, R2, p2, hs2, ef⟩
  obtain ⟨ys, yg⟩ := hy i H2 F2 S2 R2.gs hs2
  by_cases hi : i < l.length
  · refine .inr ?_
    have hd : l[i]? = some l[i] := List.getElem?_eq_getElem hi
    obtain ⟨go, yl⟩ := yg _ hd
    rw [List.drop_eq_getElem_cons hi] at ef
    obtain ⟨⟨c3, ρ3, S3⟩, e3, ef⟩ := Option.bind_eq_some_iff.mp ef
    obtain ⟨ρ4, e4, e5⟩ := Option.bind_eq_some_iff.mp e3
    refine ⟨go, fun σ' H' => ∃ F' A', Rel G H0 F0 ρ3 σ' H' F' A' S3 ∧ Sts G H H' F F' As A' ∧ P H' F' ∧ (c3 = .nx ∨ c3 = .ct), fun σ' H' ⟨F', A', R', p', hs', hc⟩ => ⟨m - 1, by omega, by omega, ρ3, F', A', S3, R', p', hs', ?_⟩, fun x H3 hyl => ?_⟩
    · rcases hc with rfl | rfl
      · exact ef
      · exact ef
    · obtain ⟨x3, hx⟩ := yl x H3 hyl
      have R3 := R2.ex x3
      have st3 : Sts G H2 H3 F2 F2 A2 A2 := R2.stp (Stp.ext x3)
      refine ⟨H0, F0, ρ2, F2, A2, S2, l[i], ρ4, R3, hx, e4, fun σ4 A4 _ p4' R4 => ?_⟩
      have p4 := R3.stsLe p4'
      refine ⟨H0, F0, ρ4, F2, A4, S2, c3, ρ3, S3, R4, e5, fun σ5 H5 F5 A5 p5 R5 => ?_⟩
      have pp := ((p2.trans st3).trans p4).trans p5
      cases c3 with
      | nx => exact ⟨F5, A5, R5, pp, (sb.sts R4 p5 (sb.sts R3 p4 (sb.sts R2 st3 hs2))), .inl rfl⟩
      | ct => exact ⟨F5, A5, R5, pp, (sb.sts R4 p5 (sb.sts R3 p4 (sb.sts R2 st3 hs2))), .inr rfl⟩
      | bk =>
        cases ef
        exact k σ5 H5 F5 A5 pp R5
      | rt r =>
        cases ef
        exact k σ5 H5 F5 A5 pp R5
  · refine .inl ⟨ys (by omega), ?_⟩
    rw [List.drop_eq_nil_of_le (by omega)] at ef
    cases ef
    exact k σ2 H2 F2 A2 p2 R2
theorem ds_for {f : SA Sg} {t : TD} {b : SS Sg} {body : List Stmt} (hp : PassesOwn (model X.prog X.w) X.A X.env X.xe) (hc : X.calm = true) (hi : PI X tg iter (tIt G f)) {vs : List Nat} (hg : PG X tg (gD G vs t)) (hb : PSs X body (tSs G b))
    (hs : ∀ x, foldedSetIterable iter X.env x = pure x := by intro _; rfl) : PS X (.For tg iter body [] pos) (tSs G (sFor f t b)) := PS.mono' (ps_for hp hc hi hg hb hs) for_le

/-- while: n turns at the most -/
def whileD (t : ST Sg) (b : SS Sg) : Nat → SS Sg
  | 0, _, _ => none
  | n + 1, ρ, S => (t ρ S).bind fun p => if p.1 = true then (b p.2.1 p.2.2).bind fun q => match q.1 with
    | .nx => whileD t b n q.2.1 q.2.2
    | .ct => whileD t b n q.2.1 q.2.2
    | .bk => some (.nx, q.2.1, q.2.2)
    | .rt r => some (.rt r, q.2.1, q.2.2)
    else some (.nx, p.2.1, p.2.2)
theorem while_le {t : ST Sg} {b : SS Sg} {n : Nat} : ∀ D σ H, tSs G (whileD t b n) D σ H → tWhile (tT G t) (tSs G b) D σ H := by
  rintro D σ H ⟨H0, F0, ρ, F, As, S, c, ρ', S', R, e, k⟩
  refine ⟨fun m σ2 H2 => ∃ ρ2 F2 A2 S2, Rel G H0 F0 ρ2 σ2 H2 F2 A2 S2 ∧ Sts G H H2 F F2 As A2 ∧ whileD t b m ρ2 S2 = some (c, ρ', S'), ⟨n, ρ, F, As, S, R, R.sts, e⟩, fun m σ2 H2 => ?_⟩
  rintro ⟨ρ2, F2, A2, S2, R2, p2, ef⟩
  cases m with
  | zero => cases ef
  | succ m =>
    obtain ⟨⟨b3, ρ3, S3⟩, e3, ef⟩ := Option.bind_eq_some_iff.mp ef
    refine ⟨H0, F0, ρ2, F2, A2, S2, b3, ρ3, S3, R2, e3, fun H3 F3 A3 p3 R3 => ?_⟩
    cases b3 with
    | false =>
      rw [if_neg Bool.false_ne_true] at ef ⊢
      cases ef
      exact k σ2 H3 F3 A3 (p2.trans (R2.stp p3)) R3
    | true =>
      rw [if_pos rfl] at ef ⊢
      obtain ⟨⟨c4, ρ4, S4⟩, e4, ef⟩ := Option.bind_eq_some_iff.mp ef
      refine ⟨fun σ' H' => ∃ F' A', Rel G H0 F0 ρ4 σ' H' F' A' S4 ∧ Sts G H H' F F' As A' ∧ (c4 = .nx ∨ c4 = .ct), fun σ' H' ⟨F', A', R', p', hc⟩ => ⟨m, Nat.lt_succ_self m, ρ4, F', A', S4, R', p', ?_⟩, ?_⟩
      · rcases hc with rfl | rfl
        · exact ef
        · exact ef
      · refine ⟨H0, F0, ρ3, F3, A3, S3, c4, ρ4, S4, R3, e4, fun σ5 H5 F5 A5 p5 R5 => ?_⟩
        have pp := (p2.trans (R2.stp p3)).trans p5
        cases c4 with
        | nx => exact ⟨F5, A5, R5, pp, .inl rfl⟩
        | ct => exact ⟨F5, A5, R5, pp, .inr rfl⟩
        | bk => cases ef; exact k σ5 H5 F5 A5 pp R5
        | rt r => cases ef; exact k σ5 H5 F5 A5 pp R5
theorem ds_while {t : ST Sg} {b : SS Sg} {body : List Stmt} (n : Nat) (hp : PassesOwn (model X.prog X.w) X.A X.env X.xe) (hc : PT X c (tT G t)) (hb : PSs X body (tSs G b)) : PS X (.While c body [] pos) (tSs G (whileD t b n)) := PS.mono' (ps_while hp hc hb) while_le

/-! ### iterables -/
def iLst (f : SE Sg) : SA Sg := fun ρ S => (f ρ S).bind fun p => (frz p.1).bind fun d => match d with
  | .lst l => some (l, p.2.1, p.2.2)
  | _ => none
def iTpl (f : SE Sg) : SA Sg := fun ρ S => (f ρ S).bind fun p => match p.1.d with
  | .tup _ l => some (l, p.2.1, p.2.2)
  | _ => none
theorem it_list {f : SE Sg} (hK : G.K = X.K) (he : PE X iter (tE G f)) : PI X tg iter (tIt G (iLst f)) := by
  refine PI.mono' (pi_list he) ?_
  rintro σ H R ⟨H0, F0, ρ, F, As, S, l, ρ', S', Rl, e, k⟩
  obtain ⟨⟨r1, ρ1, S1⟩, e1, e⟩ := Option.bind_eq_some_iff.mp e
  obtain ⟨d, ed, e⟩ := Option.bind_eq_some_iff.mp e
  refine ⟨H0, F0, ρ, F, As, S, r1, ρ1, S1, Rl, e1, fun v1 H1 F1 A1 p1 R1 h1 => ?_⟩
  obtain ⟨F1', g1, gg1, R1', h1'⟩ := R1.frz h1 ed
  cases d with
  | lst l' =>
    cases e
    have h2 := h1'
    obtain ⟨a, vs, rfl, s, _, z, r⟩ := h2
    refine ⟨a, rfl, ⟨vs, .inl (.inl s)⟩, k (Itl X.K a) _ H1 F1' A1 (p1.frz g1 gg1) R1' (stb_rps (ds := [.lst l]) (vs := [.ref a])) (Rps.one h1') fun i H2 F2 S2 g2 hs => ?_⟩
    obtain ⟨v2, r2, e2, hs, _⟩ := hs
    cases e2
    obtain ⟨a2, vs2, e3, s2, _, z2, rr⟩ := hs
    cases e3
    have s2' : SqL X.K H2 a vs2 := .inl (.inl s2)
    refine ⟨fun hl => ⟨vs2, s2', by rw [rr.length]; exact hl⟩, fun d hd => ?_⟩
    obtain ⟨v, ev, hv⟩ := rr.get hd
    refine ⟨⟨vs2, v, s2', ev⟩, fun x H3 hy => ?_⟩
    obtain ⟨e5, hy⟩ := hy
    subst e5
    have := hy vs2 s2'
    rw [ev] at this; cases this
    exact ⟨Ext.refl, hv⟩
  | _ => cases e
theorem it_tup {f : SE Sg} (hK : G.K = X.K) (he : PE X iter (tE G f)) : PI X tg iter (tIt G (iTpl f)) := by
  refine PI.mono' (pi_tup he) ?_
  rintro σ H R ⟨H0, F0, ρ, F, As, S, l, ρ', S', Rl, e, k⟩
  obtain ⟨⟨r1, ρ1, S1⟩, e1, e⟩ := Option.bind_eq_some_iff.mp e
  refine ⟨H0, F0, ρ, F, As, S, r1, ρ1, S1, Rl, e1, fun v1 H1 F1 A1 p1 R1 h1 => ?_⟩
  have hb := h1.rb
  dsimp only at e
  cases q : r1.d with
  | tup xx l' =>
    rw [q] at e hb
    cases e
    have h2 := hb
    obtain ⟨a, vs, rfl, ⟨s, _⟩, z, r⟩ := h2
    refine ⟨a, rfl, ⟨vs, hK ▸ s⟩, k (Itt X.K a) _ H1 F1 A1 p1 R1 (stb_rps (ds := [.tup xx l]) (vs := [.ref a])) (Rps.one hb) fun i H2 F2 S2 g2 hs => ?_⟩
    obtain ⟨v2, r2, e2, hs, _⟩ := hs
    cases e2
    obtain ⟨a2, vs2, e3, ⟨s2, _⟩, z2, rr⟩ := hs
    cases e3
    have s2' : SqT X.K H2 a vs2 := hK ▸ s2
    refine ⟨fun hl => ⟨vs2, s2', by rw [rr.length]; exact hl⟩, fun d hd => ?_⟩
    obtain ⟨v, ev, hv⟩ := rr.get hd
    refine ⟨⟨vs2, v, s2', ev⟩, fun x H3 hy => ?_⟩
    obtain ⟨e5, hy⟩ := hy
    subst e5
    have := hy vs2 s2'
    rw [ev] at this; cases this
    exact ⟨Ext.refl, hv⟩
  | _ => rw [q] at e; cases e
/-- lo, lo + 1, .. n of them -/
def rangeD (lo : Int) (n : Nat) : List D := (List.range n).map fun (i : Nat) => .int (lo + (i : Int))
theorem yl_range {lo : Int} {n : Nat} : Yl G (Itr lo n) (rangeD lo n) (fun _ _ => True) := fun i H F S g _ => by
  have hl : (rangeD lo n).length = n := by unfold rangeD; rw [List.length_map, List.length_range]
  refine ⟨fun h => by rw [hl] at h; exact h, fun d hd => ?_⟩
  have hi : i < n := by
    have := (List.getElem?_eq_some_iff.mp hd).1
    omega
  have ed : d = .int (lo + (i : Int)) := by
    unfold rangeD at hd
    rw [List.getElem?_map, List.getElem?_range hi] at hd
    exact (Option.some.inj hd).symm
  refine ⟨hi, fun x H' hy => ?_⟩
  obtain ⟨e1, e2⟩ := hy
  subst e1 e2 ed
  exact ⟨Ext.refl, rfl⟩
def iR1 (f : SA Sg) : SA Sg := fun ρ S => (f ρ S).bind fun p => match p.1 with
  | [.int j] => if -(2 ^ 62) ≤ j ∧ j < 2 ^ 62 then some (rangeD 0 j.toNat, p.2.1, p.2.2) else none
  | _ => none
def iR2 (f : SA Sg) : SA Sg := fun ρ S => (f ρ S).bind fun p => match p.1 with
  | [.int i, .int j] => if -(2 ^ 62) ≤ i ∧ i < 2 ^ 62 ∧ -(2 ^ 62) ≤ j ∧ j < 2 ^ 62 then some (rangeD i (j - i).toNat, p.2.1, p.2.2) else none
  | _ => none
theorem it_range1 {f : SA Sg} {p : Pos} (hg : Gl X "range") (hm : X.mg "range" = none) (ha : PA X [a] (tAB G f)) (hs : starEach [a] X.env = [(false, eval a X.env)] := by rfl) : PI X tg (.Call (.Name "range" p) [a] [] pos) (tIt G (iR1 f)) := by
  refine PI.mono' (pi_range1 hg hm ha hs) ?_
  rintro σ H R ⟨H0, F0, ρ, F, As, S, l, ρ', S', Rl, e, k⟩
  obtain ⟨⟨ds, ρ1, S1⟩, e1, e⟩ := Option.bind_eq_some_iff.mp e
  refine ⟨H0, F0, ρ, F, As, S, ds, ρ1, S1, Rl, e1, fun vs H1 F1 A1 p1 R1 h1 => ?_⟩
  match ds, e, h1 with
  | [.int j], e, h1 =>
    obtain ⟨v, r, rfl, hv, rfl⟩ := h1
    have hv : v = .int j := hv
    subst hv
    dsimp only at e
    by_cases h : -(2 ^ 62) ≤ j ∧ j < 2 ^ 62
    · rw [if_pos h] at e; cases e
      exact ⟨j, rfl, h.1, h.2, k _ _ H1 F1 A1 p1 R1 stb_true trivial yl_range⟩
    · rw [if_neg h] at e; cases e
theorem it_range2 {f : SA Sg} {p : Pos} (hg : Gl X "range") (hm : X.mg "range" = none) (ha : PA X [a, b] (tAB G f)) (hs : starEach [a, b] X.env = [(false, eval a X.env), (false, eval b X.env)] := by rfl) (hs2 : starEach [b] X.env = [(false, eval b X.env)] := by rfl) :
    PI X tg (.Call (.Name "range" p) [a, b] [] pos) (tIt G (iR2 f)) := by
  refine PI.mono' (pi_range2 hg hm ha hs hs2) ?_
  rintro σ H R ⟨H0, F0, ρ, F, As, S, l, ρ', S', Rl, e, k⟩
  obtain ⟨⟨ds, ρ1, S1⟩, e1, e⟩ := Option.bind_eq_some_iff.mp e
  refine ⟨H0, F0, ρ, F, As, S, ds, ρ1, S1, Rl, e1, fun vs H1 F1 A1 p1 R1 h1 => ?_⟩
  match ds, e, h1 with
  | [.int i, .int j], e, h1 =>
    obtain ⟨v, r, rfl, hv, v2, r2, rfl, hv2, rfl⟩ := h1
    have hv : v = .int i := hv
    have hv2 : v2 = .int j := hv2
    subst hv hv2
    dsimp only at e
    by_cases h : -(2 ^ 62) ≤ i ∧ i < 2 ^ 62 ∧ -(2 ^ 62) ≤ j ∧ j < 2 ^ 62
    · rw [if_pos h] at e; cases e
      exact ⟨i, j, rfl, h, k _ _ H1 F1 A1 p1 R1 stb_true trivial yl_range⟩
    · rw [if_neg h] at e; cases e
end
end Dv
end
section
set_option maxHeartbeats 4000000
namespace Dv
open PySem PySem.Spec PyProof.Rows L2
variable {Sg : Type}

section
variable {G : Gd Sg} {H0 H H' : Hp} {F0 F F' : Addr → Prop} {ρ : En} {σ : L2.St} {As As' : Nat → Option Addr} {S : Sg} {p : Addr} {o o' : HO}
theorem Ow.updO {a : Addr} {d : D} (hp : H p = some o) (m : Mu o) (nf : ¬ F p) (h : Ow G H F a d) (ne : a ≠ p) : Ow G (upd H p o') F a d := by
  cases d with
  | lst l =>
    obtain ⟨vs, s, r⟩ := h
    exact ⟨vs, by rw [upd_ne ne]; exact s, r.updO hp m nf⟩
  | dct ks l =>
    obtain ⟨kvs, s, k, r⟩ := h
    exact ⟨kvs, by rw [upd_ne ne]; exact s, k, r.updO hp m nf⟩
  | dtt ks l =>
    obtain ⟨kvs, s, k, r⟩ := h
    exact ⟨kvs, by rw [upd_ne ne]; exact s, k, r.updO hp m nf⟩
  | _ => exact (show False from h).elim
theorem Gs.updO (g : Gs G H F S) (nf : ¬ F p) (nz : ¬ G.Z p) : Gs G (upd H p o') F S :=
  ⟨fun a f => by
    obtain ⟨u, e⟩ := g.trk a f
    exact ⟨u, by rw [upd_ne (show a ≠ p from fun q => nf (q ▸ f))]; exact e⟩, g.nZ, G.frame S H _ g.amb fun a z => upd_ne fun q => nz (q ▸ z)⟩
/-- one that no slot owns -/
theorem Rel.updO (R : Rel G H0 F0 ρ σ H F As S) (hp : H p = some o) (m : Mu o) (nf : ¬ F p) (nz : ¬ G.Z p) (na : ∀ i, As i ≠ some p) (n0 : H0 p = none) : Rel G H0 F0 ρ σ (upd H p o') F As S :=
  ⟨R.gs.updO nf nz, R.len, fun i sl e => by
    obtain ⟨w, e2, h⟩ := R.slot i sl e
    refine ⟨w, e2, ?_⟩
    cases sl with
    | non => exact h
    | im d =>
      obtain ⟨e3, v, e4, r⟩ := h
      exact ⟨e3, v, e4, r.updO hp m nf⟩
    | ow d =>
      obtain ⟨a, e3, e4, r⟩ := h
      exact ⟨a, e3, e4, r.updO hp m nf fun q => na i (q ▸ e3)⟩, R.none_, R.inj, R.nF, R.new, fun a u e z => by
    rw [upd_ne (fun q => by rw [q, n0] at e; cases e)]
    exact R.base a u e z, R.bF⟩
/-- a slot's own -/
theorem Rel.mut (R : Rel G H0 F0 ρ σ H F As S) {i : Nat} {d d' : D} (hi : ρ[i]? = some (.ow d)) (ea : As i = some p) (m : Mu o') (ow : Ow G (upd H p o') F p d') : Rel G H0 F0 (ρ.set i (.ow d')) σ (upd H p o') F As S ∧ Sts G H (upd H p o') F F As As := by
  obtain ⟨nf, nz⟩ := R.nF i p ea
  have m1 : ∃ o, H p = some o ∧ Mu o := by
    rcases R.owned ea with ⟨vs, q⟩ | ⟨kvs, q⟩ | ⟨kvs, q⟩
    · exact ⟨_, q, .inl ⟨vs, rfl⟩⟩
    · exact ⟨_, q, .inr (.inl ⟨kvs, rfl⟩)⟩
    · exact ⟨_, q, .inr (.inr ⟨kvs, rfl⟩)⟩
  obtain ⟨o, hp, mo⟩ := m1
  have li := (List.getElem?_eq_some_iff.mp hi).1
  refine ⟨⟨R.gs.updO nf nz, by rw [List.length_set]; exact R.len, fun j sl e => ?_, fun j e => ?_, R.inj, R.nF, R.new, fun a u e z => ?_, R.bF⟩, ⟨fun a u e z n => ?_, fun _ q => q, fun _ q _ => .inl q, fun j a q => ⟨(R.nF j a q).2, .inl ⟨j, q⟩⟩⟩⟩
  · by_cases hj : j = i
    · subst hj
      rw [List.getElem?_set_self li] at e; cases e
      obtain ⟨w, e2, a, e3, e4, _⟩ := R.slot j _ hi
      rw [ea] at e3; cases e3
      exact ⟨w, e2, p, ea, e4, ow⟩
    · rw [List.getElem?_set_ne (Ne.symm hj)] at e
      obtain ⟨w, e2, h⟩ := R.slot j sl e
      refine ⟨w, e2, ?_⟩
      cases sl with
      | non => exact h
      | im d =>
        obtain ⟨e3, v, e4, r⟩ := h
        exact ⟨e3, v, e4, r.updO hp mo nf⟩
      | ow d =>
        obtain ⟨a, e3, e4, r⟩ := h
        exact ⟨a, e3, e4, r.updO hp mo nf fun q => hj (R.inj j i p (q ▸ e3) ea)⟩
  · have hj : j ≠ i := fun z => by
      subst z
      rw [List.getElem?_set_self li] at e; cases e
    rw [List.getElem?_set_ne (Ne.symm hj)] at e
    exact R.none_ j e
  · rw [upd_ne (fun q => by rw [q, R.new i p ea] at e; cases e)]
    exact R.base a u e z
  · rw [upd_ne (show a ≠ p from fun q => n i (q ▸ ea))]
    exact e
end

section
variable {X : Cx} {G : Gd Sg} {e a b c tg iter elt : Expr} {pos : Pos}
/-! ### list comprehensions -/
def wipeE (ρ : En) : List Nat → En
  | [] => ρ
  | v :: vs => (wipeE ρ vs).set v .non
theorem wipeE_length (ρ : En) : ∀ vs : List Nat, (wipeE ρ vs).length = ρ.length
  | [] => rfl
  | v :: vs => by unfold wipeE; rw [List.length_set, wipeE_length ρ vs]
def imOf : Option Sl → Sl
  | some (.im d) => .im d
  | _ => .non
/-- the block's names as they stood ahead -/
def backE (ρ ρ' : En) : List Nat → En
  | [] => ρ'
  | v :: vs => (backE ρ ρ' vs).set v (imOf ρ[v]?)
theorem backE_length (ρ ρ' : En) : ∀ vs : List Nat, (backE ρ ρ' vs).length = ρ'.length
  | [] => rfl
  | v :: vs => by unfold backE; rw [List.length_set, backE_length ρ ρ' vs]
section
variable {H0 H H' : Hp} {F0 F F' : Addr → Prop} {ρ ρ' : En} {σ : L2.St} {As As' : Nat → Option Addr} {S S' : Sg}
theorem Rel.wipe : ∀ (is : List Nat), Rel G H0 F0 ρ σ H F As S → ∃ A', (∀ i a, A' i = some a → As i = some a) ∧ Rel G H0 F0 (wipeE ρ is) (L2.wipe σ is) H F A' S
  | [], R => ⟨As, fun _ _ q => q, R⟩
  | i :: is, R => by
    obtain ⟨A1, h1, R1⟩ := Rel.wipe is R
    by_cases hi : i < (wipeE ρ is).length
    · refine ⟨setA A1 i none, fun j a q => ?_, R1.set hi rfl fun a q => nomatch q⟩
      by_cases hj : j = i
      · subst hj; rw [setA_same] at q; cases q
      · rw [setA_ne hj] at q; exact h1 j a q
    · have e1 : (wipeE ρ is).set i .non = wipeE ρ is := List.set_eq_of_length_le (by omega)
      have hl := R1.len
      have e2 : (L2.wipe σ is).set i none = L2.wipe σ is := List.set_eq_of_length_le (by omega)
      refine ⟨A1, h1, ?_⟩
      show Rel G H0 F0 ((wipeE ρ is).set i .non) ((L2.wipe σ is).set i none) H F A1 S
      rw [e1, e2]
      exact R1
/-- back behind the block -/
theorem Rel.back (R : Rel G H0 F0 ρ σ H F As S) (f : Fr G.Z H H') (g : ∀ a, F a → F' a) (is : List Nat) (R' : Rel G H0 F0 ρ' (L2.wipe σ is) H' F' As' S') (hl : ρ'.length = ρ.length) :
    ∃ A2, (∀ i a, A2 i = some a → As' i = some a) ∧ Rel G H0 F0 (backE ρ ρ' is) σ H' F' A2 S' := by
  have key : ∀ js : List Nat, (∀ j ∈ js, j ∈ is) → ∃ A2 σ2, (∀ i a, A2 i = some a → As' i = some a) ∧ Rel G H0 F0 (backE ρ ρ' js) σ2 H' F' A2 S' ∧ σ2.length = σ.length ∧ ∀ i, σ2[i]? = if i ∈ js then σ[i]? else (L2.wipe σ is)[i]? := by
    intro js
    induction js with
    | nil => intro _; exact ⟨As', L2.wipe σ is, fun _ _ q => q, R', L2.wipe_length σ is, fun i => by rw [if_neg (by simp)]⟩
    | cons j js ih =>
      intro hj
      obtain ⟨A2, σ2, h2, R2, l2, g2⟩ := ih fun k hk => hj k (List.mem_cons_of_mem _ hk)
      have hR := R.len
      by_cases hlt : j < ρ.length
      · have hq : ρ[j]? = some ρ[j] := List.getElem?_eq_getElem hlt
        obtain ⟨w, e2, h⟩ := R.slot j _ hq
        have hs : SlotOk G H' F' none (imOf ρ[j]?) w := by
          rw [hq]
          cases hsl : ρ[j] with
          | non => exact rfl
          | ow d => exact rfl
          | im d =>
            rw [hsl] at h
            obtain ⟨_, v, e4, r⟩ := h
            exact ⟨rfl, v, e4, r.fr f g⟩
        refine ⟨setA A2 j none, σ2.set j w, fun i a q => ?_, R2.set (i := j) (by rw [backE_length]; omega) hs (fun a q => nomatch q), by rw [List.length_set]; exact l2, fun i => ?_⟩
        · by_cases hi : i = j
          · subst hi; rw [setA_same] at q; cases q
          · rw [setA_ne hi] at q; exact h2 i a q
        · by_cases hi : i = j
          · subst hi
            rw [if_pos List.mem_cons_self, List.getElem?_set_self (by omega), e2]
          · rw [List.getElem?_set_ne (Ne.symm hi), g2 i]
            by_cases hm : i ∈ js
            · rw [if_pos hm, if_pos (List.mem_cons_of_mem _ hm)]
            · rw [if_neg hm, if_neg (fun z => hm ((List.mem_cons.mp z).resolve_left hi))]
      · refine ⟨A2, σ2, h2, ?_, l2, fun i => ?_⟩
        · have e1 : (backE ρ ρ' js).set j (imOf ρ[j]?) = backE ρ ρ' js := List.set_eq_of_length_le (by rw [backE_length]; omega)
          show Rel G H0 F0 ((backE ρ ρ' js).set j (imOf ρ[j]?)) σ2 H' F' A2 S'
          rw [e1]
          exact R2
        · rw [g2 i]
          by_cases hi : i = j
          · subst hi
            have z : σ[i]? = none := List.getElem?_eq_none (by omega)
            have z2 : (L2.wipe σ is)[i]? = none := List.getElem?_eq_none (by rw [L2.wipe_length]; omega)
            rw [z, z2]
            split <;> (first | rfl | (split <;> rfl))
          · by_cases hm : i ∈ js
            · rw [if_pos hm, if_pos (List.mem_cons_of_mem _ hm)]
            · rw [if_neg hm, if_neg (fun z => hm ((List.mem_cons.mp z).resolve_left hi))]
  obtain ⟨A2, σ2, h2, R2, l2, g2⟩ := key is fun _ h => h
  have es : σ2 = σ := by
    apply List.ext_getElem?
    intro i
    rw [g2 i]
    by_cases hm : i ∈ is
    · rw [if_pos hm]
    · rw [if_neg hm, wipe_get, if_neg (fun z => hm z.1)]
  subst es
  exact ⟨A2, h2, R2⟩
end
def compD (t : TD) (c : ST Sg) (el : SE Sg) (own : List Nat) : List D → En → Sg → Option (List D × En × Sg)
  | [], ρ, S => some ([], ρ, S)
  | d :: l, ρ, S => (t d ρ).bind fun ρ1 => (c ρ1 S).bind fun p => if p.1 = true then (el p.2.1 p.2.2).bind fun q => (frz q.1).bind fun y => (compD t c el own l (wipeE q.2.1 own) q.2.2).bind fun z => some (y :: z.1, z.2)
    else compD t c el own l (wipeE p.2.1 own) p.2.2
def eComp (f : SA Sg) (t : TD) (c : ST Sg) (el : SE Sg) (own : List Nat) : SE Sg := fun ρ S => (f ρ S).bind fun p => (compD t c el own p.1 (wipeE p.2.1 own) p.2.2).bind fun q =>
  if q.1.length ≤ sizeLine ∧ q.2.1.length = p.2.1.length then some (.nw (.lst q.1), backE p.2.1 q.2.1 own, q.2.2) else none
theorem comp_le {f : SA Sg} {t : TD} {c : ST Sg} {el : SE Sg} {own : List Nat} : ∀ σ H Q, tE G (eComp f t c el own) σ H Q → tLc (tIt G f) (gD G own t) (tT G c) (tE G el) own σ H Q := by
  rintro σ H Q ⟨H0, F0, ρ, F, As, S, r, ρ', S', R, e, k⟩
  obtain ⟨⟨l, ρ1, S1⟩, e1, e⟩ := Option.bind_eq_some_iff.mp e
  obtain ⟨⟨ys, ρf, Sf⟩, e2, e⟩ := Option.bind_eq_some_iff.mp e
  dsimp only at e
  by_cases hz : ys.length ≤ sizeLine ∧ ρf.length = ρ1.length
  · rw [if_pos hz] at e; cases e
    refine ⟨H0, F0, ρ, F, As, S, l, ρ1, S1, R, e1, fun J P H1 F1 A1 p1 R1 sb hs hy L hL => ?_⟩
    obtain ⟨A1w, hA1w, R1w⟩ := Rel.wipe own R1
    have fL := R1.gs.fresh hL
    have n0 := R1.old hL
    have nA := R1.nnew hL
    refine ⟨fun i m H2 => i + m = l.length ∧ ∃ ρ2 F2 A2 S2 acc vacc yr, Rel G H0 F0 ρ2 (wipe σ own) H2 F2 A2 S2 ∧ Fr G.Z H1 H2 ∧ (∀ a, F1 a → F2 a) ∧ (∀ a, F2 a → ¬ G.Z a → F1 a ∨ H1 a = none ∨ ∃ j, A1 j = some a) ∧ (∀ i a, A2 i = some a → A1 i = some a) ∧ P H2 F2 ∧ ¬ F2 L ∧
        H2 L = some (.lst vacc) ∧ Rps G H2 F2 acc vacc ∧ compD t c el own (l.drop i) ρ2 S2 = some (yr, ρf, S') ∧ acc ++ yr = ys,
      ⟨l.length, Nat.zero_add _, wipeE ρ1 own, F1, A1w, S1, [], [], ys, R1w.ex (Ext.upd hL), Fr.upd hL, fun _ q => q, fun _ q _ => .inl q, hA1w, sb.fr (Fr.upd hL) (fun _ q => q) hs, fL.1, upd_same, rfl, e2, rfl⟩, fun i m H2 => ?_⟩
    rintro ⟨him, ρ2, F2, A2, S2, acc, vacc, yr, R2, fr2, g2, gg2, a2, hs2, nF2, hL2, hacc, ef, eys⟩
    have na2 : ∀ i, A2 i ≠ some L := fun i q => nA i (a2 i L q)
    obtain ⟨yst, yg⟩ := hy i H2 F2 S2 R2.gs hs2
    by_cases hi : i < l.length
    · refine .inr ?_
      have hd : l[i]? = some l[i] := List.getElem?_eq_getElem hi
      obtain ⟨go, yl⟩ := yg _ hd
      rw [List.drop_eq_getElem_cons hi] at ef
      obtain ⟨ρ3, e3, ef⟩ := Option.bind_eq_some_iff.mp ef
      obtain ⟨⟨b4, ρ4, S4⟩, e4, ef⟩ := Option.bind_eq_some_iff.mp ef
      refine ⟨go, fun H5 => (i + 1) + (m - 1) = l.length ∧ ∃ ρ2 F2 A2 S2 acc vacc yr, Rel G H0 F0 ρ2 (wipe σ own) H5 F2 A2 S2 ∧ Fr G.Z H1 H5 ∧ (∀ a, F1 a → F2 a) ∧ (∀ a, F2 a → ¬ G.Z a → F1 a ∨ H1 a = none ∨ ∃ j, A1 j = some a) ∧ (∀ i a, A2 i = some a → A1 i = some a) ∧ P H5 F2 ∧ ¬ F2 L ∧
        H5 L = some (.lst vacc) ∧ Rps G H5 F2 acc vacc ∧ compD t c el own (l.drop (i + 1)) ρ2 S2 = some (yr, ρf, S') ∧ acc ++ yr = ys, fun H5 h5 => ⟨m - 1, by omega, h5⟩, fun x H3 hyl => ?_⟩
      obtain ⟨x3, hx⟩ := yl x H3 hyl
      have fr3 : Fr G.Z H2 H3 := fun a o e _ => x3 a o e
      refine ⟨H0, F0, ρ2, F2, A2, S2, l[i], ρ3, R2.ex x3, hx, e3, fun σ3 A3 w3 p3 R3 => ⟨w3.trans ?_, ?_⟩⟩
      · apply List.ext_getElem?
        intro j
        rw [wipe_get, wipe_get, wipe_length]
        by_cases hm : j ∈ own ∧ j < σ.length
        · rw [if_pos hm, if_pos hm]
        · rw [if_neg hm, if_neg hm]
      refine ⟨H0, F0, ρ3, F2, A3, S2, b4, ρ4, S4, R3, e4, fun H4 F4 A4 p4 R4 => ?_⟩
      have fin : ∀ {ρ5 : En} {H5 : Hp} {F5 : Addr → Prop} {A5 : Nat → Option Addr} {S5 : Sg}, Stp G H3 H5 F2 F5 A3 A5 → Rel G H0 F0 ρ5 σ3 H5 F5 A5 S5 →
          ∃ A6, Rel G H0 F0 (wipeE ρ5 own) (wipe σ own) H5 F5 A6 S5 ∧ Fr G.Z H1 H5 ∧ (∀ a, F1 a → F5 a) ∧ (∀ i a, A6 i = some a → A5 i = some a) ∧ P H5 F5 ∧ H5 L = some (.lst vacc) ∧ Rps G H5 F5 acc vacc := fun {ρ5 H5 F5 A5 S5} p5 R5 => by
        obtain ⟨A6, h6, R6⟩ := Rel.wipe own R5
        have ew : wipe σ3 own = wipe σ own := w3.trans (by
          apply List.ext_getElem?
          intro j
          rw [wipe_get, wipe_get, wipe_length]
          by_cases hm : j ∈ own ∧ j < σ.length
          · rw [if_pos hm, if_pos hm]
          · rw [if_neg hm, if_neg hm])
        rw [ew] at R6
        exact ⟨A6, R6, (fr2.trans fr3).trans p5.fr, fun a q => p5.fF a (g2 a q), h6, sb.fr p5.fr p5.fF (sb.fr fr3 (fun _ q => q) hs2), p5.fr _ _ (x3 _ _ hL2) fL.2, (hacc.fr fr3 fun _ q => q).fr p5.fr p5.fF⟩
      have nL : ∀ {H5 : Hp} {F5 : Addr → Prop} {A5 : Nat → Option Addr}, Stp G H3 H5 F2 F5 A3 A5 → ¬ F5 L := fun {H5 F5 A5} p5 q => by
        rcases p5.gF L q fL.2 with z | z | ⟨j, z⟩
        · exact nF2 z
        · rw [x3 _ _ hL2] at z; cases z
        · exact na2 j (p3 j L z)
      have gg : ∀ {H5 : Hp} {F5 : Addr → Prop} {A5 : Nat → Option Addr}, Stp G H3 H5 F2 F5 A3 A5 → ∀ a, F5 a → ¬ G.Z a → F1 a ∨ H1 a = none ∨ ∃ j, A1 j = some a := fun {H5 F5 A5} p5 a q z => by
        rcases p5.gF a q z with y | y | ⟨j, y⟩
        · exact gg2 a y z
        · cases e : H1 a with
          | none => exact .inr (.inl rfl)
          | some o => rw [fr3 a o (fr2 a o e z) z] at y; cases y
        · exact .inr (.inr ⟨j, a2 j a (p3 j a y)⟩)
      cases b4 with
      | false =>
        rw [if_neg Bool.false_ne_true] at ef
        obtain ⟨A6, R6, f6, g6, h6, s6, l6, c6⟩ := fin p4 R4
        exact ⟨by omega, wipeE ρ4 own, F4, A6, S4, acc, vacc, yr, R6, f6, g6, gg p4, fun i a q => a2 i a (p3 i a (p4.as i a (h6 i a q))), s6, nL p4, l6, c6, ef, eys⟩
      | true =>
        rw [if_pos rfl] at ef
        obtain ⟨⟨r5, ρ5, S5⟩, e5, ef⟩ := Option.bind_eq_some_iff.mp ef
        obtain ⟨y, ey, ef⟩ := Option.bind_eq_some_iff.mp ef
        obtain ⟨⟨zs, ρz, Sz⟩, ez, ef⟩ := Option.bind_eq_some_iff.mp ef
        cases ef
        refine ⟨H0, F0, ρ4, F4, A4, S4, r5, ρ5, S5, R4, e5, fun v5 H5 F5 A5 p5 R5 h5 => ?_⟩
        obtain ⟨F5', g5, gg5, R5', h5'⟩ := R5.frz h5 ey
        have P := p4.trans (p5.frz g5 gg5)
        obtain ⟨A6, R6, f6, g6, h6, s6, l6, c6⟩ := fin P R5'
        have mL : Mu (.lst vacc) := .inl ⟨vacc, rfl⟩
        have na6 : ∀ i, A6 i ≠ some L := fun i q => na2 i (p3 i L (P.as i L (h6 i L q)))
        have lz : vacc.length < sizeLine := by
          have z1 := c6.length
          have z2 : ys.length = acc.length + (y :: zs).length := by rw [← eys, List.length_append]
          have z3 : (y :: zs).length = zs.length + 1 := rfl
          have z4 := hz.1
          omega
        refine ⟨vacc, l6, lz, by omega, wipeE ρ5 own, F5', A6, S5, acc ++ [y], vacc ++ [v5], zs, R6.updO l6 mL (nL P) fL.2 na6 n0, fun b o q z => ?_, g6, gg P, fun i a q => a2 i a (p3 i a (P.as i a (h6 i a q))), sb.up l6 mL (nL P) s6, nL P, upd_same, (c6.app (Rps.one h5')).updO l6 mL (nL P), ez, ?_⟩
        · have nb : b ≠ L := fun z => by rw [z, hL] at q; cases q
          rw [upd_ne nb]
          exact f6 b o q z
        · rw [List.append_assoc]
          exact eys
    · refine .inl ⟨yst (by omega), ?_⟩
      rw [List.drop_eq_nil_of_le (by omega)] at ef
      cases ef
      rw [List.append_nil] at eys
      subst eys
      obtain ⟨A7, h7, R7⟩ := Rel.back R1 fr2 g2 own R2 hz.2
      have P : Stp G H H2 F F2 As A7 := p1.trans ⟨fr2, g2, gg2, fun i a q => a2 i a (h7 i a q)⟩
      exact k (.ref L) H2 F2 A7 P R7 (RepR.back p1 ⟨L, rfl, ⟨vacc, hL2, hacc⟩, nF2, fL.2, fun i q => na2 i (h7 i L q), n0, .inl hL⟩)
  · rw [if_neg hz] at e; cases e
end
end Dv
end
section
set_option maxHeartbeats 4000000
namespace Dv
open PySem PySem.Spec PyProof.Rows L2
variable {Sg : Type}
section
variable {X : Cx} {G : Gd Sg} {e a b c tg iter elt : Expr} {es : List Expr} {pos : Pos}
/-! ### comprehensions: the rules -/
def cYes : ST Sg := fun ρ S => some (true, ρ, S)
theorem PTs.mono' {ifs : List Expr} {t t' : TT} (h : PTs X ifs t) (i : ∀ σ H Q, t' σ H Q → t σ H Q) : PTs X ifs t' := ⟨fun pins s σ H Q I q => h.run pins s σ H Q I (i _ _ _ q)⟩
theorem ts_nil : PTs X [] (tT G cYes) := by
  refine PTs.mono' pts_nil ?_
  rintro σ H Q ⟨H0, F0, ρ, F, As, S, b, ρ', S', R, e, k⟩
  cases e
  exact k H F As Stp.refl R
theorem ts_one {t : ST Sg} (h : PT X c (tT G t)) : PTs X [c] (tT G t) := pts_one h
theorem pd_comp {ifs : List Expr} {scope : Scope} {own : List (Str × Nat)} {f : SA Sg} {t : TD} {cc : ST Sg} {el : SE Sg} (hc : X.calm = true) (hN : X.N.Nodup) (hi : PI X tg iter (tIt G f)) (ok : BlkOk X.N X.env.scope scope own)
    (hg : ∀ (s : Shared) (H : Hp) (C : Addr) (cl : List (Str × Addr)) (fp : List Addr), PG (X.blk s H scope (compEnvC scope cl C X.env) fp) tg (gD G (own.map (·.2)) t)) (ht : ∀ (s : Shared) (H : Hp) (C : Addr) (cl : List (Str × Addr)) (fp : List Addr), PTs (X.blk s H scope (compEnvC scope cl C X.env) fp) ifs (tT G cc))
    (he : ∀ (s : Shared) (H : Hp) (C : Addr) (cl : List (Str × Addr)) (fp : List Addr), PE (X.blk s H scope (compEnvC scope cl C X.env) fp) elt (tE G el)) (hs : ∀ x, foldedSetIterable iter X.env x = pure x := by intro _; rfl) :
    PE X (.ListComp elt [⟨tg, iter, ifs, 0⟩] scope pos) (tE G (eComp f t cc el (own.map (·.2)))) := PE.mono' (pe_lc hc hN hi ok hg ht he hs) comp_le
theorem ds_setLc {i : Nat} {y : Str} {py spos : Pos} {ifs : List Expr} {scope : Scope} {own : List (Str × Nat)} {f : SA Sg} {t : TD} {cc : ST Sg} {el : SE Sg} (hc : X.calm = true) (hN : X.N.Nodup) (hy : X.N[i]? = some y) (hyl : X.env.scope.names.lookup y = some .local)
    (hsw : swapsWith (.ListComp elt [⟨tg, iter, ifs, 0⟩] scope pos) (some (.Name y py)) spos.line X.env = pure true) (hi : PI X tg iter (tIt G f)) (ok : BlkOk X.N X.env.scope scope own)
    (hg : ∀ (s : Shared) (H : Hp) (C : Addr) (cl : List (Str × Addr)) (fp : List Addr), PG (X.blk s H scope (compEnvC scope cl C X.env) fp) tg (gD G (own.map (·.2)) t)) (ht : ∀ (s : Shared) (H : Hp) (C : Addr) (cl : List (Str × Addr)) (fp : List Addr), PTs (X.blk s H scope (compEnvC scope cl C X.env) fp) ifs (tT G cc))
    (he : ∀ (s : Shared) (H : Hp) (C : Addr) (cl : List (Str × Addr)) (fp : List Addr), PE (X.blk s H scope (compEnvC scope cl C X.env) fp) elt (tE G el)) (hs : ∀ x, foldedSetIterable iter X.env x = pure x := by intro _; rfl) :
    PS X (.Assign [.Name y py] (.ListComp elt [⟨tg, iter, ifs, 0⟩] scope pos) spos) (tSs G (sSet i (eComp f t cc el (own.map (·.2))))) :=
  PS.mono' (ps_setLc hc hN hy hyl hsw hi ok hg ht he hs) fun D σ H h => comp_le σ H _ (set_le D σ H h)

/-! ### what changes a slot's own list -/
abbrev SM (Sg : Type) := En → Sg → Option (D × En × Sg)
def tM (G : Gd Sg) (m : SM Sg) : TE := fun σ H Q => ∃ H0 F0 ρ F As S d ρ' S', Rel G H0 F0 ρ σ H F As S ∧ m ρ S = some (d, ρ', S') ∧
  ∀ v H' F' As', Sts G H H' F F' As As' → Rel G H0 F0 ρ' σ H' F' As' S' → Rp G H' F' d v → Q v H'
def MuOk (G : Gd Sg) (r : V → List V → Hp → VK → Prop) (mu : List D → List D → Option (D × List D)) : Prop := ∀ (a : Addr) (l ds : List D) (vs us : List V) (H : Hp) (F : Addr → Prop) (S : Sg) (res : D) (l' : List D) (Q : VK),
  Gs G H F S → H a = some (.lst us) → Rps G H F l us → ¬ F a → Rps G H F ds vs → mu l ds = some (res, l') → (∀ v us', Rps G H F l' us' → Rp G H F res v → Q v (upd H a (.lst us'))) → r (.ref a) vs H Q
def mLst (i : Nat) (mu : List D → List D → Option (D × List D)) (f : SA Sg) : SM Sg := fun ρ S => match ρ[i]? with
  | some (.ow (.lst _)) => (f ρ S).bind fun p => match p.2.1[i]? with
    | some (.ow (.lst l)) => (mu l p.1).bind fun q => some (q.1, p.2.1.set i (.ow (.lst q.2)), p.2.2)
    | _ => none
  | _ => none
theorem mlst_le {i : Nat} {mu : List D → List D → Option (D × List D)} {f : SA Sg} {r : V → List V → Hp → VK → Prop} {t : TA} (hm : MuOk G r mu) (hK : G.K = X.K) (ht : ∀ σ H Q, tAF G f σ H Q → t σ H Q) :
    ∀ σ H Q, tM G (mLst i mu f) σ H Q → tBM X.K "list" r (tVar i) t σ H Q := by
  rintro σ H Q ⟨H0, F0, ρ, F, As, S, d, ρ', S', R, e, k⟩
  unfold mLst at e
  cases q : ρ[i]? with
  | none => rw [q] at e; cases e
  | some sl =>
    rw [q] at e
    cases sl with
    | non => cases e
    | im d => cases e
    | ow d0 =>
      cases d0 with
      | lst l0 =>
        obtain ⟨⟨ds, ρ1, S1⟩, e1, e⟩ := Option.bind_eq_some_iff.mp e
        obtain ⟨w, e2, p, ea, e3, us0, hp, r0⟩ := R.slot i _ q
        subst e3
        refine ⟨.ref p, e2, .inl ⟨rfl, us0, .inl (.inl hp)⟩, ht σ H _ ⟨H0, F0, ρ, F, As, S, ds, ρ1, S1, R, e1, fun vs H1 F1 A1 p1 R1 h1 => ?_⟩⟩
        dsimp only at e
        cases q1 : ρ1[i]? with
        | none => rw [q1] at e; cases e
        | some sl1 =>
          rw [q1] at e
          cases sl1 with
          | non => cases e
          | im d => cases e
          | ow d1 =>
            cases d1 with
            | lst l1 =>
              obtain ⟨⟨res, l'⟩, e4, e⟩ := Option.bind_eq_some_iff.mp e
              cases e
              obtain ⟨w1, e5, p', ea1, e6, us1, hp1, r1⟩ := R1.slot i _ q1
              subst e6
              have epp : p' = p := by
                have := p1.as i p' ea1
                rw [ea] at this; cases this; rfl
              subst epp
              obtain ⟨nf, nz⟩ := R1.nF i _ ea1
              refine hm _ l1 ds vs us1 H1 F1 _ _ l' Q R1.gs hp1 r1 nf h1 e4 fun v us' hl' hres => ?_
              have mo : Mu (HO.lst us1) := .inl ⟨us1, rfl⟩
              obtain ⟨R2, s2⟩ := R1.mut (o' := .lst us') (d' := .lst l') q1 ea1 (.inl ⟨us', rfl⟩) ⟨us', upd_same, hl'.updO hp1 mo nf⟩
              exact k v _ F1 A1 ((R.stp p1).trans s2) R2 (hres.updO hp1 mo nf)
            | _ => cases e
      | _ => cases e
theorem pm_list {i : Nat} {x name : Str} {apos cpos p' : Pos} {id : String} {mu : List D → List D → Option (D × List D)} {f : SA Sg} {r : V → List V → Hp → VK → Prop} (hK : G.K = X.K) (hN : X.N[i]? = some x) (hv : Vis X.env.scope x)
    (pa : PlainAttrs "list") (slot : Slot "list" name id) (hty : typeOf (.builtin id) = pure (.type "method_descriptor")) (hm : MtR X id r) (mo : MuOk G r mu) (ha : PA X (e :: es) (tAF G f))
    (hbase : attributeBase (.Name x p') name X.env (eval (.Name x p') X.env) = eval (.Name x p') X.env := by rfl)
    (hfew : ((backTo cpos (starEach (e :: es) X.env)).all (fun x => !x.1) && (backToKw cpos (keywordEach [] X.env)).all (fun x => x.1.isSome)
      && decide ((e :: es).length + ([] : List Keyword).length + (if ([] : List Keyword).isEmpty then 0 else 1) < 30)) = true := by rfl)
    (hline : (apos.endLine == cpos.line) = true := by rfl) (hs : starEach (e :: es) X.env = (false, eval e X.env) :: starEach es X.env := by rfl) (hplain : (backTo cpos (starEach es X.env)).any (·.1) = false := by rfl)
    (hd : (x == ("__debug__" : Str)) = false := by decide) (hcd : (x == ("__classdict__" : Str)) = false := by decide) :
    PE X (.Call (.Attribute (.Name x p') name apos) (e :: es) [] cpos) (tM G (mLst i mu f)) :=
  PE.mono' (pe_bm pa slot hty hm (pe_var hN hv hd hcd) ha hbase hfew hline hs hplain) (mlst_le mo hK fun _ _ _ h => h)
theorem pm_list0 {i : Nat} {x name : Str} {apos cpos p' : Pos} {id : String} {mu : List D → List D → Option (D × List D)} {r : V → List V → Hp → VK → Prop} (hK : G.K = X.K) (hN : X.N[i]? = some x) (hv : Vis X.env.scope x)
    (pa : PlainAttrs "list") (slot : Slot "list" name id) (hty : typeOf (.builtin id) = pure (.type "method_descriptor")) (hm : MtR X id r) (mo : MuOk G r mu)
    (hbase : attributeBase (.Name x p') name X.env (eval (.Name x p') X.env) = eval (.Name x p') X.env := by rfl) (hline : (apos.endLine == cpos.line) = true := by rfl)
    (hd : (x == ("__debug__" : Str)) = false := by decide) (hcd : (x == ("__classdict__" : Str)) = false := by decide) :
    PE X (.Call (.Attribute (.Name x p') name apos) [] [] cpos) (tM G (mLst i mu aNil)) :=
  PE.mono' (pe_bm0 pa slot hty hm (pe_var hN hv hd hcd) hbase hline) fun σ H Q h => mlst_le (t := tNil) mo hK (fun σ H Q ⟨H0, F0, ρ, F, As, S, ds, ρ', S', R, e, k⟩ => by
    cases e
    exact k [] H F As Stp.refl R rfl) σ H Q h
def sDropM (m : SM Sg) : SS Sg := fun ρ S => (m ρ S).bind fun p => some (.nx, p.2.1, p.2.2)
theorem ds_mexpr {m : SM Sg} (he : PE X e (tM G m)) (hs : swapsWith e none pos.line X.env = pure false := by rfl) : PS X (.Expr e pos) (tSs G (sDropM m)) := by
  refine PS.mono' (ps_expr he hs) ?_
  rintro D σ H ⟨H0, F0, ρ, F, As, S, c, ρ', S', R, e, k⟩
  obtain ⟨⟨d, ρ1, S1⟩, e1, e⟩ := Option.bind_eq_some_iff.mp e
  cases e
  exact ⟨H0, F0, ρ, F, As, S, d, ρ1, S1, R, e1, fun v1 H1 F1 A1 p1 R1 h1 => k σ H1 F1 A1 p1 R1⟩
def sAsgM (t : TD) (m : SM Sg) : SS Sg := fun ρ S => (m ρ S).bind fun p => (t p.1 p.2.1).bind fun ρ2 => some (.nx, ρ2, p.2.2)
theorem ds_masg {t : TD} {m : SM Sg} {is : List Nat} (he : PE X e (tM G m)) (hg : PG X tg (gD G is t)) (hs : swapsWithSole [tg] e pos.line X.env = pure false := by rfl) (hw : swappedStores [tg] e X.env = pure none := by rfl) (h1 : (assignEach [tg] X.env).map (·.2) = [assign tg X.env] := by rfl) :
    PS X (.Assign [tg] e pos) (tSs G (sAsgM t m)) := by
  refine PS.mono' (ps_asg he hg hs hw h1) ?_
  rintro D σ H ⟨H0, F0, ρ, F, As, S, c, ρ', S', R, e, k⟩
  obtain ⟨⟨d, ρ1, S1⟩, e1, e⟩ := Option.bind_eq_some_iff.mp e
  obtain ⟨ρ2, e2, e⟩ := Option.bind_eq_some_iff.mp e
  cases e
  refine ⟨H0, F0, ρ, F, As, S, d, ρ1, _, R, e1, fun v1 H1 F1 A1 p1 R1 h1 => ?_⟩
  exact ⟨H0, F0, ρ1, F1, A1, _, d, _, R1, h1, e2, fun σ2 A2 _ p2 R2 => k σ2 H1 F1 A2 (p1.trans (R1.stsLe p2)) R2⟩
/-! append, extend -/
def muApp : List D → List D → Option (D × List D) := fun l ds => match ds with
  | [d] => if l.length < sizeLine then some (.non, l ++ [d]) else none
  | _ => none
theorem mu_app : MuOk G rAppend muApp := by
  intro a l ds vs us H F S res l' Q g hp r nf h1 e k
  match ds, e, h1 with
  | [d], e, h1 =>
    have e : (if l.length < sizeLine then some (D.non, l ++ [d]) else none) = some (res, l') := e
    by_cases hz : l.length < sizeLine
    · rw [if_pos hz] at e; cases e
      obtain ⟨v, r', rfl, hv, rfl⟩ := h1
      exact ⟨a, us, v, rfl, rfl, hp, by rw [r.length]; exact hz, k .non (us ++ [v]) (r.app (Rps.one hv)) rfl⟩
    · rw [if_neg hz] at e; cases e
/-! x op= e -/
def sAug (i : Nat) (op : D → D → Option Rv) (f : SE Sg) : SS Sg := fun ρ S => match ρ[i]? with
  | some (.im d) => (f ρ S).bind fun p => (op d p.1.d).bind fun r => match r with
    | .im d' => if i < p.2.1.length then some (.nx, p.2.1.set i (.im d'), p.2.2) else none
    | _ => none
  | _ => none
theorem ds_aug {i : Nat} {x : Str} {f : SE Sg} {op : Operator} {r : R2} {sem : D → D → Option Rv} {pos' : Pos} (hN : X.N.Nodup) (hi : X.N[i]? = some x) (hx : Loc X.env.scope x) (he : PE X e (tE G f)) (ho : OpR X (inplaceOp op) r) (hs : Op2 G r sem)
    (hf : X.fn x = true ∨ X.env.scope.names.lookup x = some .local := by first | exact .inl rfl | exact .inr rfl | assumption) : PS X (.AugAssign (.Name x pos') op e pos) (tSs G (sAug i sem f)) := by
  refine PS.mono' (ps_aug (ti := r) hN hi hx he (fun pins s σ H x y v u Q I r1 r2 q => ho pins s σ H x y v u Q I r1 r2 q) hf) ?_
  rintro D σ H ⟨H0, F0, ρ, F, As, S, c, ρ', S', R, e, k⟩
  unfold sAug at e
  cases q : ρ[i]? with
  | none => rw [q] at e; cases e
  | some sl =>
    rw [q] at e
    cases sl with
    | non => cases e
    | ow d => cases e
    | im d =>
      obtain ⟨⟨r1, ρ1, S1⟩, e1, e⟩ := Option.bind_eq_some_iff.mp e
      obtain ⟨rr, e2, e⟩ := Option.bind_eq_some_iff.mp e
      obtain ⟨w, e3, _, v, e4, hv⟩ := R.slot i _ q
      subst e4
      refine ⟨v, e3, H0, F0, ρ, F, As, S, r1, ρ1, S1, R, e1, fun v1 H1 F1 A1 p1 R1 h1 => ?_⟩
      dsimp only at e e2
      cases rr with
      | nw d' => cases e
      | br d' => cases e
      | im d' =>
        dsimp only at e
        by_cases hi : i < ρ1.length
        · rw [if_pos hi] at e; cases e
          refine hs v v1 d r1.d H1 F1 _ _ _ R1.gs (hv.rb.fr p1.fr p1.fF) h1.rb e2 fun z H2 x2 h2 => ?_
          have R2 := R1.ex x2
          have s2 : Sts G H1 H2 F1 F1 A1 A1 := R1.stp (Stp.ext x2)
          exact k _ H2 F1 _ (((R.stp p1).trans s2).trans (R2.stsLe (setA_le (i := i)))) (R2.set (o := none) hi ⟨rfl, z, rfl, h2⟩ fun a q => nomatch q)
        · rw [if_neg hi] at e; cases e
end
end Dv
end
section
set_option maxHeartbeats 4000000
namespace Dv
open PySem PySem.Spec PyProof.Rows L2
variable {Sg : Type}
/-! ### a def, where no repr is under way -/
structure FnG (P : Program) (w : World) (K : PySem.W.Frag) (mg : Str → Option Value) (base : Heap) (k : Nat) (f : Addr) (fd : FuncData) (ps : List Str) (sp : Sp) : Prop where
  len : ∀ vs H Q E, sp vs H Q E → vs.length = ps.length
  go : ∀ (A : Around) (outer : List Env) (s : Shared) (H : Hp) (args : Args) (us : List Value) (vs : List V) (Q : VK) (E : XK), Room k A → A.guards = some [] →
    Env0 P w K mg base A outer s H → BindsTo s fd args (ps.zip us) → Vals vs us → sp vs H Q E → codeAny (model P w) A (.call (.ref f) args) (CR CX0 outer P w H s Q E) s
theorem FnG.of {P : Program} {w : World} {K : PySem.W.Frag} {mg : Str → Option Value} {base : Heap} {x qual : Str} {params : Arguments} {body : List Stmt} {scope : Scope} {dvs : List V} {kws : List (Str × V)} {f : Addr} {fd : FuncData} {N ps : List Str} {k : Nat} {sp : Sp}
    (F : FunD K x qual params body scope dvs kws f fd) (S : FnScope N ps scope) (len : ∀ vs H Q E, sp vs H Q E → vs.length = ps.length)
    (hb : ∀ (cdv : Value) (A : Around) (outer : List Env) (s : Shared) (H : Hp) (vs : List V) (Q : VK) (E : XK), Room k (A.deeper (envOfC qual scope s.heap.objs.size f cdv)) → A.guards = some [] → sp vs H Q E →
      ∃ t, PSs (cxOf CX0 P w K mg base N qual scope f cdv A outer s H E) body t ∧ t { nx := fun _ H' => Q .non H', rt := Q } (start N vs) H) : FnG P w K mg base (k + 1) f fd ps sp := by
  obtain ⟨oc, od, dV, kV, doc, pm, an, cdv, ct, osl, efd, lk, hcd, _, _⟩ := F.ex
  subst efd
  constructor
  · exact len
  intro A outer s H args us vs Q E room gu env bnd rel want
  have kin : K.In s.heap := env.mod.kin.keeps fun b o q => (env.bs b o q).1
  have lim : s.heap.NoLimit := env.mod.nolimit.keeps fun b o q => (env.bs b o q).1
  have lens := len _ _ _ _ want
  apply codeAny_call_function room.depth (kin _ _ lk) rfl S.co S.gen rfl (PySem.W.codeRec_of kin hcd)
  apply bnd
  apply wpAny_newFunctionEnv_cells S.kind
  · rintro ⟨n, v⟩ hm
    have hn := (List.of_mem_zip hm).1
    cases S.par n hn with
    | inl q => exact Or.inl q
    | inr q => exact Or.inr ⟨q, PySem.W.cellsFrom_some _ _ _ (Or.inl q)⟩
  · intro env' ee s1 ic
    subst ee
    refine ⟨lim.keeps ic.toInCall.keep, codeAny_func ?_⟩
    obtain ⟨t, ht, hq⟩ := hb cdv A outer s H vs Q E (room.deeper _) gu want
    have inv : Inv (cxOf CX0 P w K mg base N qual scope f cdv A outer s H E) [] (start N vs) H s1 := inv_start S room.hd env lens rel ic
    apply wpAny_mono (ht.run [] s1 (start N vs) H _ inv hq)
    · intro fl s2 h2
      cases fl with
      | ret u =>
        obtain ⟨v, σ2, H2, J, rv, q2⟩ := h2
        exact ⟨v, H2, J.os, J.bare, J.base, J.hok, rv, q2⟩
      | next =>
        obtain ⟨σ2, H2, J, q2⟩ := h2
        exact ⟨V.non, H2, J.os, J.bare, J.base, J.hok, rfl, q2⟩
      | brk => obtain ⟨_, _, _, q2⟩ := h2; exact q2.elim
      | cont => obtain ⟨_, _, _, q2⟩ := h2; exact q2.elim
    · intro e s2 h2
      exact h2
/-- what the callee gives, here -/
theorem FnG.call {X : Cx} {k : Nat} {f : Addr} {fd : FuncData} {ps ks : List Str} {sp : Sp} (F : FnG X.prog X.w X.K X.mg X.base k f fd ps sp) (room : Room k X.A) (gu : X.A.guards = some []) {pins : List (Addr × Obj)} {σ : L2.St} {H : Hp} {s : Shared} {Q : VK} {us ws : List Value} {vs : List V} {al : List Value}
    (I : Inv X pins σ H s) (bnd : BindsTo s fd ⟨us, ks.zip ws⟩ (ps.zip al)) (rel : Vals vs al) (want : sp vs H Q (fun _ _ _ => False)) : wpAny (model X.prog X.w) X.A (call (.ref f) us (ks.zip ws)) (EP X pins σ Q) X.xe s := by
  apply wpAny_call
  apply codeAny_mono (F.go X.A X.stack s H _ al vs Q _ room gu I.env0 bnd rel want)
  intro r s2 hr
  match r, hr with
  | .ok (.ret u), hr => exact I.after hr
  | .ok .next, hr => exact False.elim hr
  | .ok .brk, hr => exact False.elim hr
  | .ok .cont, hr => exact False.elim hr
  | .error e, hr => exact False.elim hr

/-! ### a def on data -/
abbrev FD (Sg : Type) := List D → Sg → Option (Rv × Sg)
def enOf (n : Nat) (ds : List D) : En := ds.map .im ++ List.replicate (n - ds.length) .non
def outR : Rv → Option Rv
  | .im d => some (.im d)
  | .nw d => some (.nw d)
  | .br d => if pureD d = true then some (.im d) else none
def runB (n : Nat) (f : SS Sg) : FD Sg := fun ds S => (f (enOf n ds) S).bind fun p => match p.1 with
  | .nx => some (.im .non, p.2.2)
  | .rt r => (outR r).bind fun r' => some (r', p.2.2)
  | _ => none
def spF (G : Gd Sg) (np : Nat) (m : FD Sg) : Sp := fun vs H Q _ => ∃ F S ds r S', vs.length = np ∧ Gs G H F S ∧ Rps G H F ds vs ∧ m ds S = some (r, S') ∧
  ∀ v H' F', Fr G.Z H H' → (∀ a, F a → F' a) → (∀ a, F' a → ¬ G.Z a → F a ∨ H a = none) → Gs G H' F' S' → RepT G H H' F' r v → Q v H'
theorem start_rel {G : Gd Sg} {H : Hp} {F : Addr → Prop} {S : Sg} {ds : List D} {vs : List V} {N : List Str} (g : Gs G H F S) (h : Rps G H F ds vs) : Rel G H F (enOf N.length ds) (start N vs) H F (fun _ => none) S := by
  have hl := h.length
  refine ⟨g, ?_, fun i sl e => ?_, fun _ _ => rfl, fun _ _ _ q => (nomatch q), fun _ _ q => (nomatch q), fun _ _ q => (nomatch q), Fr.refl, fun _ q => q⟩
  · unfold enOf L2.start
    rw [List.length_append, List.length_append, List.length_map, List.length_map, List.length_replicate, List.length_replicate, hl]
  · unfold enOf at e
    unfold L2.start
    by_cases hi : i < ds.length
    · rw [List.getElem?_append_left (by rw [List.length_map]; exact hi), List.getElem?_map, List.getElem?_eq_getElem hi] at e
      cases e
      obtain ⟨v, ev, hv⟩ := h.get (List.getElem?_eq_getElem hi)
      refine ⟨some v, ?_, rfl, v, rfl, hv⟩
      rw [List.getElem?_append_left (by rw [List.length_map, hl]; exact hi), List.getElem?_map, ev]
      rfl
    · rw [List.getElem?_append_right (by rw [List.length_map]; omega), List.getElem?_replicate] at e
      split at e
      · rename_i h2
        cases e
        refine ⟨none, ?_, rfl⟩
        rw [List.getElem?_append_right (by rw [List.length_map]; omega), List.getElem?_replicate]
        rw [List.length_map] at h2 ⊢
        rw [if_pos (by omega)]
      · cases e
theorem body_le {G : Gd Sg} {np : Nat} {f : SS Sg} {N : List Str} {vs : List V} {H : Hp} {Q : VK} {E : XK} (h : spF G np (runB N.length f) vs H Q E) : tSs G f { nx := fun _ H' => Q .non H', rt := Q } (start N vs) H := by
  obtain ⟨F, S, ds, r, S', _, g, hr, e, k⟩ := h
  obtain ⟨⟨c, ρ', S1⟩, e1, e⟩ := Option.bind_eq_some_iff.mp e
  refine ⟨H, F, enOf N.length ds, F, fun _ => none, S, c, ρ', S1, start_rel g hr, e1, fun σ' H' F' A' p R => ?_⟩
  have fr : Fr G.Z H H' := R.base
  have gg : ∀ a, F' a → ¬ G.Z a → F a ∨ H a = none := fun a q z => by
    rcases p.gF a q z with h | h | ⟨_, h⟩
    · exact .inl h
    · exact .inr h
    · cases h
  cases c with
  | nx =>
    cases e
    exact k .non H' F' fr p.fF gg R.gs rfl
  | bk => cases e
  | ct => cases e
  | rt r0 =>
    obtain ⟨r', e2, e⟩ := Option.bind_eq_some_iff.mp e
    cases e
    intro v hv
    refine k v H' F' fr p.fF gg R.gs ?_
    cases r0 with
    | im d => cases e2; exact hv
    | nw d => cases e2; exact hv
    | br d =>
      have e2 : (if pureD d = true then some (Rv.im d) else none) = some r := e2
      by_cases hp : pureD d = true
      · rw [if_pos hp] at e2; cases e2
        exact Rb.pure hv hp
      · rw [if_neg hp] at e2; cases e2

/-- THE RULE: a def by its body on data -/
theorem fn_ok {G : Gd Sg} {P : Program} {w : World} {mg : Str → Option Value} {base : Heap} {x qual : Str} {params : Arguments} {body : List Stmt} {scope : Scope} {dvs : List V} {kws : List (Str × V)} {f : Addr} {fd : FuncData} {N ps : List Str} {k np : Nat} {b : SS Sg}
    (F : FunD G.K x qual params body scope dvs kws f fd) (S : FnScope N ps scope) (hp : ps.length = np)
    (hb : ∀ (X : Cx) (cdv : Value) (A : Around) (outer : List Env) (s : Shared) (H : Hp) (E : XK), X = cxOf CX0 P w G.K mg base N qual scope f cdv A outer s H E → Room k X.A → X.A.guards = some [] → PSs X body (tSs G b)) :
    FnG P w G.K mg base (k + 1) f fd ps (spF G np (runB N.length b)) := by
  refine FnG.of F S (fun vs H Q E h => ?_) fun cdv A outer s H vs Q E room gu h => ⟨tSs G b, hb _ cdv A outer s H E rfl room gu, body_le h⟩
  obtain ⟨_, _, _, _, _, l, _⟩ := h
  rw [l, hp]

/-- a call binds: n positional values, the keywords ks -/
structure Bn (K : PySem.W.Frag) (fd : FuncData) (ps : List Str) (n : Nat) (ks : List Str) (bd : List D → List D → List D) : Prop where
  go : ∀ (s : Shared) (us ws : List Value) (vs zs : List V), K.In s.heap → us.length = n → ws.length = ks.length → Vals vs us → Vals zs ws → ∃ al vl, BindsTo s fd ⟨us, ks.zip ws⟩ (ps.zip al) ∧ Vals vl al ∧ vl.length = ps.length ∧
    ∀ {Sg : Type} (G : Gd Sg) (H : Hp) (F : Addr → Prop) (ds es : List D), Rps G H F ds vs → Rps G H F es zs → Rps G H F (bd ds es) vl
/-- what may be taken along from a call with borrowed things -/
def fullR : Rv → Bool
  | .im d => pureD d
  | .nw (.lst l) => puresD l
  | .nw (.dct _ l) => puresD l
  | _ => false
section
variable {X : Cx} {G : Gd Sg} {e : Expr} {es : List Expr} {pos : Pos} {k n np : Nat} {f : Addr} {fd : FuncData} {ps ks : List Str} {x : Str} {p : Pos} {bd : List D → List D → List D} {m : FD Sg}
/-- f(e, .., k = v, ..): frozen arguments; borrowed ones -/
def eCall (n nk : Nat) (bd : List D → List D → List D) (m : FD Sg) (f g : SA Sg) : SE Sg := fun ρ S => (f ρ S).bind fun p => (g p.2.1 p.2.2).bind fun q =>
  if p.1.length = n ∧ q.1.length = nk then (m (bd p.1 q.1) q.2.2).bind fun r => some (r.1, q.2.1, r.2) else none
def eCallB (n nk : Nat) (bd : List D → List D → List D) (m : FD Sg) (f g : SA Sg) : SE Sg := fun ρ S => (f ρ S).bind fun p => (g p.2.1 p.2.2).bind fun q =>
  if p.1.length = n ∧ q.1.length = nk then (m (bd p.1 q.1) q.2.2).bind fun r => if fullR r.1 = true then some (r.1, q.2.1, r.2) else none else none
def tCl (n nk : Nat) (sp : Sp) (bdV : List V → List V → List V → Prop) (t tk : TA) : TE := fun σ H Q => t σ H fun vs H1 => tk σ H1 fun zs H2 => vs.length = n ∧ zs.length = nk ∧ ∀ vl, bdV vs zs vl → sp vl H2 Q fun _ _ _ => False
/-- behind the callee -/
theorem Rel.called {H0 H H' : Hp} {F0 F F' : Addr → Prop} {ρ : En} {σ : L2.St} {As : Nat → Option Addr} {S S' : Sg} {r : Rv} {v : V} (R : Rel G H0 F0 ρ σ H F As S) (fr : Fr G.Z H H') (fF : ∀ a, F a → F' a) (gF : ∀ a, F' a → ¬ G.Z a → F a ∨ H a = none) (gs : Gs G H' F' S') (h : RepT G H H' F' r v) :
    Stp G H H' F F' As As ∧ Rel G H0 F0 ρ σ H' F' As S' ∧ RepR G H0 H As H' F' As r v := by
  refine ⟨⟨fr, fF, fun a q z => (gF a q z).elim .inl fun y => .inr (.inl y), fun _ _ q => q⟩, R.fr fr fF gs fun i a q z => ?_, ?_⟩
  · obtain ⟨nf, nz⟩ := R.nF i a q
    rcases gF a z nz with y | y
    · exact nf y
    · obtain ⟨o, ho⟩ := R.there q
      rw [y] at ho; cases ho
  · cases r with
    | im d => exact h
    | nw d =>
      obtain ⟨a, e, o, nf, z, n0⟩ := h
      exact ⟨a, e, o, nf, z, R.nnew n0, R.old n0, .inl n0⟩
    | br d => exact h
theorem call_le {fe ge : SA Sg} {bdV : List V → List V → List V → Prop} (hb : ∀ (vs zs vl : List V), bdV vs zs vl → vl.length = np ∧ ∀ (H : Hp) (F : Addr → Prop) (ds es : List D), Rps G H F ds vs → Rps G H F es zs → Rps G H F (bd ds es) vl) :
    ∀ σ H Q, tE G (eCall n ks.length bd m fe ge) σ H Q → tCl n ks.length (spF G np m) bdV (tAF G fe) (tAF G ge) σ H Q := by
  rintro σ H Q ⟨H0, F0, ρ, F, As, S, r, ρ', S', R, e, kk⟩
  obtain ⟨⟨ds, ρ1, S1⟩, e1, e⟩ := Option.bind_eq_some_iff.mp e
  obtain ⟨⟨es, ρ2, S2⟩, e2, e⟩ := Option.bind_eq_some_iff.mp e
  dsimp only at e
  by_cases hl : ds.length = n ∧ es.length = ks.length
  · rw [if_pos hl] at e
    obtain ⟨⟨r3, S3⟩, e3, e⟩ := Option.bind_eq_some_iff.mp e
    cases e
    refine ⟨H0, F0, ρ, F, As, S, ds, ρ1, S1, R, e1, fun vs H1 F1 A1 p1 R1 h1 => ?_⟩
    refine ⟨H0, F0, ρ1, F1, A1, S1, es, _, S2, R1, e2, fun zs H2 F2 A2 p2 R2 h2 => ⟨by rw [h1.length]; exact hl.1, by rw [h2.length]; exact hl.2, fun vl hv => ?_⟩⟩
    obtain ⟨l1, hb1⟩ := hb vs zs vl hv
    refine ⟨F2, S2, bd ds es, _, _, l1, R2.gs, hb1 H2 F2 ds es (h1.fr p2.fr p2.fF) h2, e3, fun v H' F' fr fF gF gs h => ?_⟩
    obtain ⟨p3, R3, h3⟩ := R2.called fr fF gF gs h
    exact kk v H' F' A2 ((p1.trans p2).trans p3) R3 (h3.back (p1.trans p2))
  · rw [if_neg hl] at e; cases e
theorem Rb.all {H : Hp} {F : Addr → Prop} {d : D} {v : V} (h : Rb G H F d v) (g : ∀ a, F a → ∃ o, H a = some o) : Rp G H (fun a => ∃ o, H a = some o ∧ ¬ G.Z a) d v ∨ ¬ (∀ a, F a → ¬ G.Z a) := by
  by_cases nz : ∀ a, F a → ¬ G.Z a
  · have gg : ∀ a, F a → ∃ o, H a = some o ∧ ¬ G.Z a := fun a q => by obtain ⟨o, e⟩ := g a q; exact ⟨o, e, nz a q⟩
    refine .inl ?_
    cases d with
    | lst l =>
      obtain ⟨a, vs, e, s, z, r⟩ := h
      exact ⟨a, vs, e, s, ⟨_, s, z⟩, z, r.fr Fr.refl gg⟩
    | dct ks l =>
      obtain ⟨a, kvs, e, s, z, k, r⟩ := h
      refine ⟨a, kvs, e, ?_, z, k, r.fr Fr.refl gg⟩
      rcases s with s | s
      · exact .inl ⟨s, _, s, z⟩
      · exact .inr s
    | dtt ks l =>
      obtain ⟨a, kvs, e, s, z, k, r⟩ := h
      exact ⟨a, kvs, e, ⟨s, _, s, z⟩, z, k, r.fr Fr.refl gg⟩
    | exc c ns l => exact Rp.fr (d := .exc c ns l) Fr.refl gg h
    | non => exact Rp.fr (d := .non) Fr.refl gg h
    | bl b => exact Rp.fr (d := .bl b) Fr.refl gg h
    | int i => exact Rp.fr (d := .int i) Fr.refl gg h
    | str x => exact Rp.fr (d := .str x) Fr.refl gg h
    | tup x l => exact Rp.fr (d := .tup x l) Fr.refl gg h
    | ob n => exact Rp.fr (d := .ob n) Fr.refl gg h
    | scr ns => exact Rp.fr (d := .scr ns) Fr.refl gg h
  · exact .inr nz
theorem Rbs.all {H : Hp} {F : Addr → Prop} {S : Sg} (g : Gs G H F S) : ∀ {ds : List D} {vs : List V}, Rbs G H F ds vs → Rps G H (fun a => ∃ o, H a = some o ∧ ¬ G.Z a) ds vs
  | [], _, h => h
  | d :: l, _, h => by
    obtain ⟨v, r, e, h1, h2⟩ := h
    exact ⟨v, r, e, (h1.all g.trk).resolve_right fun z => z g.nZ, Rbs.all g h2⟩
theorem RepT.full {H H' : Hp} {F F' : Addr → Prop} {r : Rv} {v : V} (h : RepT G H H' F' r v) (p : fullR r = true) (nf : ∀ a, H a = none → ¬ F a) : RepT G H H' F r v := by
  cases r with
  | im d => exact Rp.pure p h
  | nw d =>
    obtain ⟨a, e, o, _, z, n0⟩ := h
    refine ⟨a, e, ?_, nf a n0, z, n0⟩
    cases d with
    | lst l =>
      obtain ⟨vs, s, r⟩ := o
      exact ⟨vs, s, r.pure p⟩
    | dct ks l =>
      obtain ⟨kvs, s, k, r⟩ := o
      exact ⟨kvs, s, k, r.pure p⟩
    | _ => cases p
  | br d => cases p
theorem callB_le {fe ge : SA Sg} {bdV : List V → List V → List V → Prop} (hb : ∀ (vs zs vl : List V), bdV vs zs vl → vl.length = np ∧ ∀ (H : Hp) (F : Addr → Prop) (ds es : List D), Rps G H F ds vs → Rps G H F es zs → Rps G H F (bd ds es) vl) :
    ∀ σ H Q, tE G (eCallB n ks.length bd m fe ge) σ H Q → tCl n ks.length (spF G np m) bdV (tAB G fe) (tAB G ge) σ H Q := by
  rintro σ H Q ⟨H0, F0, ρ, F, As, S, r, ρ', S', R, e, kk⟩
  obtain ⟨⟨ds, ρ1, S1⟩, e1, e⟩ := Option.bind_eq_some_iff.mp e
  obtain ⟨⟨es, ρ2, S2⟩, e2, e⟩ := Option.bind_eq_some_iff.mp e
  dsimp only at e
  by_cases hl : ds.length = n ∧ es.length = ks.length
  · rw [if_pos hl] at e
    obtain ⟨⟨r3, S3⟩, e3, e⟩ := Option.bind_eq_some_iff.mp e
    dsimp only at e
    by_cases hf : fullR r3 = true
    · rw [if_pos hf] at e; cases e
      refine ⟨H0, F0, ρ, F, As, S, ds, ρ1, S1, R, e1, fun vs H1 F1 A1 p1 R1 h1 => ?_⟩
      refine ⟨H0, F0, ρ1, F1, A1, S1, es, _, S2, R1, e2, fun zs H2 F2 A2 p2 R2 h2 => ⟨?_, ?_, fun vl hv => ?_⟩⟩
      · rw [(Rbs.all R1.gs h1).length]; exact hl.1
      · rw [(Rbs.all R2.gs h2).length]; exact hl.2
      obtain ⟨l1, hb1⟩ := hb vs zs vl hv
      have g2 : Gs G H2 (fun a => ∃ o, H2 a = some o ∧ ¬ G.Z a) S2 := ⟨fun a ⟨o, e, _⟩ => ⟨o, e⟩, fun a ⟨_, _, z⟩ => z, R2.gs.amb⟩
      refine ⟨_, S2, bd ds es, _, _, l1, g2, hb1 H2 _ ds es (Rbs.all R2.gs (h1.fr p2.fr p2.fF)) (Rbs.all R2.gs h2), e3, fun v H' F' fr fF gF gs h => ?_⟩
      have g3 : Gs G H' F2 S' := ⟨fun a q => by
        obtain ⟨o, ho⟩ := R2.gs.trk a q
        exact ⟨o, fr a o ho (R2.gs.nZ a q)⟩, R2.gs.nZ, gs.amb⟩
      obtain ⟨p3, R3, h3⟩ := R2.called fr (fun _ q => q) (fun _ q _ => .inl q) g3 (h.full (F := F2) hf fun a n q => (R2.gs.fresh n).1 q)
      exact kk v H' F2 A2 ((p1.trans p2).trans p3) R3 (h3.back (p1.trans p2))
    · rw [if_neg hf] at e; cases e
  · rw [if_neg hl] at e; cases e
/-- the machine's side, for any readings of the arguments -/
theorem pe_cl {t tk : TA} {kws : List Keyword} {sp : Sp} (Fn : FnG X.prog X.w X.K X.mg X.base k f fd ps sp) (room : Room k X.A) (gu : X.A.guards = some []) (hg : Gl X x) (hm : X.mg x = some (.ref f)) (hk : PySem.W.keepIn X.K (.ref f) = true) (bn : Bn X.K fd ps n ks bd)
    (ha : PA X (e :: es) t) (hkw : PK X kws tk) (hall : (backToKw pos (keywordEach kws X.env)).all (·.1.isSome) = true := by rfl) (hks : (backToKw pos (keywordEach kws X.env)).filterMap (·.1) = ks := by rfl)
    (hdb : (x == ("__debug__" : Str)) = false := by decide) (he : starEach (e :: es) X.env = (false, eval e X.env) :: starEach es X.env := by rfl)
    (hpl : ((backTo pos (starEach (e :: es) X.env)).any (·.1) || (backToKw pos (keywordEach kws X.env)).any (·.1.isNone)) = false := by rfl) :
    PE X (.Call (.Name x p) (e :: es) kws pos) (tCl n ks.length sp (fun vs zs vl => vl.length = ps.length ∧ ∀ {Sg : Type} (G : Gd Sg) (H : Hp) (F : Addr → Prop) (ds es : List D), Rps G H F ds vs → Rps G H F es zs → Rps G H F (bd ds es) vl) t tk) := by
  constructor
  intro pins s σ H Q I h
  apply wpAny_Call_Name_kw
  apply ld_glob I hg hm _ hdb
  apply PySem.W.callWith_KW (h₀ := X.base) I.ok.mod.kin hk hall _ hpl he
  apply thn (ha.run pos pins s σ H _ I h)
  rintro us s1 ⟨vs, H1, I1, r, q⟩
  apply thn (hkw.run pos pins s1 σ H1 _ I1 q)
  rintro ws s2 ⟨zs, H2, I2, rz, l1, l2, q2⟩
  refine ⟨I2.kIn, ?_⟩
  rw [hks]
  obtain ⟨al, vl, b1, b2, b3, b4⟩ := bn.go s2 us ws vs zs I2.kIn (r.length.symm.trans l1) (rz.length.symm.trans l2) r rz
  exact Fn.call room gu I2 b1 b2 (q2 vl ⟨b3, b4⟩)
theorem pe_cl0 {tk : TA} {kws : List Keyword} {sp : Sp} (Fn : FnG X.prog X.w X.K X.mg X.base k f fd ps sp) (room : Room k X.A) (gu : X.A.guards = some []) (hg : Gl X x) (hm : X.mg x = some (.ref f)) (hk : PySem.W.keepIn X.K (.ref f) = true) (bn : Bn X.K fd ps 0 ks bd)
    (hkw : PK X kws tk) (hall : (backToKw pos (keywordEach kws X.env)).all (·.1.isSome) = true := by rfl) (hks : (backToKw pos (keywordEach kws X.env)).filterMap (·.1) = ks := by rfl)
    (hdb : (x == ("__debug__" : Str)) = false := by decide)
    (hpl : ((backTo pos (starEach [] X.env)).any (·.1) || (backToKw pos (keywordEach kws X.env)).any (·.1.isNone)) = false := by rfl) :
    PE X (.Call (.Name x p) [] kws pos) (tCl 0 ks.length sp (fun vs zs vl => vl.length = ps.length ∧ ∀ {Sg : Type} (G : Gd Sg) (H : Hp) (F : Addr → Prop) (ds es : List D), Rps G H F ds vs → Rps G H F es zs → Rps G H F (bd ds es) vl) tNil tk) := by
  constructor
  intro pins s σ H Q I h
  apply wpAny_Call_Name_kw
  apply ld_glob I hg hm _ hdb
  apply PySem.W.callWith_KW0 (h₀ := X.base) I.ok.mod.kin hk hall _ hpl
  apply thn (hkw.run pos pins s σ H _ I h)
  rintro ws s2 ⟨zs, H2, I2, rz, l1, l2, q2⟩
  refine ⟨I2.kIn, ?_⟩
  rw [hks]
  obtain ⟨al, vl, b1, b2, b3, b4⟩ := bn.go s2 [] ws [] zs I2.kIn rfl (rz.length.symm.trans l2) .nil rz
  exact Fn.call (us := []) room gu I2 b1 b2 (q2 vl ⟨b3, b4⟩)
end
end Dv
end
section
set_option maxHeartbeats 4000000
namespace Dv
open PySem PySem.Spec PyProof.Rows L2
variable {Sg : Type}
section
variable {X : Cx} {G : Gd Sg} {pos : Pos}
/-! ### answers that make nothing new, a new tuple, a new list -/
theorem KN.im {H : Hp} {F : Addr → Prop} {d : D} {Q : VK} {v : V} (k : KN G H F (.im d) Q) (h : Rp G H F d v) : Q v H := k v H Ext.refl h
theorem KN.tup {H : Hp} {F : Addr → Prop} {S : Sg} {l : List D} {Q : VK} {vs : List V} (g : Gs G H F S) (k : KN G H F (.im (.tup false l)) Q) (h : Rps G H F l vs) {p : Addr} (hp : H p = none) : Q (.ref p) (upd H p (.tup vs)) :=
  k _ _ (Ext.upd hp) ⟨p, vs, rfl, .no upd_same, (g.fresh hp).2, h.fr (Fr.upd hp) fun _ q => q⟩
theorem KN.lst {H : Hp} {F : Addr → Prop} {S : Sg} {l : List D} {Q : VK} {vs : List V} (g : Gs G H F S) (k : KN G H F (.nw (.lst l)) Q) (h : Rps G H F l vs) {p : Addr} (hp : H p = none) : Q (.ref p) (upd H p (.lst vs)) :=
  k _ _ (Ext.upd hp) ⟨p, rfl, hp, vs, upd_same, h.fr (Fr.upd hp) fun _ q => q⟩

/-! ### + -/
def opAdd : D → D → Option Rv
  | .int i, .int j => some (.im (.int (i + j)))
  | .str a, .str b => if a.length + b.length ≤ sizeLine then some (.im (.str (a ++ b))) else none
  | .lst l, .lst m => if l.length + m.length ≤ sizeLine then some (.nw (.lst (l ++ m))) else none
  | .tup x l, .tup y m => if l.length + m.length ≤ sizeLine then some (.im (if l.isEmpty then .tup y m else if m.isEmpty then .tup x l else .tup false (l ++ m))) else none
  | _, _ => none
def rAddD (K : PySem.W.Frag) : R2 := fun x y H Q => rI0 (fun i j => .int (i + j)) x y H Q ∨ (∃ i j, x = .str i ∧ y = .str j ∧ i.length + j.length ≤ sizeLine ∧ Q (.str (i ++ j)) H) ∨ rCat x y H Q ∨ rCatA K x y H Q
theorem op_addD : OpR X (binaryOp .Add) (rAddD X.K) := op_add.or (op_add_str.or (op_cat.or op_catA))
theorem od_add (hK : G.K = X.K) : Op2 G (rAddD X.K) opAdd := by
  intro x y d e H F S res Q g hx hy eq k
  cases d <;> cases e <;> try (cases eq; done)
  case int.int i j =>
    cases eq; cases hx; cases hy
    exact .inl ⟨i, j, rfl, rfl, k.im rfl⟩
  case str.str a b =>
    have eq : (if a.length + b.length ≤ sizeLine then some (Rv.im (.str (a ++ b))) else none) = some res := eq
    by_cases h : a.length + b.length ≤ sizeLine
    · rw [if_pos h] at eq; cases eq; cases hx; cases hy
      exact .inr (.inl ⟨a, b, rfl, rfl, h, k.im rfl⟩)
    · rw [if_neg h] at eq; cases eq
  case lst.lst l m =>
    have eq : (if l.length + m.length ≤ sizeLine then some (Rv.nw (.lst (l ++ m))) else none) = some res := eq
    by_cases h : l.length + m.length ≤ sizeLine
    · rw [if_pos h] at eq; cases eq
      obtain ⟨a, vs, rfl, s, z, r⟩ := hx
      obtain ⟨b, us, rfl, s', z', r'⟩ := hy
      exact .inr (.inr (.inl ⟨a, b, vs, us, rfl, rfl, s, s', by rw [r.length, r'.length]; exact h, fun p hp => k.lst g (r.app r') hp⟩))
    · rw [if_neg h] at eq; cases eq
  case tup.tup c l c' m =>
    have eq : (if l.length + m.length ≤ sizeLine then some (Rv.im (if l.isEmpty then .tup c' m else if m.isEmpty then .tup c l else .tup false (l ++ m))) else none) = some res := eq
    by_cases h : l.length + m.length ≤ sizeLine
    · rw [if_pos h] at eq; cases eq
      have hx0 : Rp G H F (.tup c l) x := hx
      have hy0 : Rp G H F (.tup c' m) y := hy
      obtain ⟨a, vs, rfl, ⟨s, _⟩, z, r⟩ := hx
      obtain ⟨b, us, rfl, ⟨s', _⟩, z', r'⟩ := hy
      have l1 := r.length
      have l2 := r'.length
      refine .inr (.inr (.inr ⟨a, b, vs, us, rfl, rfl, hK ▸ s, hK ▸ s', by rw [r.length, r'.length]; exact h, fun e1 => ?_, fun e1 e2 => ?_, fun e1 e2 p hp => ?_⟩))
      · have : l = [] := List.eq_nil_of_length_eq_zero (by rw [← l1, e1]; rfl)
        subst this
        exact k.im hy0
      · have : m = [] := List.eq_nil_of_length_eq_zero (by rw [← l2, e2]; rfl)
        subst this
        cases l with
        | nil => exact absurd (List.eq_nil_of_length_eq_zero l1) e1
        | cons d l => exact k.im hx0
      · cases l with
        | nil => exact absurd (List.eq_nil_of_length_eq_zero l1) e1
        | cons d l =>
          cases m with
          | nil => exact absurd (List.eq_nil_of_length_eq_zero l2) e2
          | cons d' m => exact KN.tup (l := (d :: l) ++ (d' :: m)) g k (r.app r') hp
    · rw [if_neg h] at eq; cases eq
/-! ### whole numbers -/
def opI2 (f : Int → Int → Int) : D → D → Option Rv
  | .int i, .int j => some (.im (.int (f i j)))
  | _, _ => none
def opIC (c : Int → Int → Bool) (f : Int → Int → Int) : D → D → Option Rv
  | .int i, .int j => if c i j = true then some (.im (.int (f i j))) else none
  | _, _ => none
theorem od_I2 {f : Int → Int → Int} : Op2 G (rI0 fun i j => .int (f i j)) (opI2 f) := by
  intro x y d e H F S res Q g hx hy eq k
  cases d <;> cases e <;> try (cases eq; done)
  case int.int i j =>
    cases eq; cases hx; cases hy
    exact ⟨i, j, rfl, rfl, k.im rfl⟩
theorem od_IC {C : Int → Int → Prop} {c : Int → Int → Bool} {f : Int → Int → Int} (h : ∀ i j, c i j = true → C i j) : Op2 G (rI C fun i j => .int (f i j)) (opIC c f) := by
  intro x y d e H F S res Q g hx hy eq k
  cases d <;> cases e <;> try (cases eq; done)
  case int.int i j =>
    have eq : (if c i j = true then some (Rv.im (.int (f i j))) else none) = some res := eq
    by_cases hc : c i j = true
    · rw [if_pos hc] at eq; cases eq; cases hx; cases hy
      exact ⟨i, j, rfl, rfl, h i j hc, k.im rfl⟩
    · rw [if_neg hc] at eq; cases eq
def opSub : D → D → Option Rv := opI2 fun i j => i - j
def cMul (i j : Int) : Bool := decide (i.natAbs < 2 ^ 64) || decide (j.natAbs < 2 ^ 64)
def cPos (_ j : Int) : Bool := decide (0 < j)
def cDiv (_ j : Int) : Bool := decide (0 < j) && decide (j < 1073741824)
def cPow (i j : Int) : Bool := decide (0 ≤ j) && decide (j ≤ 1000000) && decide (i.natAbs < 2 ^ 64)
def opMod : D → D → Option Rv := opIC cPos fun i j => i % j
def opDiv : D → D → Option Rv := opIC cDiv fun i j => i / j
def opPow : D → D → Option Rv := opIC cPow fun i j => i ^ j.toNat
theorem od_sub : Op2 G (rI0 fun i j => .int (i - j)) opSub := od_I2
theorem od_mod : Op2 G (rI (fun _ j => 0 < j) fun i j => .int (i % j)) opMod := od_IC fun i j h => of_decide_eq_true h
theorem od_div : Op2 G (rI CDiv fun i j => .int (i / j)) opDiv := od_IC fun i j h => by
  obtain ⟨h1, h2⟩ := Bool.and_eq_true_iff.mp h
  exact ⟨of_decide_eq_true h1, of_decide_eq_true h2⟩
theorem od_pow : Op2 G (rI CPow fun i j => .int (i ^ j.toNat)) opPow := od_IC fun i j h => by
  obtain ⟨h1, h3⟩ := Bool.and_eq_true_iff.mp h
  obtain ⟨h1, h2⟩ := Bool.and_eq_true_iff.mp h1
  exact ⟨of_decide_eq_true h1, of_decide_eq_true h2, of_decide_eq_true h3⟩
/-- *: numbers; a list times a number -/
def opMul : D → D → Option Rv
  | .int i, .int j => if cMul i j = true then some (.im (.int (i * j))) else none
  | .lst l, .int k => if -(2 ^ 63) ≤ k ∧ k < 2 ^ 63 ∧ l.length * k.toNat ≤ sizeLine then some (.nw (.lst (List.replicate k.toNat l).flatten)) else none
  | _, _ => none
theorem Rps.rep {H : Hp} {F : Addr → Prop} {l : List D} {vs : List V} (h : Rps G H F l vs) : ∀ k : Nat, Rps G H F (List.replicate k l).flatten (List.replicate k vs).flatten
  | 0 => rfl
  | k + 1 => by
    rw [List.replicate_succ, List.replicate_succ, List.flatten_cons, List.flatten_cons]
    exact h.app (Rps.rep h k)
theorem od_mul : Op2 G (fun x y H Q => rI CMul (fun i j => .int (i * j)) x y H Q ∨ rRep x y H Q) opMul := by
  intro x y d e H F S res Q g hx hy eq k
  cases d <;> cases e <;> try (cases eq; done)
  case int.int i j =>
    have eq : (if cMul i j = true then some (Rv.im (.int (i * j))) else none) = some res := eq
    by_cases hc : cMul i j = true
    · rw [if_pos hc] at eq; cases eq; cases hx; cases hy
      refine .inl ⟨i, j, rfl, rfl, ?_, k.im rfl⟩
      rcases Bool.or_eq_true_iff.mp hc with h | h
      · have := of_decide_eq_true h; exact .inl ⟨by omega, by omega⟩
      · have := of_decide_eq_true h; exact .inr ⟨by omega, by omega⟩
    · rw [if_neg hc] at eq; cases eq
  case lst.int l m =>
    have eq : (if -(2 ^ 63) ≤ m ∧ m < 2 ^ 63 ∧ l.length * m.toNat ≤ sizeLine then some (Rv.nw (.lst (List.replicate m.toNat l).flatten)) else none) = some res := eq
    by_cases hc : -(2 ^ 63) ≤ m ∧ m < 2 ^ 63 ∧ l.length * m.toNat ≤ sizeLine
    · rw [if_pos hc] at eq; cases eq; cases hy
      obtain ⟨a, vs, rfl, s, z, r⟩ := hx
      exact .inr ⟨a, m, vs, rfl, rfl, s, hc.1, hc.2.1, by rw [r.length]; exact hc.2.2, fun p hp => k.lst g (r.rep _) hp⟩
    · rw [if_neg hc] at eq; cases eq
theorem op_mulD : OpR X (binaryOp .Mult) (fun x y H Q => rI CMul (fun i j => .int (i * j)) x y H Q ∨ rRep x y H Q) := op_mul.or op_rep
def opNeg : D → Option Rv
  | .int i => some (.im (.int (-i)))
  | _ => none
theorem od_neg : Op1 G (rU fun i => .int (-i)) opNeg := by
  intro x d H F S res Q g hx eq k
  cases d <;> try (cases eq; done)
  cases eq; cases hx
  exact ⟨_, rfl, k.im rfl⟩
def opCmp (p : Int → Int → Bool) : D → D → Option Rv
  | .int i, .int j => some (.im (.bl (p i j)))
  | _, _ => none
theorem od_cmp {p : Int → Int → Bool} : Op2 G (rI0 fun i j => .bl (p i j)) (opCmp p) := by
  intro x y d e H F S res Q g hx hy eq k
  cases d <;> cases e <;> try (cases eq; done)
  case int.int i j =>
    cases eq; cases hx; cases hy
    exact ⟨i, j, rfl, rfl, k.im rfl⟩
/-! ### is None -/
def opIsN : D → D → Option Rv
  | d, .non => some (.im (.bl (match d with | .non => true | _ => false)))
  | _, _ => none
def opNotN : D → D → Option Rv
  | d, .non => some (.im (.bl (match d with | .non => false | _ => true)))
  | _, _ => none
theorem Rb.non_iff {H : Hp} {F : Addr → Prop} {d : D} {v : V} (h : Rb G H F d v) : decide (v = .non) = (match d with | .non => true | _ => false) := by
  cases d with
  | non => cases h; rfl
  | bl b => cases h; rfl
  | int b => cases h; rfl
  | str b => cases h; rfl
  | tup x l => obtain ⟨a, vs, rfl, _⟩ := h; rfl
  | lst l => obtain ⟨a, vs, rfl, _⟩ := h; rfl
  | dct ks l => obtain ⟨a, vs, rfl, _⟩ := h; rfl
  | ob n => cases h; rfl
  | dtt ks l => obtain ⟨a, vs, rfl, _⟩ := h; rfl
  | exc c ns l => obtain ⟨a, dd, fv, rfl, _⟩ := h; rfl
  | scr ns => obtain ⟨a, rfl, _⟩ := h; rfl
end
end Dv
end
section
set_option maxHeartbeats 4000000
namespace Dv
open PySem PySem.Spec PyProof.Rows L2
variable {Sg : Type}
section
variable {X : Cx} {G : Gd Sg} {e a b : Expr} {pos : Pos}
/-! ### subscripts -/
theorem ixN_map {α : Type} {β : Type} {l : List α} {m : List β} (h : m.length = l.length) (i : Int) : ixN m.length i = ixN l.length i := by rw [h]
theorem Rps.atI {H : Hp} {F : Addr → Prop} {l : List D} {vs : List V} {i : Int} {d : D} (r : Rps G H F l vs) (e : atI l i = some d) : ∃ v, L2.atI vs i = some v ∧ Rp G H F d v := by
  unfold L2.atI at e ⊢
  rw [r.length]
  obtain ⟨j, e1, e2⟩ := Option.bind_eq_some_iff.mp e
  obtain ⟨v, ev, hv⟩ := r.get e2
  exact ⟨v, by rw [e1]; exact ev, hv⟩
def opIx : D → D → Option Rv
  | .lst l, .int i => (atI l i).bind fun d => some (.im d)
  | .tup _ l, .int i => (atI l i).bind fun d => some (.im d)
  | .str x, .int i => if x.length ≤ sizeLine then (atI x.cps.toList i).bind fun c => some (.im (.str ⟨#[c]⟩)) else none
  | _, _ => none
theorem od_ix (hK : G.K = X.K) : Op2 G (rIx X.K) opIx := by
  intro x y d e H F S res Q g hx hy eq k
  cases d <;> cases e <;> try (cases eq; done)
  case str.int s i =>
    have eq : (if s.length ≤ sizeLine then (atI s.cps.toList i).bind fun c => some (Rv.im (.str ⟨#[c]⟩)) else none) = some res := eq
    by_cases h : s.length ≤ sizeLine
    · rw [if_pos h] at eq
      obtain ⟨c, e1, e2⟩ := Option.bind_eq_some_iff.mp eq
      cases e2; cases hx; cases hy
      exact .inr (.inr ⟨s, i, c, rfl, rfl, h, e1, k.im rfl⟩)
    · rw [if_neg h] at eq; cases eq
  case tup.int c l i =>
    obtain ⟨d, e1, e2⟩ := Option.bind_eq_some_iff.mp (show (atI l i).bind (fun d => some (Rv.im d)) = some res from eq)
    cases e2; cases hy
    obtain ⟨a, vs, rfl, ⟨s, _⟩, z, r⟩ := hx
    obtain ⟨v, ev, hv⟩ := r.atI e1
    exact .inr (.inl ⟨a, vs, i, v, rfl, rfl, hK ▸ s, ev, k.im hv⟩)
  case lst.int l i =>
    obtain ⟨d, e1, e2⟩ := Option.bind_eq_some_iff.mp (show (atI l i).bind (fun d => some (Rv.im d)) = some res from eq)
    cases e2; cases hy
    obtain ⟨a, vs, rfl, s, z, r⟩ := hx
    obtain ⟨v, ev, hv⟩ := r.atI e1
    exact .inl ⟨a, vs, i, v, rfl, rfl, .inl (.inl s), ev, k.im hv⟩
theorem pd_ix {f g : SE Sg} (hK : G.K = X.K) (ha : PE X a (tE G f)) (hb : PE X b (tE G g)) (hs : PlainIx b) : PE X (.Subscript a b pos) (tE G (eOp2 opIx f g)) := PE.mono' (pe_ix ix_seq ha hb hs) (op2_le (od_ix hK))
/-! ### slices -/
def cutD (l : List D) (lo hi : Option Int) : List D := (l.drop (HT.sIx l.length 0 lo)).take (HT.sIx l.length l.length hi - HT.sIx l.length 0 lo)
theorem Rps.cut {H : Hp} {F : Addr → Prop} {l : List D} {vs : List V} (r : Rps G H F l vs) (lo hi : Option Int) : Rps G H F (cutD l lo hi) (cutV vs lo hi) := by
  unfold cutD cutV
  rw [r.length]
  exact (r.drop _).take _
def opCut (d : D) (lo hi : Option Int) : Option Rv := match d with
  | .lst l => some (.nw (.lst (cutD l lo hi)))
  | .tup c l => some (.im (.tup (if HT.sIx l.length 0 lo = 0 ∧ HT.sIx l.length l.length hi = l.length then c else false) (cutD l lo hi)))
  | .str x => if x.length ≤ sizeLine then some (.im (.str (cutS x lo hi))) else none
  | _ => none
def rSlD (K : PySem.W.Frag) : V → Option Int → Option Int → Hp → VK → Prop := fun x lo hi H Q => rSlL K x lo hi H Q ∨ rSlA K x lo hi H Q ∨ rSlS x lo hi H Q
theorem sl_D : SlR X (rSlD X.K) := by
  intro pins s σ H x v vl vu lo hi sl Q I rx hs pl pu h
  rcases h with h | h | h
  · exact sl_list pins s σ H x v vl vu lo hi sl Q I rx hs pl pu h
  · exact sl_tupA pins s σ H x v vl vu lo hi sl Q I rx hs pl pu h
  · exact sl_str pins s σ H x v vl vu lo hi sl Q I rx hs pl pu h
theorem od_cut (hK : G.K = X.K) {x : V} {d : D} {lo hi : Option Int} {H : Hp} {F : Addr → Prop} {S : Sg} {res : Rv} {Q : VK} (g : Gs G H F S) (hx : Rb G H F d x) (eq : opCut d lo hi = some res) (k : KN G H F res Q) : rSlD X.K x lo hi H Q := by
  cases d <;> try (cases eq; done)
  case str s =>
    have eq : (if s.length ≤ sizeLine then some (Rv.im (.str (cutS s lo hi))) else none) = some res := eq
    by_cases h : s.length ≤ sizeLine
    · rw [if_pos h] at eq; cases eq; cases hx
      exact .inr (.inr ⟨s, rfl, h, k.im rfl⟩)
    · rw [if_neg h] at eq; cases eq
  case tup c l =>
    cases eq
    have hx0 : Rp G H F (.tup c l) x := hx
    obtain ⟨a, vs, rfl, ⟨s, _⟩, z, r⟩ := hx
    have hl := r.length
    refine .inr (.inl ⟨a, vs, rfl, hK ▸ s, fun hw => ?_, fun hw p hp => ?_⟩)
    rotate_left
    · rw [hl] at hw
      rw [if_neg hw] at k
      exact k.tup g (r.cut lo hi) hp
    rw [hl] at hw
    rw [if_pos hw] at k
    have : cutD l lo hi = l := by
      unfold cutD
      rw [hw.1, hw.2]
      simp
    rw [this] at k
    exact k.im hx0
  case lst l =>
    cases eq
    obtain ⟨a, vs, rfl, s, z, r⟩ := hx
    exact .inl ⟨a, vs, rfl, .inl (.inl s), fun p hp => k.lst g (r.cut lo hi) hp⟩
/-- an optional end of a slice -/
abbrev SO (Sg : Type) := En → Sg → Option (Option Int × En × Sg)
def tO (G : Gd Sg) (f : SO Sg) : L2.St → Hp → (Option Int → Hp → Prop) → Prop := fun σ H Q => ∃ H0 F0 ρ F As S o ρ' S', Rel G H0 F0 ρ σ H F As S ∧ f ρ S = some (o, ρ', S') ∧
  ∀ H' F' As', Stp G H H' F F' As As' → Rel G H0 F0 ρ' σ H' F' As' S' → Q o H'
theorem PO.mono' {o : Option Expr} {t t' : TO} (h : PO X o t) (i : ∀ σ H Q, t' σ H Q → t σ H Q) : PO X o t' := ⟨fun pins s σ H Q I q => h.run pins s σ H Q I (i _ _ _ q)⟩
def oNone : SO Sg := fun ρ S => some (none, ρ, S)
def oSome (f : SE Sg) : SO Sg := fun ρ S => (f ρ S).bind fun p => match p.1.d with
  | .int i => some (some i, p.2.1, p.2.2)
  | _ => none
theorem od_none : PO X none (tO G oNone) := by
  refine PO.mono' po_none ?_
  rintro σ H Q ⟨H0, F0, ρ, F, As, S, o, ρ', S', R, e, k⟩
  cases e
  exact k H F As Stp.refl R
theorem od_some {f : SE Sg} (h : PE X e (tE G f)) : PO X (some e) (tO G (oSome f)) := by
  refine PO.mono' (po_some h) ?_
  rintro σ H Q ⟨H0, F0, ρ, F, As, S, o, ρ', S', R, e, k⟩
  obtain ⟨⟨r1, ρ1, S1⟩, e1, e⟩ := Option.bind_eq_some_iff.mp e
  refine ⟨H0, F0, ρ, F, As, S, r1, ρ1, S1, R, e1, fun v1 H1 F1 A1 p1 R1 h1 => ?_⟩
  have hb := h1.rb
  dsimp only at e
  cases q : r1.d with
  | int i =>
    rw [q] at e hb
    cases e
    exact ⟨i, hb, k H1 F1 A1 p1 R1⟩
  | _ => rw [q] at e; cases e
def eCut (f : SE Sg) (lo hi : SO Sg) : SE Sg := fun ρ S => (f ρ S).bind fun p => (lo p.2.1 p.2.2).bind fun q => (hi q.2.1 q.2.2).bind fun w => (opCut p.1.d q.1 w.1).bind fun r => some (r, w.2.1, w.2.2)
theorem pd_cut {lo hi : Option Expr} {f : SE Sg} {l h : SO Sg} {p2 : Pos} (hK : G.K = X.K) (he : PE X e (tE G f)) (hl : PO X lo (tO G l)) (hu : PO X hi (tO G h)) : PE X (.Subscript e (.Slice lo hi none p2) pos) (tE G (eCut f l h)) := by
  refine PE.mono' (pe_slice sl_D he hl hu) ?_
  rintro σ H Q ⟨H0, F0, ρ, F, As, S, r, ρ', S', R, e, k⟩
  obtain ⟨⟨r1, ρ1, S1⟩, e1, e⟩ := Option.bind_eq_some_iff.mp e
  obtain ⟨⟨o2, ρ2, S2⟩, e2, e⟩ := Option.bind_eq_some_iff.mp e
  obtain ⟨⟨o3, ρ3, S3⟩, e3, e⟩ := Option.bind_eq_some_iff.mp e
  obtain ⟨rr, e4, e⟩ := Option.bind_eq_some_iff.mp e
  cases e
  refine ⟨H0, F0, ρ, F, As, S, r1, ρ1, S1, R, e1, fun v1 H1 F1 A1 p1 R1 h1 => ?_⟩
  refine ⟨H0, F0, ρ1, F1, A1, S1, o2, ρ2, S2, R1, e2, fun H2 F2 A2 p2 R2 => ?_⟩
  refine ⟨H0, F0, ρ2, F2, A2, S2, o3, _, _, R2, e3, fun H3 F3 A3 p3 R3 => ?_⟩
  exact od_cut hK R3.gs ((h1.rb.fr p2.fr p2.fF).fr p3.fr p3.fF) e4 (R3.kn fun v H' F' A' p R' h => k v H' F' A' (((p1.trans p2).trans p3).trans p) R' (h.back ((p1.trans p2).trans p3)))
/-! ### built-in functions -/
theorem pd_callB {es : List Expr} {x : Str} {p : Pos} {id : String} {r : List V → Hp → VK → Prop} {sem : List D → Option Rv} {f : SA Sg} (hc : CallR X (.builtin id) r) (ho : OpN G r sem) (hg : Gl X x) (hm : X.mg x = none) (hv : bootBuiltins x = some (.builtin id)) (ha : PA X (e :: es) (tAB G f))
    (hn : x ≠ "__name__" := by decide) (hdb : (x == ("__debug__" : Str)) = false := by decide) (he : starEach (e :: es) X.env = (false, eval e X.env) :: starEach es X.env := by rfl) (hpl : (backTo pos (starEach es X.env)).any (·.1) = false := by rfl) :
    PE X (.Call (.Name x p) (e :: es) [] pos) (tE G (eOpN sem f)) := PE.mono' (pe_callB hc hg hm hv ha hn hdb he hpl) (opN_le ho)
theorem pd_callT {es : List Expr} {x : Str} {p : Pos} {T : String} {r : List V → Hp → VK → Prop} {sem : List D → Option Rv} {f : SA Sg} (hc : CallR X (.type T) r) (ho : OpN G r sem) (hg : Gl X x) (hm : X.mg x = none) (hv : bootBuiltins x = some (.type T)) (ha : PA X (e :: es) (tAB G f))
    (hn : x ≠ "__name__" := by decide) (hdb : (x == ("__debug__" : Str)) = false := by decide) (he : starEach (e :: es) X.env = (false, eval e X.env) :: starEach es X.env := by rfl) (hpl : (backTo pos (starEach es X.env)).any (·.1) = false := by rfl) :
    PE X (.Call (.Name x p) (e :: es) [] pos) (tE G (eOpN sem f)) := PE.mono' (pe_callTy hc hg hm hv ha hn hdb he hpl) (opN_le ho)
/-- one argument -/
theorem rbs_one {H : Hp} {F : Addr → Prop} {d : D} {vs : List V} (h : Rbs G H F [d] vs) : ∃ v, vs = [v] ∧ Rb G H F d v := by
  obtain ⟨v, r, rfl, h, rfl⟩ := h
  exact ⟨v, rfl, h⟩
theorem rbs_two {H : Hp} {F : Addr → Prop} {d d' : D} {vs : List V} (h : Rbs G H F [d, d'] vs) : ∃ v w, vs = [v, w] ∧ Rb G H F d v ∧ Rb G H F d' w := by
  obtain ⟨v, r, rfl, h, w, r', rfl, h', rfl⟩ := h
  exact ⟨v, w, rfl, h, h'⟩
def opLen : List D → Option Rv
  | [.lst l] => some (.im (.int l.length))
  | [.tup _ l] => some (.im (.int l.length))
  | [.scr l] => some (.im (.int l.length))
  | [.str x] => if x.length ≤ sizeLine then some (.im (.int x.length)) else none
  | _ => none
theorem od_len (hK : G.K = X.K) : OpN G (fun xs H Q => ∃ x n, xs = [x] ∧ LenV X.K x H n ∧ Q (.int n) H) opLen := by
  intro xs ds H F S res Q g hx eq k
  match ds, eq, hx with
  | [.lst l], eq, hx =>
    cases eq
    obtain ⟨v, rfl, a, vs, rfl, s, z, r⟩ := rbs_one hx
    exact ⟨_, l.length, rfl, .inl ⟨vs, .inl (.inl s), r.length.symm⟩, k.im rfl⟩
  | [.tup _ l], eq, hx =>
    cases eq
    obtain ⟨v, rfl, a, vs, rfl, ⟨s, _⟩, z, r⟩ := rbs_one hx
    exact ⟨_, l.length, rfl, .inr ⟨vs, hK ▸ s, r.length.symm⟩, k.im rfl⟩
  | [.scr l], eq, hx =>
    cases eq
    obtain ⟨v, rfl, a, rfl, s⟩ := rbs_one hx
    exact ⟨_, l.length, rfl, .inl ⟨l.map V.int, hK ▸ s.lk.sq, by rw [List.length_map]⟩, k.im rfl⟩
  | [.str x], eq, hx =>
    have eq : (if x.length ≤ sizeLine then some (Rv.im (.int x.length)) else none) = some res := eq
    by_cases h : x.length ≤ sizeLine
    · rw [if_pos h] at eq; cases eq
      obtain ⟨v, rfl, hv⟩ := rbs_one hx
      cases hv
      exact ⟨_, x.length, rfl, ⟨h, rfl⟩, k.im rfl⟩
    · rw [if_neg h] at eq; cases eq
/-! whole numbers of a list -/
def intsD : List D → Option (List Int)
  | [] => some []
  | .int i :: l => (intsD l).bind fun ns => some (i :: ns)
  | _ => none
theorem Rps.ints {H : Hp} {F : Addr → Prop} : ∀ {l : List D} {vs : List V} {ns : List Int}, Rps G H F l vs → intsD l = some ns → vs = ns.map V.int
  | [], vs, ns, h, e => by
    cases e
    exact h
  | d :: l, vs, ns, h, e => by
    obtain ⟨v, r, rfl, h1, h2⟩ := h
    cases d <;> try (cases e; done)
    case int i =>
      obtain ⟨ms, e1, e2⟩ := Option.bind_eq_some_iff.mp (show (intsD l).bind (fun ns => some (i :: ns)) = some ns from e)
      cases e2; cases h1
      rw [Rps.ints h2 e1]
      rfl
def opSum : List D → Option Rv
  | [.lst l] => (intsD l).bind fun ns => some (.im (.int ns.sum))
  | _ => none
theorem od_sum (hK : G.K = X.K) : OpN G (rSum X.K) opSum := by
  intro xs ds H F S res Q g hx eq k
  match ds, eq, hx with
  | [.lst l], eq, hx =>
    obtain ⟨ns, e1, e2⟩ := Option.bind_eq_some_iff.mp (show (intsD l).bind (fun ns => some (Rv.im (.int ns.sum))) = some res from eq)
    cases e2
    obtain ⟨v, rfl, a, vs, rfl, s, z, r⟩ := rbs_one hx
    have := r.ints e1
    subst this
    exact ⟨a, ns, rfl, .inl (.inl s), k.im rfl⟩
/-- the greatest, the least of some -/
def greatest : List Int → Int
  | [] => 0
  | n :: l => l.foldl (fun a b => if a < b then b else a) n
def least : List Int → Int
  | [] => 0
  | n :: l => l.foldl (fun a b => if b < a then b else a) n
theorem foldl_max : ∀ (l : List Int) (n : Int), (l.foldl (fun a b => if a < b then b else a) n = n ∨ l.foldl (fun a b => if a < b then b else a) n ∈ l) ∧ n ≤ l.foldl (fun a b => if a < b then b else a) n ∧ ∀ y ∈ l, y ≤ l.foldl (fun a b => if a < b then b else a) n
  | [], n => ⟨.inl rfl, Int.le_refl _, fun y h => by cases h⟩
  | m :: l, n => by
    obtain ⟨h1, h2, h3⟩ := foldl_max l (if n < m then m else n)
    rw [List.foldl_cons]
    have hc : n ≤ (if n < m then m else n) ∧ m ≤ (if n < m then m else n) := by split <;> omega
    refine ⟨?_, ?_, fun y hy => ?_⟩
    · rcases h1 with h1 | h1
      · rw [h1]
        split
        · exact .inr List.mem_cons_self
        · exact .inl rfl
      · exact .inr (List.mem_cons_of_mem _ h1)
    · omega
    · rcases List.mem_cons.mp hy with rfl | hy
      · omega
      · exact h3 y hy
theorem foldl_min : ∀ (l : List Int) (n : Int), (l.foldl (fun a b => if b < a then b else a) n = n ∨ l.foldl (fun a b => if b < a then b else a) n ∈ l) ∧ l.foldl (fun a b => if b < a then b else a) n ≤ n ∧ ∀ y ∈ l, l.foldl (fun a b => if b < a then b else a) n ≤ y
  | [], n => ⟨.inl rfl, Int.le_refl _, fun y h => by cases h⟩
  | m :: l, n => by
    obtain ⟨h1, h2, h3⟩ := foldl_min l (if m < n then m else n)
    rw [List.foldl_cons]
    have hc : (if m < n then m else n) ≤ n ∧ (if m < n then m else n) ≤ m := by split <;> omega
    refine ⟨?_, ?_, fun y hy => ?_⟩
    · rcases h1 with h1 | h1
      · rw [h1]
        split
        · exact .inr List.mem_cons_self
        · exact .inl rfl
      · exact .inr (List.mem_cons_of_mem _ h1)
    · omega
    · rcases List.mem_cons.mp hy with rfl | hy
      · omega
      · exact h3 y hy
theorem greatest_spec {l : List Int} (h : l ≠ []) : greatest l ∈ l ∧ ∀ y ∈ l, y ≤ greatest l := by
  cases l with
  | nil => exact absurd rfl h
  | cons n l =>
    obtain ⟨h1, h2, h3⟩ := foldl_max l n
    refine ⟨?_, fun y hy => ?_⟩
    · rcases h1 with h1 | h1
      · show l.foldl _ n ∈ n :: l
        rw [h1]; exact List.mem_cons_self
      · exact List.mem_cons_of_mem _ h1
    · rcases List.mem_cons.mp hy with rfl | hy
      · exact h2
      · exact h3 y hy
theorem least_spec {l : List Int} (h : l ≠ []) : least l ∈ l ∧ ∀ y ∈ l, least l ≤ y := by
  cases l with
  | nil => exact absurd rfl h
  | cons n l =>
    obtain ⟨h1, h2, h3⟩ := foldl_min l n
    refine ⟨?_, fun y hy => ?_⟩
    · rcases h1 with h1 | h1
      · show l.foldl _ n ∈ n :: l
        rw [h1]; exact List.mem_cons_self
      · exact List.mem_cons_of_mem _ h1
    · rcases List.mem_cons.mp hy with rfl | hy
      · exact h2
      · exact h3 y hy
def rMaxD (K : PySem.W.Frag) : List V → Hp → VK → Prop := fun xs H Q => rMax K xs H Q ∨ ∃ i j, xs = [.int i, .int j] ∧ Q (.int (if j > i then j else i)) H
def rMinD (K : PySem.W.Frag) : List V → Hp → VK → Prop := fun xs H Q => rMin K xs H Q ∨ ∃ i j, xs = [.int i, .int j] ∧ Q (.int (if j < i then j else i)) H
theorem cr_maxD (hc : X.calm = true) : CallR X (.builtin "max") (rMaxD X.K) := fun pins s σ H xs us Q I r h => h.elim (cr_max hc pins s σ H xs us Q I r) (call_max2 hc pins s σ H xs us Q I r)
theorem cr_minD (hc : X.calm = true) : CallR X (.builtin "min") (rMinD X.K) := fun pins s σ H xs us Q I r h => h.elim (cr_min hc pins s σ H xs us Q I r) (call_min2 hc pins s σ H xs us Q I r)
def opMax : List D → Option Rv
  | [.lst l] => (intsD l).bind fun ns => if ns = [] then none else some (.im (.int (greatest ns)))
  | [.int i, .int j] => some (.im (.int (if j > i then j else i)))
  | _ => none
def opMin : List D → Option Rv
  | [.lst l] => (intsD l).bind fun ns => if ns = [] then none else some (.im (.int (least ns)))
  | [.int i, .int j] => some (.im (.int (if j < i then j else i)))
  | _ => none
theorem od_max (hK : G.K = X.K) : OpN G (rMaxD X.K) opMax := by
  intro xs ds H F S res Q g hx eq k
  match ds, eq, hx with
  | [.lst l], eq, hx =>
    obtain ⟨ns, e1, e2⟩ := Option.bind_eq_some_iff.mp (show (intsD l).bind (fun ns => if ns = [] then none else some (Rv.im (.int (greatest ns)))) = some res from eq)
    by_cases hn : ns = []
    · rw [if_pos hn] at e2; cases e2
    · rw [if_neg hn] at e2; cases e2
      obtain ⟨v, rfl, a, vs, rfl, s, z, r⟩ := rbs_one hx
      have := r.ints e1
      subst this
      obtain ⟨g1, g2⟩ := greatest_spec hn
      refine .inl ⟨a, ns, rfl, .inl (.inl s), List.length_pos_iff.mpr hn, fun m hm hle => ?_⟩
      have : m = greatest ns := by
        have h1 := hle _ g1
        have h2 := g2 m hm
        omega
      rw [this]
      exact k.im rfl
  | [.int i, .int j], eq, hx =>
    cases eq
    obtain ⟨v, w, rfl, hv, hw⟩ := rbs_two hx
    cases hv; cases hw
    exact .inr ⟨i, j, rfl, k.im rfl⟩
theorem od_min (hK : G.K = X.K) : OpN G (rMinD X.K) opMin := by
  intro xs ds H F S res Q g hx eq k
  match ds, eq, hx with
  | [.lst l], eq, hx =>
    obtain ⟨ns, e1, e2⟩ := Option.bind_eq_some_iff.mp (show (intsD l).bind (fun ns => if ns = [] then none else some (Rv.im (.int (least ns)))) = some res from eq)
    by_cases hn : ns = []
    · rw [if_pos hn] at e2; cases e2
    · rw [if_neg hn] at e2; cases e2
      obtain ⟨v, rfl, a, vs, rfl, s, z, r⟩ := rbs_one hx
      have := r.ints e1
      subst this
      obtain ⟨g1, g2⟩ := least_spec hn
      refine .inl ⟨a, ns, rfl, .inl (.inl s), List.length_pos_iff.mpr hn, fun m hm hle => ?_⟩
      have : m = least ns := by
        have h1 := hle _ g1
        have h2 := g2 m hm
        omega
      rw [this]
      exact k.im rfl
  | [.int i, .int j], eq, hx =>
    cases eq
    obtain ⟨v, w, rfl, hv, hw⟩ := rbs_two hx
    cases hv; cases hw
    exact .inr ⟨i, j, rfl, k.im rfl⟩
/-! tuple(x), list(x) -/
theorem KN.tupX {H : Hp} {F : Addr → Prop} {S : Sg} {l : List D} {Q : VK} {vs : List V} {o : Obj} (g : Gs G H F S) (k : KN G H F (.im (.tup true l)) Q) (h : Rps G H F l vs) {p : Addr} (hp : H p = none) (ho : o.dict = none) : Q (.ref p) (upd H p (.frz o (.tup vs))) :=
  k _ _ (Ext.upd hp) ⟨p, vs, rfl, ⟨.inl (.inr ⟨o, upd_same⟩), fun _ => .inl ⟨o, _, upd_same, ho⟩, fun q => (nomatch q)⟩, (g.fresh hp).2, h.fr (Fr.upd hp) fun _ q => q⟩
def opTuple : List D → Option Rv
  | [.lst l] => some (.im (.tup true l))
  | [.tup c l] => some (.im (.tup c l))
  | _ => none
def opList : List D → Option Rv
  | [.lst l] => some (.nw (.lst l))
  | [.tup _ l] => some (.nw (.lst l))
  | _ => none
/-- a new tuple, and nothing else at its place -/
theorem call_tupleX : CallR X (.type "tuple") (fun xs H Q => ∃ p ys, xs = [.ref p] ∧ ((SqL X.K H p ys ∧ ∀ l o, H l = none → o.dict = none → Q (.ref l) (upd H l (.frz o (.tup ys)))) ∨ (SqT X.K H p ys ∧ Q (.ref p) H))) := by
  intro pins s σ H xs us Q I rel h
  obtain ⟨p, ys, rfl, h⟩ := h
  obtain ⟨u, rfl, ru⟩ := vals1 rel
  cases ru
  rcases h with ⟨hq, q⟩ | ⟨hq, q⟩
  · obtain ⟨its, rv, pl, hz⟩ := I.list hq
    have hl := rv.length
    refine call_tuple_list pl.isList (fun h' kp => ?_) (by simp only [List.size_toArray] <;> omega)
    have I1 : Inv X pins σ H { s with heap := h' } := I.kept (t' := s.toks) kp
    exact ⟨.ref h'.objs.size, _, I1.laid (t' := s.toks) (fun b o e => Heap.get?_push_of_some _ e) (Nat.le_refl _) (show ObjOk X.prog X.w _ _ _ (.frz { cls := .type "tuple", data := .seq its.toArray } (.tup ys)) from ⟨Heap.get?_push_size _ rfl, hz, its, rv, IsTup.new _ _⟩), rfl, q _ _ (I1.hok.fresh (Nat.le_refl _)) rfl⟩
  · obtain ⟨its, rv, pl, hz⟩ := I.tuple hq
    exact call_tuple_same pl ⟨.ref p, H, I, rfl, q⟩
theorem od_tuple (hK : G.K = X.K) : OpN G (fun xs H Q => ∃ p ys, xs = [.ref p] ∧ ((SqL X.K H p ys ∧ ∀ l o, H l = none → o.dict = none → Q (.ref l) (upd H l (.frz o (.tup ys)))) ∨ (SqT X.K H p ys ∧ Q (.ref p) H))) opTuple := by
  intro xs ds H F S res Q g hx eq k
  match ds, eq, hx with
  | [.lst l], eq, hx =>
    cases eq
    obtain ⟨v, rfl, a, vs, rfl, s, z, r⟩ := rbs_one hx
    exact ⟨a, vs, rfl, .inl ⟨.inl (.inl s), fun p o hp ho => KN.tupX g k r hp ho⟩⟩
  | [.tup c l], eq, hx =>
    cases eq
    obtain ⟨v, rfl, hv⟩ := rbs_one hx
    have hv0 : Rp G H F (.tup c l) v := hv
    obtain ⟨a, vs, rfl, ⟨s, _⟩, z, r⟩ := hv
    exact ⟨a, vs, rfl, .inr ⟨hK ▸ s, k.im hv0⟩⟩
theorem od_list (hK : G.K = X.K) : OpN G (fun xs H Q => ∃ p ys, xs = [.ref p] ∧ (SqL X.K H p ys ∨ SqT X.K H p ys) ∧ ∀ l, H l = none → Q (.ref l) (upd H l (.lst ys))) opList := by
  intro xs ds H F S res Q g hx eq k
  match ds, eq, hx with
  | [.lst l], eq, hx =>
    cases eq
    obtain ⟨v, rfl, a, vs, rfl, s, z, r⟩ := rbs_one hx
    exact ⟨a, vs, rfl, .inl (.inl (.inl s)), fun p hp => k.lst g r hp⟩
  | [.tup _ l], eq, hx =>
    cases eq
    obtain ⟨v, rfl, a, vs, rfl, ⟨s, _⟩, z, r⟩ := rbs_one hx
    exact ⟨a, vs, rfl, .inr (hK ▸ s), fun p hp => k.lst g r hp⟩
/-- a display: an exact tuple -/
def tTupX (t : TA) : TE := fun σ H Q => t σ H fun vs H1 => vs.length ≤ sizeLine ∧ ∀ p o, H1 p = none → o.dict = none → Q (.ref p) (upd H1 p (.frz o (.tup vs)))
theorem pe_tupX {es : List Expr} {x1} {t : TA} (h : PA X es t) : PE X (.Tuple es x1 pos) (tTupX t) := by
  refine ⟨fun pins s σ H Q I hq => ?_⟩
  refine wpAny_Tuple_spliced (thn (h.run pos pins s σ H _ I hq) fun us s1 ⟨xs, H1, I1, r, z, q⟩ => ⟨by rw [← r.length]; exact z, ?_⟩)
  exact ⟨.ref s1.heap.objs.size, _, I1.laid (t' := s1.toks) (o := .frz { cls := .type "tuple", data := .seq us.toArray } (.tup xs)) (fun b u e => Heap.get?_push_of_some _ e) (Nat.le_refl _) ⟨Heap.get?_push_size _ rfl, z, us, r, ⟨_, Heap.get?_push_size _ rfl, rfl, _, rfl⟩⟩, rfl, q _ _ (I1.hok.fresh (Nat.le_refl _)) rfl⟩
def eTupX (f : SA Sg) : SE Sg := fun ρ S => (f ρ S).bind fun p => if p.1.length ≤ sizeLine then some (.im (.tup true p.1), p.2.1, p.2.2) else none
theorem pd_tupX {es : List Expr} {x1} {f : SA Sg} (h : PA X es (tAF G f)) : PE X (.Tuple es x1 pos) (tE G (eTupX f)) := by
  refine PE.mono' (pe_tupX h) ?_
  rintro σ H Q ⟨H0, F0, ρ, F, As, S, r, ρ', S', R, e, k⟩
  obtain ⟨⟨ds, ρ1, S1⟩, e1, e⟩ := Option.bind_eq_some_iff.mp e
  by_cases hz : ds.length ≤ sizeLine
  · rw [if_pos hz] at e; cases e
    refine ⟨H0, F0, ρ, F, As, S, ds, ρ1, S1, R, e1, fun vs H1 F1 A1 p1 R1 h1 => ⟨by rw [h1.length]; exact hz, fun p o hp ho => ?_⟩⟩
    have x := Ext.upd (o := .frz o (.tup vs)) hp
    exact k _ _ F1 A1 (p1.trans (Stp.ext x)) (R1.ex x) ⟨p, vs, rfl, ⟨.inl (.inr ⟨o, upd_same⟩), fun _ => .inl ⟨o, _, upd_same, ho⟩, fun q => (nomatch q)⟩, (R1.gs.fresh hp).2, h1.fr (Fr.upd hp) fun _ q => q⟩
  · rw [if_neg hz] at e; cases e
end
end Dv
end
section
set_option maxHeartbeats 4000000
namespace Dv
open PySem PySem.Spec PyProof.Rows L2
variable {Sg : Type}
mutual
/-- a datum without dicts, as the library's -/
def toPy : D → Option PyData
  | .non => some .none
  | .bl b => some (.bool b)
  | .int i => some (.int i)
  | .str x => some (.str x)
  | .tup _ l => (toPys l).bind fun ps => some (.tuple ps)
  | .lst l => (toPys l).bind fun ps => some (.list ps)
  | _ => none
def toPys : List D → Option (List PyData)
  | [] => some []
  | d :: l => (toPy d).bind fun p => (toPys l).bind fun ps => some (p :: ps)
end
section
variable {X : Cx} {G : Gd Sg} {e a b : Expr} {pos : Pos} {H : Hp} {F : Addr → Prop}
mutual
theorem Rp.dp (hK : G.K = X.K) : ∀ {d : D} {v : V} {p : PyData}, Rp G H F d v → toPy d = some p → Dp X.K H v p
  | .non, _, _, h, e => by cases e; cases h; exact .non
  | .bl b, _, _, h, e => by cases e; cases h; exact .bl b
  | .int b, _, _, h, e => by cases e; cases h; exact .int b
  | .str b, _, _, h, e => by cases e; cases h; exact .str b
  | .tup _ l, _, _, h, e => by
    obtain ⟨ps, e1, e2⟩ := Option.bind_eq_some_iff.mp (show (toPys l).bind (fun ps => some (PyData.tuple ps)) = some _ from e)
    cases e2
    obtain ⟨a, vs, rfl, ⟨s, _⟩, z, r⟩ := h
    exact .tup (hK ▸ s) (Rps.dp hK r e1)
  | .lst l, _, _, h, e => by
    obtain ⟨ps, e1, e2⟩ := Option.bind_eq_some_iff.mp (show (toPys l).bind (fun ps => some (PyData.list ps)) = some _ from e)
    cases e2
    obtain ⟨a, vs, rfl, s, _, z, r⟩ := h
    exact .lst (.inl (.inl s)) (Rps.dp hK r e1)
  | .dct _ _, _, _, _, e => by cases e
  | .ob _, _, _, _, e => by cases e
  | .scr _, _, _, _, e => by cases e
  | .dtt _ _, _, _, _, e => by cases e
  | .exc _ _ _, _, _, _, e => by cases e
theorem Rps.dp (hK : G.K = X.K) : ∀ {l : List D} {vs : List V} {ps : List PyData}, Rps G H F l vs → toPys l = some ps → DpAll X.K H vs ps
  | [], _, _, h, e => by
    cases e
    rw [show _ = [] from h]
    exact .nil
  | d :: l, _, _, h, e => by
    obtain ⟨p, e1, e2⟩ := Option.bind_eq_some_iff.mp (show (toPy d).bind (fun p => (toPys l).bind fun ps => some (p :: ps)) = some _ from e)
    obtain ⟨ps, e3, e4⟩ := Option.bind_eq_some_iff.mp e2
    cases e4
    obtain ⟨v, r, rfl, h1, h2⟩ := h
    exact .cons (Rp.dp hK h1 e1) (Rps.dp hK h2 e3)
end
theorem Rb.dp (hK : G.K = X.K) {d : D} {v : V} {p : PyData} (h : Rb G H F d v) (e : toPy d = some p) : Dp X.K H v p := by
  cases d with
  | lst l =>
    obtain ⟨ps, e1, e2⟩ := Option.bind_eq_some_iff.mp (show (toPys l).bind (fun ps => some (PyData.list ps)) = some _ from e)
    cases e2
    obtain ⟨a, vs, rfl, s, z, r⟩ := h
    exact .lst (.inl (.inl s)) (Rps.dp hK r e1)
  | dct ks l => cases e
  | dtt ks l => cases e
  | exc c ns l => cases e
  | scr ns => cases e
  | ob n => cases e
  | non => exact Rp.dp hK (F := F) (d := .non) h e
  | bl b => exact Rp.dp hK (F := F) (d := .bl b) h e
  | int b => exact Rp.dp hK (F := F) (d := .int b) h e
  | str b => exact Rp.dp hK (F := F) (d := .str b) h e
  | tup c b => exact Rp.dp hK (F := F) (d := .tup c b) h e
/-! ### ==, != -/
def eqD (neg : Bool) : D → D → Option Rv
  | .int i, .int j => some (.im (.bl (xor neg (decide (i = j)))))
  | .str i, .str j => some (.im (.bl (xor neg (decide (i = j)))))
  | d, e => (toPy d).bind fun p => (toPy e).bind fun q => if SeqAt.shaped p = true ∧ SeqAt.shaped q = true then some (.im (.bl (xor neg (PyData.eqv p q)))) else none
theorem od_eqn {neg : Bool} (hK : G.K = X.K) : Op2 G (fun x y H Q => (scal x y = true ∧ Q (.bl (xor neg (decide (x = y)))) H) ∨ ∃ d e, Dp X.K H x d ∧ Dp X.K H y e ∧ SeqAt.shaped d = true ∧ SeqAt.shaped e = true ∧ Q (.bl (xor neg (PyData.eqv d e))) H) (eqD neg) := by
  intro x y d e H F S res Q g hx hy eq k
  have gen : (toPy d).bind (fun p => (toPy e).bind fun q => if SeqAt.shaped p = true ∧ SeqAt.shaped q = true then some (Rv.im (.bl (xor neg (PyData.eqv p q)))) else none) = some res →
      ∃ d e, Dp X.K H x d ∧ Dp X.K H y e ∧ SeqAt.shaped d = true ∧ SeqAt.shaped e = true ∧ Q (.bl (xor neg (PyData.eqv d e))) H := fun eq => by
    obtain ⟨p, e1, eq⟩ := Option.bind_eq_some_iff.mp eq
    obtain ⟨q, e2, eq⟩ := Option.bind_eq_some_iff.mp eq
    by_cases h : SeqAt.shaped p = true ∧ SeqAt.shaped q = true
    · rw [if_pos h] at eq; cases eq
      exact ⟨p, q, hx.dp hK e1, hy.dp hK e2, h.1, h.2, k.im rfl⟩
    · rw [if_neg h] at eq; cases eq
  cases d <;> cases e <;> first
    | exact .inr (gen eq)
    | (cases eq; cases hx; cases hy; refine .inl ⟨rfl, ?_⟩
       have kk := k.im (v := .bl _) rfl
       simpa using kk)
theorem op_eqD' (hu : X.A.units + 64 < cLine) : OpR X (compareOp .Eq) (fun x y H Q => (scal x y = true ∧ Q (.bl (xor false (decide (x = y)))) H) ∨ ∃ d e, Dp X.K H x d ∧ Dp X.K H y e ∧ SeqAt.shaped d = true ∧ SeqAt.shaped e = true ∧ Q (.bl (xor false (PyData.eqv d e))) H) := by
  intro pins s σ H x y v u Q I rx ry h
  rcases h with ⟨h1, h2⟩ | ⟨d, e, h1, h2, h3, h4, h5⟩
  · exact op_eq pins s σ H x y v u Q I rx ry ⟨h1, by simpa using h2⟩
  · exact op_eqD hu pins s σ H x y v u Q I rx ry ⟨d, e, h1, h2, h3, h4, by simpa using h5⟩
theorem op_neD' (hu : X.A.units + 64 < cLine) : OpR X (compareOp .NotEq) (fun x y H Q => (scal x y = true ∧ Q (.bl (xor true (decide (x = y)))) H) ∨ ∃ d e, Dp X.K H x d ∧ Dp X.K H y e ∧ SeqAt.shaped d = true ∧ SeqAt.shaped e = true ∧ Q (.bl (xor true (PyData.eqv d e))) H) := by
  intro pins s σ H x y v u Q I rx ry h
  rcases h with ⟨h1, h2⟩ | ⟨d, e, h1, h2, h3, h4, h5⟩
  · exact op_ne pins s σ H x y v u Q I rx ry ⟨h1, by simpa using h2⟩
  · exact op_neD hu pins s σ H x y v u Q I rx ry ⟨d, e, h1, h2, h3, h4, by simpa using h5⟩
/-! ### repr -/
def okR (p : PyData) : Bool := p.showable && !p.hasDict && decide (p.depth ≤ 60) && decide (p.shown.length ≤ sizeLine)
def opRepr : List D → Option Rv
  | [.int i] => if i.natAbs.log2 < 1920 then some (.im (.str (toString i))) else none
  | [.tup c l] => (toPy (.tup c l)).bind fun p => if okR p = true then some (.im (.str p.shown)) else none
  | [.lst l] => (toPy (.lst l)).bind fun p => if okR p = true then some (.im (.str p.shown)) else none
  | _ => none
def rRepr (K : PySem.W.Frag) : List V → Hp → VK → Prop := fun xs H Q => (∃ i, xs = [.int i] ∧ i.natAbs.log2 < 1920 ∧ Q (.str (toString i)) H) ∨ ∃ a p, xs = [.ref a] ∧ Dp K H (.ref a) p ∧ okR p = true ∧ Q (.str p.shown) H
theorem call_reprD {n : Nat} (room : Room n X.A) (gu : X.A.guards = some []) : CallR X (.builtin "repr") (rRepr X.K) := by
  intro pins s σ H xs us Q I r h
  rcases h with h | ⟨a, p, rfl, hd, ok, q⟩
  · exact SkE.call_repr_int pins s σ H xs us Q I r h
  · cases r with
    | cons r1 r2 =>
      cases r2
      cases r1
      obtain ⟨h1, h4⟩ := Bool.and_eq_true_iff.mp ok
      obtain ⟨h1, h3⟩ := Bool.and_eq_true_iff.mp h1
      obtain ⟨h1, h2⟩ := Bool.and_eq_true_iff.mp h1
      obtain ⟨as, rd⟩ := Dp.reads I p (.ref a) (.ref a) hd rfl
      have hu := room.un
      have h3' := of_decide_eq_true h3
      exact repr_of_reads' rd h1 (PyData.noDict_hsm (by simpa using h2)) gu (by omega) (fun _ _ e => e) (fun h' u tk hk => ⟨.str p.shown, H, I.kept hk, ⟨u, rfl⟩, q⟩) (of_decide_eq_true h4)
theorem od_repr (hK : G.K = X.K) : OpN G (rRepr X.K) opRepr := by
  intro xs ds H F S res Q g hx eq k
  match ds, eq, hx with
  | [.int i], eq, hx =>
    have eq : (if i.natAbs.log2 < 1920 then some (Rv.im (.str (toString i))) else none) = some res := eq
    by_cases h : i.natAbs.log2 < 1920
    · rw [if_pos h] at eq; cases eq
      obtain ⟨v, rfl, hv⟩ := rbs_one hx
      cases hv
      exact .inl ⟨i, rfl, h, k.im rfl⟩
    · rw [if_neg h] at eq; cases eq
  | [.tup c l], eq, hx =>
    obtain ⟨p, e1, e2⟩ := Option.bind_eq_some_iff.mp (show (toPy (.tup c l)).bind (fun p => if okR p = true then some (Rv.im (.str p.shown)) else none) = some res from eq)
    by_cases h : okR p = true
    · rw [if_pos h] at e2; cases e2
      obtain ⟨v, rfl, hv⟩ := rbs_one hx
      have hd := hv.dp hK e1
      obtain ⟨a, vs, rfl, _⟩ := hv
      exact .inr ⟨a, p, rfl, hd, h, k.im rfl⟩
    · rw [if_neg h] at e2; cases e2
  | [.lst l], eq, hx =>
    obtain ⟨p, e1, e2⟩ := Option.bind_eq_some_iff.mp (show (toPy (.lst l)).bind (fun p => if okR p = true then some (Rv.im (.str p.shown)) else none) = some res from eq)
    by_cases h : okR p = true
    · rw [if_pos h] at e2; cases e2
      obtain ⟨v, rfl, hv⟩ := rbs_one hx
      have hd := hv.dp hK e1
      obtain ⟨a, vs, rfl, _⟩ := hv
      exact .inr ⟨a, p, rfl, hd, h, k.im rfl⟩
    · rw [if_neg h] at e2; cases e2
/-! ### all, of truths -/
def blsD : List D → Option (List Bool)
  | [] => some []
  | .bl b :: l => (blsD l).bind fun bs => some (b :: bs)
  | _ => none
theorem Rps.bls : ∀ {l : List D} {vs : List V} {bs : List Bool}, Rps G H F l vs → blsD l = some bs → vs = bs.map V.bl
  | [], vs, bs, h, e => by cases e; exact h
  | d :: l, vs, bs, h, e => by
    obtain ⟨v, r, rfl, h1, h2⟩ := h
    cases d <;> try (cases e; done)
    case bl i =>
      obtain ⟨ms, e1, e2⟩ := Option.bind_eq_some_iff.mp (show (blsD l).bind (fun bs => some (i :: bs)) = some bs from e)
      cases e2; cases h1
      rw [Rps.bls h2 e1]
      rfl
def opAll : List D → Option Rv
  | [.lst l] => (blsD l).bind fun bs => some (.im (.bl (bs.all id)))
  | _ => none
theorem od_all (hK : G.K = X.K) : OpN G (rAll X.K) opAll := by
  intro xs ds H F S res Q g hx eq k
  match ds, eq, hx with
  | [.lst l], eq, hx =>
    obtain ⟨bs, e1, e2⟩ := Option.bind_eq_some_iff.mp (show (blsD l).bind (fun bs => some (Rv.im (.bl (bs.all id)))) = some res from eq)
    cases e2
    obtain ⟨v, rfl, a, vs, rfl, s, z, r⟩ := rbs_one hx
    have := r.bls e1
    subst this
    exact ⟨a, bs, rfl, .inl (.inl s), k.im rfl⟩
/-! ### sorted, of texts -/
def strsD : List D → Option (List Str)
  | [] => some []
  | .str x :: l => (strsD l).bind fun xs => some (x :: xs)
  | _ => none
theorem Rps.strs' : ∀ {l : List D} {vs : List V} {xs : List Str}, Rps G H F l vs → strsD l = some xs → vs = xs.map V.str
  | [], vs, bs, h, e => by cases e; exact h
  | d :: l, vs, bs, h, e => by
    obtain ⟨v, r, rfl, h1, h2⟩ := h
    cases d <;> try (cases e; done)
    case str i =>
      obtain ⟨ms, e1, e2⟩ := Option.bind_eq_some_iff.mp (show (strsD l).bind (fun bs => some (i :: bs)) = some bs from e)
      cases e2; cases h1
      rw [Rps.strs' h2 e1]
      rfl
theorem strs_rps : ∀ (xs : List Str), Rps G H F (xs.map D.str) (xs.map V.str)
  | [] => rfl
  | x :: xs => ⟨.str x, xs.map V.str, rfl, rfl, strs_rps xs⟩
/-- texts by their signs -/
def leS (x y : Str) : Prop := ltCps y.cps.toList x.cps.toList = false
theorem leS_iff {x y : Str} : leS x y ↔ x.cps.toList ≤ y.cps.toList := by
  unfold leS
  rw [PyProof.Rows.ltCps_eq]
  constructor
  · intro h
    exact of_decide_eq_false h
  · intro h
    exact decide_eq_false h
theorem leS_trans {x y z : Str} (h1 : leS x y) (h2 : leS y z) : leS x z := leS_iff.mpr (List.le_trans (leS_iff.mp h1) (leS_iff.mp h2))
theorem str_ext {x y : Str} (h : x.cps.toList = y.cps.toList) : x = y := by
  cases x; cases y
  simp only at h
  congr 1
  exact Array.toList_inj.mp h
theorem leS_anti {x y : Str} (h1 : leS x y) (h2 : leS y x) : x = y := str_ext (List.le_antisymm (leS_iff.mp h1) (leS_iff.mp h2))
theorem leS_total (x y : Str) : leS x y ∨ leS y x := (List.le_total x.cps.toList y.cps.toList).imp leS_iff.mpr leS_iff.mpr
instance (x y : Str) : Decidable (leS x y) := by unfold leS; infer_instance
theorem sortedS_pw : ∀ {l : List Str}, sortedS l = true → l.Pairwise leS := by
  have key : ∀ (l : List Str) (p : Str), risingS p l = true → (p :: l).Pairwise leS := by
    intro l
    induction l with
    | nil => intro p _; exact List.pairwise_singleton _ _
    | cons x r ih =>
      intro p h
      obtain ⟨h1, h2⟩ := Bool.and_eq_true_iff.mp (show (!ltCps x.cps.toList p.cps.toList && risingS x r) = true from h)
      have hpx : leS p x := by unfold leS; simpa using h1
      have hr := ih x h2
      refine List.pairwise_cons.mpr ⟨fun y hy => ?_, hr⟩
      rcases List.mem_cons.mp hy with rfl | hy
      · exact hpx
      · exact leS_trans hpx ((List.pairwise_cons.mp hr).1 y hy)
  intro l h
  cases l with
  | nil => exact List.Pairwise.nil
  | cons x r => exact key r x h
def insS (x : Str) : List Str → List Str
  | [] => [x]
  | y :: r => if leS x y then x :: y :: r else y :: insS x r
def sortS : List Str → List Str
  | [] => []
  | x :: r => insS x (sortS r)
theorem insS_perm (x : Str) : ∀ l : List Str, (insS x l).Perm (x :: l)
  | [] => List.Perm.refl _
  | y :: r => by
    unfold insS
    split
    · exact List.Perm.refl _
    · exact ((insS_perm x r).cons y).trans (List.Perm.swap x y r)
theorem sortS_perm : ∀ l : List Str, (sortS l).Perm l
  | [] => List.Perm.refl _
  | x :: r => (insS_perm x (sortS r)).trans ((sortS_perm r).cons x)
theorem insS_pw {x : Str} : ∀ {l : List Str}, l.Pairwise leS → (insS x l).Pairwise leS
  | [], _ => List.pairwise_singleton _ _
  | y :: r, h => by
    obtain ⟨h1, h2⟩ := List.pairwise_cons.mp h
    unfold insS
    split
    · rename_i hxy
      refine List.pairwise_cons.mpr ⟨fun z hz => ?_, h⟩
      rcases List.mem_cons.mp hz with rfl | hz
      · exact hxy
      · exact leS_trans hxy (h1 z hz)
    · rename_i hxy
      have hyx : leS y x := (leS_total x y).resolve_left hxy
      refine List.pairwise_cons.mpr ⟨fun z hz => ?_, insS_pw h2⟩
      rcases List.mem_cons.mp ((insS_perm x r).mem_iff.mp hz) with rfl | hz
      · exact hyx
      · exact h1 z hz
theorem sortS_pw : ∀ l : List Str, (sortS l).Pairwise leS
  | [] => List.Pairwise.nil
  | x :: r => insS_pw (sortS_pw r)
theorem sortS_unique {ys xs : List Str} (p : ys.Perm xs) (h : sortedS ys = true) : ys = sortS xs :=
  List.Perm.eq_of_pairwise (le := leS) (fun a b _ _ h1 h2 => leS_anti h1 h2) (sortedS_pw h) (sortS_pw xs) (p.trans (sortS_perm xs).symm)
def opSorted : List D → Option Rv
  | [.lst l] => (strsD l).bind fun xs => if xs.length < 64 then some (.nw (.lst ((sortS xs).map D.str))) else none
  | _ => none
theorem od_sorted (hK : G.K = X.K) : OpN G (rSortedS X.K) opSorted := by
  intro xs ds H F S res Q g hx eq k
  match ds, eq, hx with
  | [.lst l], eq, hx =>
    obtain ⟨ss, e1, e2⟩ := Option.bind_eq_some_iff.mp (show (strsD l).bind (fun xs => if xs.length < 64 then some (Rv.nw (.lst ((sortS xs).map D.str))) else none) = some res from eq)
    by_cases h : ss.length < 64
    · rw [if_pos h] at e2; cases e2
      obtain ⟨v, rfl, a, vs, rfl, s, z, r⟩ := rbs_one hx
      have := r.strs' e1
      subst this
      refine ⟨a, ss, rfl, .inl (.inl s), h, fun ys p hp hs hn => ?_⟩
      rw [sortS_unique hp hs]
      exact k.lst g (strs_rps _) hn
    · rw [if_neg h] at e2; cases e2
end
end Dv
end
section
set_option maxHeartbeats 4000000
namespace Zq
open PySem PySem.Spec PyProof.Rows L2
theorem refs_vals : ∀ as : List Addr, Vals (as.map V.ref) (as.map Value.ref)
  | [] => .nil
  | _ :: as => .cons rfl (refs_vals as)
/-- many new tuples, and a list of them -/
theorem many {X : Cx} {pins : List (Addr × Obj)} {σ : L2.St} {H : Hp} {s : Shared} {h' : Heap} {tk : Nat} {S : Addr} {acc : Array Value} {c : Nat} {as : List Addr} {ls : List (List V)} (I : Inv X pins σ H s) (hk : ∀ b o, s.heap.get? b = some o → h'.get? b = some o)
    (hS : h'.get? S = some { cls := .type "list", dict := none, data := .seq acc c, slots := #[] }) (lo : s.heap.objs.size ≤ S) (ab : ∀ a ∈ as, s.heap.objs.size ≤ a ∧ a ≠ S) (nd : as.Nodup) (hl : as.length = ls.length) (hz : as.length ≤ sizeLine) (hacc : acc.toList = as.map Value.ref)
    (pr : ∀ (j : Nat) (a : Addr) (l : List V), as[j]? = some a → ls[j]? = some l → l.length ≤ sizeLine ∧ ∃ us, Vals l us ∧ h'.get? a = some { cls := .type "tuple", data := .seq us.toArray }) :
    ∃ H' : Hp, (∀ b o, H b = some o → H' b = some o) ∧ H S = none ∧ (∀ t ∈ as, H t = none) ∧ S ∉ as ∧ H' S = some (.lst (as.map V.ref)) ∧ (∀ (j : Nat) (a : Addr) (l : List V), as[j]? = some a → ls[j]? = some l → H' a = some (.tup l)) ∧ Inv X pins σ H' { s with heap := h', toks := tk } := by
  have nS : H S = none := I.hok.fresh lo
  have nA : ∀ t ∈ as, H t = none := fun t ht => I.hok.fresh (ab t ht).1
  have sA : S ∉ as := fun q => (ab S q).2 rfl
  have low : ∀ b o, s.heap.get? b = some o → b ≠ S ∧ b ∉ as := fun b o e => ⟨fun q => Nat.lt_irrefl _ (Nat.lt_of_lt_of_le (q ▸ Heap.lt_size e) lo), fun q => Nat.lt_irrefl _ (Nat.lt_of_lt_of_le (Heap.lt_size e) (ab b q).1)⟩
  have inj : ∀ (j : Nat) (a : Addr), as[j]? = some a → as.idxOf a = j := fun j a e => by
    obtain ⟨hj, rfl⟩ := List.getElem?_eq_some_iff.mp e
    exact List.Nodup.idxOf_getElem nd j hj
  generalize hH : (fun b => if b = S then some (HO.lst (as.map V.ref)) else if b ∈ as then some (HO.tup (ls.getD (as.idxOf b) [])) else H b : Hp) = H'
  have eS : H' S = some (.lst (as.map V.ref)) := by rw [← hH]; simp
  have eA : ∀ (j : Nat) (a : Addr) (l : List V), as[j]? = some a → ls[j]? = some l → H' a = some (.tup l) := fun j a l e1 e2 => by
    have ha : a ∈ as := List.mem_of_getElem? e1
    have hne : a ≠ S := (ab a ha).2
    rw [← hH]
    simp [hne, ha, inj j a e1, e2]
  have off : ∀ b, b ≠ S → b ∉ as → H' b = H b := fun b h1 h2 => by rw [← hH]; simp [h1, h2]
  have kp : ∀ b o, H b = some o → H' b = some o := fun b o e => by
    rw [off b (fun q => by rw [q, nS] at e; cases e) (fun q => by rw [nA b q] at e; cases e)]
    exact e
  refine ⟨H', kp, nS, nA, sA, eS, eA, ?_⟩
  refine I.call' (ch := []) rfl ⟨fun b o q _ _ _ => hk b o q, fun b o q _ _ _ => ⟨o.slots, hk b o q⟩, fun b o q n _ => ?_, fun b o q _ => ⟨o, hk b o q⟩, fun b xs q => kp b _ q, fun b o u q => kp b _ q, fun b ps q => ⟨#[], by rw [kp b _ q]; simp⟩⟩ (fun b u q => ?_) I.bare fun b z => by simp at z
  · obtain ⟨z1, z2⟩ := low b o q
    rw [off b z1 z2]
    exact n
  · by_cases hb : b ∈ as
    · obtain ⟨j, ej⟩ := List.mem_iff_getElem?.mp hb
      obtain ⟨l, el⟩ : ∃ l, ls[j]? = some l := ⟨_, List.getElem?_eq_getElem (by have := (List.getElem?_eq_some_iff.mp ej).1; omega)⟩
      rw [eA j b l ej el] at q
      cases q
      obtain ⟨z, us, v, g⟩ := pr j b l ej el
      exact ⟨z, us, v, ⟨_, g, rfl, _, rfl⟩⟩
    · by_cases hb2 : b = S
      · subst hb2
        rw [eS] at q
        cases q
        refine ⟨by rw [List.length_map]; exact hz, acc.toList, c, by rw [hacc]; exact refs_vals as, ?_⟩
        rw [Array.toArray_toList]
        exact hS
      · rw [off b hb2 hb] at q
        exact (I.hok b u q).stay (fun d v _ y => hk d v y) (fun d y => kp d _ y) fun d xs y => kp d _ y
/-- a tuple or a list, tracked -/
def SqA (K : PySem.W.Frag) (H : Hp) (a : Addr) (vs : List V) : Prop := SqL K H a vs ∨ SqT K H a vs
theorem SqA.at {X : Cx} {pins : List (Addr × Obj)} {σ : L2.St} {H : Hp} {s : Shared} {a : Addr} {vs : List V} (I : Inv X pins σ H s) (h : SqA X.K H a vs) : ∃ t us, Sq t s.heap a us ∧ Vals vs us.toList := by
  rcases h with h | h
  · obtain ⟨its, rv, p, _⟩ := I.list h
    exact ⟨false, its.toArray, p.isList, by simpa using rv⟩
  · obtain ⟨its, rv, p, _⟩ := I.tuple h
    exact ⟨true, its.toArray, p, by simpa using rv⟩
def rListZip (K : PySem.W.Frag) : List V → Hp → VK → Prop := fun vs H Q => ∃ a b xs ys, vs = [.ref a, .ref b] ∧ SqA K H a xs ∧ SqA K H b ys ∧ xs.length ≤ sizeLine ∧
  ∀ (H' : Hp) (p : Addr) (as : List Addr), (∀ b o, H b = some o → H' b = some o) → H p = none → (∀ t ∈ as, H t = none) → p ∉ as → H' p = some (.lst (as.map V.ref)) → as.length = min xs.length ys.length → (∀ (j : Nat) (t : Addr) (x y : V), as[j]? = some t → xs[j]? = some x → ys[j]? = some y → H' t = some (.tup [x, y])) → Q (.ref p) H'
/-- list(zip(e, e2)) -/
theorem pe_listZip {X : Cx} {e e2 : Expr} {ta : TA} {p p2 pos pos2 : Pos} (hcalm : X.calm = true) (hgl : Gl X "list") (hml : X.mg "list" = none) (hg : Gl X "zip") (hm : X.mg "zip" = none) (ha : PA X [e, e2] ta) (hv : bootBuiltins "list" = some (.type "list") := by rfl)
    (hs : starEach [e, e2] X.env = (false, eval e X.env) :: starEach [e2] X.env := by rfl) (hpl : (backTo pos2 (starEach [e2] X.env)).any (·.1) = false := by rfl)
    (hs1 : starEach [.Call (.Name "zip" p2) [e, e2] [] pos2] X.env = (false, eval (.Call (.Name "zip" p2) [e, e2] [] pos2) X.env) :: starEach [] X.env := by rfl) :
    PE X (.Call (.Name "list" p) [.Call (.Name "zip" p2) [e, e2] [] pos2] [] pos) (fun σ H Q => ta σ H fun vs H1 => rListZip X.K vs H1 Q) := by
  refine ⟨fun pins s σ H Q I h => ?_⟩
  refine wpAny_Call_Name_kw (ld_blt I hgl hml hv ?_)
  refine PyProof.Rows.callWith_type1 ?_ hs1 rfl
  rw [hs1]
  show wpAny _ _ (spliced ((false, eval (.Call (.Name "zip" p2) [e, e2] [] pos2) X.env) :: backTo pos (starEach [] X.env))) _ _ s
  refine Calls.spliced_cons ?_
  refine Call_ (ld_blt I hg hm PyProof.Rows.boot_zip (PyProof.Rows.callWith_type1 (thn (ha.run pos2 pins s σ H _ I h) fun us s1 ⟨vs, H1, I1, r1, q1⟩ => ?_) hs hpl))
  obtain ⟨a, b, xs, ys, ex, n1, n2, hz, q1⟩ := q1
  subst ex
  cases r1 with
  | cons r rr =>
    cases rr with
    | cons r' rr =>
      cases rr
      cases r
      cases r'
      obtain ⟨t1, u1, m1, v1⟩ := n1.at I1
      obtain ⟨t2, u2, m2, v2⟩ := n2.at I1
      refine call_zip m1 m2 fun h' a1 a2 a3 a4 a5 a6 => Calls.spliced_nil ?_
      have l1 : xs.length = u1.size := v1.length.trans Array.length_toList
      have l2 : ys.length = u2.size := v2.length.trans Array.length_toList
      have D := PySem.W.ktu_apart s1.heap.objs.size a b m1.lt m2.lt
      have hb4 : s1.heap.objs.size + 4 < h'.objs.size := Heap.lt_size a1
      refine zl_list (q := false) (t1 := t1) (t2 := t2) (n := min u1.size u2.size) (I1.ok.hd hcalm) D ⟨a2, a4, a5, m1.at fun o => a6 _ o, m2.at fun o => a6 _ o, .inl ⟨a1, _, _, a3⟩⟩ (Heap.lt_size a3) rfl (fun q => nomatch q) (by omega) fun h2 tk acc c as b1 b2 b3 b4 b5 => ?_
      have hsz : s1.heap.objs.size ≤ h'.objs.size := Nat.le_of_lt (Nat.lt_of_le_of_lt (Nat.le_add_right _ _) hb4)
      have ne : ∀ {c o} {k : Nat}, s1.heap.get? c = some o → c ≠ s1.heap.objs.size + k := fun e => Nat.ne_of_lt (Nat.lt_of_lt_of_le (Heap.lt_size e) (Nat.le_add_right _ _))
      have kk : ∀ b o, s1.heap.get? b = some o → h2.get? b = some o := fun c o e => b1 c o (ne e) (ne e) (ne (k := 0) e) (ne e) (a6 c o e)
      obtain ⟨H', k1, k2, k3, k4, k5, k6, J⟩ := many (tk := tk) (S := h'.objs.size) (ls := (xs.zip ys).map fun q => [q.1, q.2]) I1 kk b2 hsz (fun t ht => ⟨Nat.le_trans hsz (Nat.le_trans (Nat.le_succ _) (b4.above t ht)), Nat.ne_of_gt (b4.above t ht)⟩) (b4.rise.imp fun {x y} (h : x < y) => Nat.ne_of_lt h) (by rw [b3, List.length_map, List.length_zip, l1, l2]) (by rw [b3]; omega) b5 (fun j t l e1 e2 => by
        obtain ⟨x', y', g1, g2, g3⟩ := b4.at_ j t e1
        rw [List.getElem?_map] at e2
        obtain ⟨⟨x, y⟩, e3, e4⟩ := Option.map_eq_some_iff.mp e2
        subst e4
        obtain ⟨hx, hy⟩ := List.getElem?_zip_eq_some.mp e3
        obtain ⟨x'', g4, g5⟩ := v1.get hx
        obtain ⟨y'', g6, g7⟩ := v2.get hy
        rw [Array.getElem?_toList] at g4 g6
        rw [g1] at g4
        rw [g2] at g6
        cases g4
        cases g6
        exact ⟨by show 2 ≤ sizeLine; decide, [x', y'], .cons g5 (.cons g7 .nil), g3⟩)
      refine ⟨.ref h'.objs.size, H', J, rfl, q1 H' _ as k1 k2 k3 k4 k5 (by rw [b3, l1, l2]) fun j t x y e1 ex ey => k6 j t [x, y] e1 ?_⟩
      rw [List.getElem?_map, List.getElem?_zip_eq_some (z := (x, y)) |>.mpr ⟨ex, ey⟩]
      rfl
end Zq
end
section
set_option maxHeartbeats 4000000
namespace Dv
open PySem PySem.Spec PyProof.Rows L2
variable {Sg : Type}
/-! ### keys, dicts -/
def keyD : D → Option Key
  | .int i => some (.inl i)
  | .str x => some (.inr x)
  | _ => none
def lkK {κ : Type} [DecidableEq κ] : List κ → List D → κ → Option D
  | k' :: ks, d :: l, k => if k' = k then some d else lkK ks l k
  | _, _, _ => none
def repD {κ : Type} [DecidableEq κ] : List κ → List D → κ → D → List D
  | k' :: ks, d' :: l, k, d => (if k' = k then d else d') :: repD ks l k d
  | _, _, _, _ => []
def putD {κ : Type} [DecidableEq κ] (ks : List κ) (l : List D) (k : κ) (d : D) : List κ × List D := if (ks.any fun k' => decide (k' = k)) = true then (ks, repD ks l k d) else (ks ++ [k], l ++ [d])
section
variable {X : Cx} {G : Gd Sg} {e a b c : Expr} {pos : Pos} {H : Hp} {F : Addr → Prop}
theorem Rb.key {d : D} {v : V} {k : Key} (h : Rb G H F d v) (e : keyD d = some k) : v = kV k := by
  cases d <;> try (cases e; done)
  case int i => cases e; exact h
  case str i => cases e; exact h
theorem lk_ok {κ : Type} [DecidableEq κ] {k : κ} : ∀ {kvs : List (κ × V)} {ks : List κ} {l : List D}, kvs.map (·.1) = ks → Rps G H F l (kvs.map (·.2)) → (∀ d, lkK ks l k = some d → ∃ v, valV kvs k = some v ∧ Rp G H F d v) ∧ (lkK ks l k = none → valV kvs k = none)
  | [], ks, l, e, r => by
    subst e
    exact ⟨fun d q => (by cases l <;> cases q), fun _ => rfl⟩
  | (k', v') :: kvs, ks, l, e, r => by
    subst e
    cases l with
    | nil => cases (show _ = [] from r)
    | cons d0 l =>
      obtain ⟨v, r', e1, h1, h2⟩ := r
      cases e1
      by_cases hk : k' = k
      · refine ⟨fun d q => ⟨v', valV_pos hk, ?_⟩, fun q => ?_⟩
        · have : (if k' = k then some d0 else lkK (kvs.map (·.1)) l k) = some d := q
          rw [if_pos hk] at this; cases this; exact h1
        · have : (if k' = k then some d0 else lkK (kvs.map (·.1)) l k) = none := q
          rw [if_pos hk] at this; cases this
      · obtain ⟨a1, a2⟩ := lk_ok (k := k) (kvs := kvs) rfl h2
        refine ⟨fun d q => ?_, fun q => ?_⟩
        · have q' : (if k' = k then some d0 else lkK (kvs.map (·.1)) l k) = some d := q
          rw [if_neg hk] at q'
          obtain ⟨v, e2, h3⟩ := a1 d q'
          exact ⟨v, by rw [valV_neg hk]; exact e2, h3⟩
        · have q' : (if k' = k then some d0 else lkK (kvs.map (·.1)) l k) = none := q
          rw [if_neg hk] at q'
          rw [valV_neg hk]; exact a2 q'
theorem rep_ok {κ : Type} [DecidableEq κ] {k : κ} {d : D} {v : V} (hv : Rp G H F d v) : ∀ {kvs : List (κ × V)} {l : List D}, Rps G H F l (kvs.map (·.2)) → Rps G H F (repD (kvs.map (·.1)) l k d) ((kvs.map fun kv => if kv.1 = k then (kv.1, v) else kv).map (·.2))
  | [], l, r => by
    cases l with
    | nil => exact rfl
    | cons d0 l => obtain ⟨v, r', e1, _⟩ := r; cases e1
  | (k', v') :: kvs, l, r => by
    cases l with
    | nil => cases (show _ = [] from r)
    | cons d0 l =>
      obtain ⟨v1, r', e1, h1, h2⟩ := r
      cases e1
      refine ⟨_, _, rfl, ?_, rep_ok hv h2⟩
      by_cases hk : k' = k
      · simp only [if_pos hk]; exact hv
      · simp only [if_neg hk]; exact h1
theorem put_ok {κ : Type} [DecidableEq κ] {k : κ} {d : D} {v : V} (hv : Rp G H F d v) {kvs : List (κ × V)} {ks : List κ} {l : List D} (e : kvs.map (·.1) = ks) (r : Rps G H F l (kvs.map (·.2))) :
    (putK kvs k v).map (·.1) = (putD ks l k d).1 ∧ Rps G H F (putD ks l k d).2 ((putK kvs k v).map (·.2)) := by
  subst e
  unfold putD putK
  have eb : ((kvs.map (·.1)).any fun k' => decide (k' = k)) = kvs.any fun kv => decide (kv.1 = k) := by rw [List.any_map]; rfl
  rw [eb]
  cases hb : kvs.any fun kv => decide (kv.1 = k) with
  | true =>
    simp only [if_true]
    refine ⟨?_, rep_ok hv r⟩
    rw [List.map_map]
    apply List.map_congr_left
    intro kv _
    show (if kv.1 = k then (kv.1, v) else kv).1 = kv.1
    split <;> rfl
  | false =>
    simp only [Bool.false_eq_true, if_false]
    rw [List.map_append, List.map_append]
    exact ⟨rfl, r.app (Rps.one hv)⟩
/-! d[k] -/
def opDGet : D → D → Option Rv
  | .dct ks l, kd => (keyD kd).bind fun k => (lkK ks l k).bind fun d => some (.im d)
  | _, _ => none
theorem pd_dget {o i : Expr} {f g : SE Sg} (hu : X.A.units + 1 < cLine) (ho : PE X o (tE G f)) (hi : PE X i (tE G g)) (hs : NoSl i) : PE X (.Subscript o i pos) (tE G (eOp2 opDGet f g)) := by
  refine PE.mono' (pe_dget hu ho hi hs) ?_
  rintro σ H Q ⟨H0, F0, ρ, F, As, S, rr, ρ', S', R, e, k⟩
  obtain ⟨⟨r1, ρ1, S1⟩, e1, e⟩ := Option.bind_eq_some_iff.mp e
  obtain ⟨⟨r2, ρ2, S2⟩, e2, e⟩ := Option.bind_eq_some_iff.mp e
  obtain ⟨r3, e3, e⟩ := Option.bind_eq_some_iff.mp e
  cases e
  refine ⟨H0, F0, ρ, F, As, S, r1, ρ1, S1, R, e1, fun v1 H1 F1 A1 p1 R1 h1 => ?_⟩
  refine ⟨H0, F0, ρ1, F1, A1, S1, r2, _, _, R1, e2, fun v2 H2 F2 A2 p2 R2 h2 => ?_⟩
  have hb := h1.rb.fr p2.fr p2.fF
  dsimp only at e3
  cases q : r1.d with
  | dct ks l =>
    rw [q] at e3 hb
    obtain ⟨kk, f1, e3⟩ := Option.bind_eq_some_iff.mp (show (keyD r2.d).bind (fun k => (lkK ks l k).bind fun d => some (Rv.im d)) = some rr from e3)
    obtain ⟨d, f2, e3⟩ := Option.bind_eq_some_iff.mp e3
    cases e3
    obtain ⟨a, kvs, rfl, rd, z, ek, r⟩ := hb
    have hk := h2.rb.key f1
    subst hk
    obtain ⟨v, e5, hv⟩ := (lk_ok (k := kk) ek r).1 d f2
    exact ⟨a, v, rfl, .inl ⟨kvs, kk, rd, rfl, e5.symm⟩, k v H2 F2 A2 (p1.trans p2) R2 hv⟩
  | _ => rw [q] at e3; cases e3
/-! d.get(k, x) -/
def eDGet2 (f g h : SE Sg) : SE Sg := fun ρ S => (f ρ S).bind fun p => match p.1.d with
  | .dct _ _ => (g p.2.1 p.2.2).bind fun q => (h q.2.1 q.2.2).bind fun w => match p.1.d with
    | .dct ks l => (keyD q.1.d).bind fun k => (frz w.1).bind fun dd => if pureD dd = true then some (.im ((lkK ks l k).getD dd), w.2.1, w.2.2) else none
    | _ => none
  | _ => none
theorem pd_dget2 {o i x : Expr} {f g h : SE Sg} {apos cpos : Pos} (hu : X.A.units + 1 < cLine) (ho : PE X o (tE G f)) (hi : PE X i (tE G g)) (hx : PE X x (tE G h)) (m : M2 X o "get" apos i x cpos) : PE X (.Call (.Attribute o "get" apos) [i, x] [] cpos) (tE G (eDGet2 f g h)) := by
  refine PE.mono' (pe_dget2 hu ho hi hx m) ?_
  rintro σ H Q ⟨H0, F0, ρ, F, As, S, rr, ρ', S', R, e, k⟩
  obtain ⟨⟨r1, ρ1, S1⟩, e1, e⟩ := Option.bind_eq_some_iff.mp e
  refine ⟨H0, F0, ρ, F, As, S, r1, ρ1, S1, R, e1, fun v1 H1 F1 A1 p1 R1 h1 => ?_⟩
  dsimp only at e
  have hb := h1.rb
  cases q : r1.d with
  | dct ks l =>
    rw [q] at e hb
    dsimp only at e
    obtain ⟨⟨r2, ρ2, S2⟩, e2, e⟩ := Option.bind_eq_some_iff.mp e
    obtain ⟨⟨r3, ρ3, S3⟩, e3, e⟩ := Option.bind_eq_some_iff.mp e
    obtain ⟨kk, f1, e⟩ := Option.bind_eq_some_iff.mp e
    obtain ⟨dd, f2, e⟩ := Option.bind_eq_some_iff.mp e
    dsimp only at f1 f2 e
    by_cases hp : pureD dd = true
    · rw [if_pos hp] at e; cases e
      have hb0 := hb
      obtain ⟨a, kvs, rfl, rd, z, ek, r⟩ := hb
      refine ⟨a, rfl, .inl ⟨kvs, rd⟩, H0, F0, ρ1, F1, A1, S1, r2, ρ2, S2, R1, e2, fun v2 H2 F2 A2 p2 R2 h2 => ?_⟩
      refine ⟨H0, F0, ρ2, F2, A2, S2, r3, _, _, R2, e3, fun v3 H3 F3 A3 p3 R3 h3 => ?_⟩
      have hk := h2.rb.key f1
      subst hk
      have rd3 := p3.fr.rd z (p2.fr.rd z rd)
      have r3' := (r.fr p2.fr p2.fF).fr p3.fr p3.fF
      refine ⟨valV kvs kk, .inl ⟨kvs, kk, rd3, rfl, rfl⟩, k _ H3 F3 A3 ((p1.trans p2).trans p3) R3 ?_⟩
      obtain ⟨b1, b2⟩ := lk_ok (k := kk) ek r3'
      cases hq : lkK ks l kk with
      | some d =>
        obtain ⟨v, e5, hv⟩ := b1 d hq
        rw [e5]
        exact hv
      | none =>
        rw [b2 hq]
        have hr : Rb G H3 F3 r3.d v3 := h3.rb
        have er : r3.d = dd := by
          cases r3 with
          | im d => cases f2; rfl
          | nw d => cases f2; rfl
          | br d =>
            have f2 : (if pureD d = true then some d else none) = some dd := f2
            by_cases hpd : pureD d = true
            · rw [if_pos hpd] at f2; cases f2; rfl
            · rw [if_neg hpd] at f2; cases f2
        rw [er] at hr
        exact Rb.pure hr hp
    · rw [if_neg hp] at e; cases e
  | _ => rw [q] at e; cases e
/-! x[k] = v, x a slot's own dict -/
def sDPut (i : Nat) (g h : SE Sg) : SS Sg := fun ρ S => (h ρ S).bind fun p => (frz p.1).bind fun d => match p.2.1[i]? with
  | some (.ow (.dct _ _)) => (g p.2.1 p.2.2).bind fun q => match q.2.1[i]? with
    | some (.ow (.dct ks l)) => (keyD q.1.d).bind fun k => if l.length < sizeLine then some (.nx, q.2.1.set i (.ow (.dct (putD ks l k d).1 (putD ks l k d).2)), q.2.2) else none
    | _ => none
  | _ => none
theorem ds_dput {i : Nat} {x : Str} {ie value : Expr} {g h : SE Sg} {p' pos' : Pos} (hu : X.A.units + 1 < cLine) (hN : X.N[i]? = some x) (hv : Vis X.env.scope x) (hi : PE X ie (tE G g)) (hx : PE X value (tE G h))
    (hs : swapsWith value (some (.Subscript (.Name x p') ie pos')) pos.line X.env = pure false := by rfl) (hd : (x == ("__debug__" : Str)) = false := by decide) (hcd : (x == ("__classdict__" : Str)) = false := by decide) :
    PS X (.Assign [.Subscript (.Name x p') ie pos'] value pos) (tSs G (sDPut i g h)) := by
  refine PS.mono' (ps_dput hu (pe_var hN hv hd hcd) hi hx hs) ?_
  rintro D σ H ⟨H0, F0, ρ, F, As, S, cc, ρ', S', R, e, k⟩
  obtain ⟨⟨r1, ρ1, S1⟩, e1, e⟩ := Option.bind_eq_some_iff.mp e
  obtain ⟨d, ed, e⟩ := Option.bind_eq_some_iff.mp e
  refine ⟨H0, F0, ρ, F, As, S, r1, ρ1, S1, R, e1, fun v1 H1 F1 A1 p1 R1 h1 => ?_⟩
  obtain ⟨F1', g1, gg1, R1', h1'⟩ := R1.frz h1 ed
  have pp1 := p1.frz g1 gg1
  dsimp only at e
  cases q : ρ1[i]? with
  | none => rw [q] at e; cases e
  | some sl =>
    rw [q] at e
    cases sl with
    | non => cases e
    | im d => cases e
    | ow d0 =>
      cases d0 with
      | dct ks0 l0 =>
        obtain ⟨⟨r2, ρ2, S2⟩, e2, e⟩ := Option.bind_eq_some_iff.mp e
        obtain ⟨w, e3, p, ea, e4, kvs0, hp, _⟩ := R1'.slot i _ q
        subst e4
        refine ⟨.ref p, e3, H0, F0, ρ1, F1', A1, S1, r2, ρ2, S2, R1', e2, fun v2 H2 F2 A2 p2 R2 h2 => ?_⟩
        dsimp only at e
        cases q2 : ρ2[i]? with
        | none => rw [q2] at e; cases e
        | some sl2 =>
          rw [q2] at e
          cases sl2 with
          | non => cases e
          | im d => cases e
          | ow d2 =>
            cases d2 with
            | dct ks l =>
              obtain ⟨kk, f1, e⟩ := Option.bind_eq_some_iff.mp e
              by_cases hz : l.length < sizeLine
              · rw [if_pos hz] at e; cases e
                obtain ⟨w2, e5, p', ea2, e6, kvs, hp2, ek, r⟩ := R2.slot i _ q2
                have epp : p' = p := by
                  have := p2.as i p' ea2
                  rw [ea] at this; cases this; rfl
                subst epp
                have hk := h2.rb.key f1
                subst hk
                obtain ⟨nf, nz⟩ := R2.nF i _ ea2
                have hd2 := h1'.fr p2.fr p2.fF
                have mo : Mu (HO.dK kvs) := .inr (.inl ⟨kvs, rfl⟩)
                obtain ⟨b1, b2⟩ := put_ok (k := kk) hd2 ek r
                have hlen : kvs.length < sizeLine := by
                  have := r.length
                  rw [List.length_map] at this
                  omega
                obtain ⟨R3, s3⟩ := R2.mut (o' := .dK (putK kvs kk v1)) (d' := .dct (putD ks l kk d).1 (putD ks l kk d).2) q2 ea2 (.inr (.inl ⟨_, rfl⟩)) ⟨_, upd_same, b1, b2.updO hp2 mo nf⟩
                exact ⟨p', _, rfl, .inl ⟨kvs, kk, hp2, rfl, hlen, rfl⟩, k _ _ F2 A2 ((R.stp (pp1.trans p2)).trans s3) R3⟩
              · rw [if_neg hz] at e; cases e
            | _ => cases e
      | _ => cases e
end
end Dv
end
section
set_option maxHeartbeats 4000000
namespace Dv
open PySem PySem.Spec PyProof.Rows L2
variable {Sg : Type}
section
variable {X : Cx}
/-- the pairs at ps, as they lie there -/
theorem laid_pairs {pins : List (Addr × Obj)} {σ : L2.St} {H : Hp} {s : Shared} (I : Inv X pins σ H s) : ∀ {ps : List Addr} {kvs : List (Key × V)}, Paired (fun p kv => SqT X.K H p [kV kv.1, kv.2]) ps kvs →
    ∃ (ws : List (Value × Value)) (prs : List (Key × Value)), KV kvs prs ∧ ws.length = ps.length ∧ prs.length = ps.length ∧ ∀ (j : Nat) (u v : Value), ws[j]? = some (u, v) → ∃ k b, prs[j]? = some (k, v) ∧ ps[j]? = some b ∧ IsTup s.heap b #[u, v] ∧ keyIs k u = true
  | _, _, .nil => ⟨[], [], .nil, rfl, rfl, fun j u v e => by simp at e⟩
  | _, _, .cons (a := p) (b := kv) h t => by
    obtain ⟨ws, prs, r, l1, l2, hp⟩ := laid_pairs I t
    obtain ⟨its, rv, ht, _⟩ := I.tuple h
    obtain ⟨u, y, ei, ru, ry⟩ := vals2 rv
    subst ei
    refine ⟨(u, y) :: ws, (kv.1, y) :: prs, .cons ⟨rfl, ry⟩ r, by rw [List.length_cons, List.length_cons, l1], by rw [List.length_cons, List.length_cons, l2], fun j u' v' e => ?_⟩
    cases j with
    | zero =>
      have e' : (u, y) = (u', v') := Option.some.inj e
      cases e'
      exact ⟨kv.1, p, rfl, rfl, ht, kV_is (P := X.prog) (w := X.w) ru⟩
    | succ j =>
      obtain ⟨k, b, e1, e2, e3, e4⟩ := hp j u' v' (by simpa using e)
      exact ⟨k, b, by simpa using e1, by simpa using e2, e3, e4⟩
def rDict (K : PySem.W.Frag) : List V → Hp → VK → Prop := fun xs H Q => ∃ (a : Addr) (ps : List Addr) (kvs : List (Key × V)), xs = [.ref a] ∧ (SqL K H a (ps.map V.ref) ∨ (SqT K H a (ps.map V.ref) ∧ ExT K H a)) ∧ Paired (fun p kv => SqT K H p [kV kv.1, kv.2]) ps kvs ∧
    ∀ p, H p = none → Q (.ref p) (upd H p (.dK (mergeK [] kvs)))
theorem call_dictX (hcalm : X.calm = true) : CallR X (.type "dict") (rDict X.K) := by
  intro pins s σ H xs us Q I r q
  obtain ⟨a, ps, kvs, ex, hq, hp, q⟩ := q
  rcases hq with hq | ⟨hq, ext⟩
  · exact call_dictP hcalm pins s σ H xs us Q I r ⟨a, ps, kvs, ex, hq, hp, q⟩
  subst ex
  obtain ⟨u, eu, rx⟩ := vals1 r
  subst eu
  cases rx
  obtain ⟨its, rv, pl, hz⟩ := I.tuple hq
  have ei := refs_at rv
  subst ei
  rw [List.length_map] at hz
  obtain ⟨ws, prs, rel, l1, l2, hw⟩ := laid_pairs I hp
  have ho : ∃ o, s.heap.get? a = some o ∧ o.dict = none := by
    rcases ext with ⟨o, w, e, d⟩ | ⟨o, e, d⟩
    · exact ⟨o, (I.hok a _ e).1, d⟩
    · exact ⟨o, I.kIn a o e, d⟩
  obtain ⟨o, ho, hd⟩ := ho
  obtain ⟨o', ho', hc, n, hdat⟩ := pl
  rw [ho] at ho'
  cases ho'
  have pi : PairItems s.heap (ps.map Value.ref).toArray (fun j => ps.getD j 0) ws := by
    refine ⟨by simp [l1], fun j k v e => ?_⟩
    obtain ⟨kk, b, e1, e2, e3, e4⟩ := hw j k v e
    refine ⟨by simp [e2], .inl ?_⟩
    have eb : ps.getD j 0 = b := by rw [List.getD_eq_getElem?_getD, e2]; rfl
    show s.heap.IsTuple (ps.getD j 0) #[k, v]
    rw [eb]
    exact e3
  refine PySem.call_dict_pairs (knd := mixKind X.prog X.w) (kvs := prs) (PairArg.tuple a (ps.map Value.ref).toArray (fun j => ps.getD j 0) ws) (I.ok.hd hcalm) ⟨⟨o, n, ho, hc, hd, hdat⟩, pi⟩ ⟨by rw [l2, l1], fun i key v e => ?_⟩ (by rw [l1]; exact hz) fun h' tk hd' k => ?_
  · obtain ⟨kk, b, e1, e2, e3, e4⟩ := hw i key v e
    exact ⟨kk, e1, e4⟩
  · have hm : (s.heap.objs.size == sysModules) = false := beq_eq_false_iff_ne.mpr (Nat.ne_of_gt I.big)
    have hlen : (mergeK [] kvs).length ≤ sizeLine := by
      refine Nat.le_trans (length_mergeK kvs []) ?_
      rw [List.length_nil, Nat.zero_add, rel.length, l2]
      exact hz
    exact ⟨.ref s.heap.objs.size, _, I.laid (t' := tk) (fun b o e => k b o (fun z => nomatch z) e) (Nat.le_refl _) (show ObjOk X.prog X.w _ _ _ (.dK (mergeK [] kvs)) from ⟨hlen, hm, merged [] prs, KV.merge rel .nil, hd'⟩), rfl, q _ (I.hok.fresh (Nat.le_refl _))⟩
end
section
variable {X : Cx} {G : Gd Sg} {e a b c : Expr} {pos : Pos} {H : Hp} {F : Addr → Prop}
/-! ### dict(pairs) -/
def prD : D → Option (Key × D)
  | .tup _ [k, d] => (keyD k).bind fun k => some (k, d)
  | _ => none
def prsD : List D → Option (List (Key × D))
  | [] => some []
  | d :: l => (prD d).bind fun p => (prsD l).bind fun ps => some (p :: ps)
def mkD (ps : List (Key × D)) : List Key × List D := ps.foldl (fun acc p => putD acc.1 acc.2 p.1 p.2) ([], [])
theorem prs_ok (hK : G.K = X.K) : ∀ {l : List D} {vs : List V} {ps : List (Key × D)}, Rps G H F l vs → prsD l = some ps → ∃ (as : List Addr) (kvs : List (Key × V)), vs = as.map V.ref ∧ Paired (fun p kv => SqT X.K H p [kV kv.1, kv.2]) as kvs ∧ kvs.map (·.1) = ps.map (·.1) ∧ Rps G H F (ps.map (·.2)) (kvs.map (·.2))
  | [], vs, ps, h, e => by
    cases e
    exact ⟨[], [], h, .nil, rfl, rfl⟩
  | d :: l, vs, ps, h, e => by
    obtain ⟨p, e1, e⟩ := Option.bind_eq_some_iff.mp (show (prD d).bind (fun p => (prsD l).bind fun ps => some (p :: ps)) = some ps from e)
    obtain ⟨qs, e2, e⟩ := Option.bind_eq_some_iff.mp e
    cases e
    obtain ⟨v, r, rfl, h1, h2⟩ := h
    obtain ⟨as, kvs, rfl, hp, hk, hr⟩ := prs_ok hK h2 e2
    cases d with
    | tup x m =>
      match m, e1, h1 with
      | [kd, vd], e1, h1 =>
        obtain ⟨k, e3, e4⟩ := Option.bind_eq_some_iff.mp (show (keyD kd).bind (fun k => some (k, vd)) = some p from e1)
        cases e4
        obtain ⟨a, ws, rfl, ⟨s, _⟩, z, w1, r1, rfl, g1, w2, r2, rfl, g2, e5⟩ := h1
        cases e5
        have := Rb.key g1.rb e3
        subst this
        exact ⟨a :: as, (k, w2) :: kvs, rfl, .cons (hK ▸ s) hp, by rw [List.map_cons, List.map_cons, hk], ⟨w2, _, rfl, g2, hr⟩⟩
      | [], e1, _ => cases e1
      | [_], e1, _ => cases e1
      | _ :: _ :: _ :: _, e1, _ => cases e1
    | _ => cases e1
theorem mk_ok : ∀ {ps : List (Key × D)} {kvs acc : List (Key × V)} {ks : List Key} {l : List D}, kvs.map (·.1) = ps.map (·.1) → Rps G H F (ps.map (·.2)) (kvs.map (·.2)) → acc.map (·.1) = ks → Rps G H F l (acc.map (·.2)) →
    (mergeK acc kvs).map (·.1) = (ps.foldl (fun acc p => putD acc.1 acc.2 p.1 p.2) (ks, l)).1 ∧ Rps G H F (ps.foldl (fun acc p => putD acc.1 acc.2 p.1 p.2) (ks, l)).2 ((mergeK acc kvs).map (·.2))
  | [], kvs, acc, ks, l, h1, h2, h3, h4 => by
    have : kvs = [] := by simpa using h1
    subst this
    exact ⟨h3, h4⟩
  | (k, d) :: ps, kvs, acc, ks, l, h1, h2, h3, h4 => by
    cases kvs with
    | nil => cases h1
    | cons kv kvs =>
      obtain ⟨k', v⟩ := kv
      obtain ⟨e1, e2⟩ := List.cons.inj h1
      obtain ⟨w, r, e3, g1, g2⟩ := h2
      cases e3
      have e1 : k' = k := e1
      subst e1
      obtain ⟨b1, b2⟩ := put_ok (k := k') g1 h3 h4
      exact mk_ok (ps := ps) (acc := putK acc k' v) e2 g2 b1 b2
def opDict : List D → Option Rv
  | [.lst l] => (prsD l).bind fun ps => some (.nw (.dct (mkD ps).1 (mkD ps).2))
  | [.tup true l] => (prsD l).bind fun ps => some (.nw (.dct (mkD ps).1 (mkD ps).2))
  | _ => none
theorem KN.dct {S : Sg} {ks : List Key} {l : List D} {Q : VK} {kvs : List (Key × V)} (g : Gs G H F S) (k : KN G H F (.nw (.dct ks l)) Q) (h1 : kvs.map (·.1) = ks) (h : Rps G H F l (kvs.map (·.2))) {p : Addr} (hp : H p = none) : Q (.ref p) (upd H p (.dK kvs)) :=
  k _ _ (Ext.upd hp) ⟨p, rfl, hp, kvs, upd_same, h1, h.fr (Fr.upd hp) fun _ q => q⟩
theorem od_dict (hK : G.K = X.K) : OpN G (rDict X.K) opDict := by
  intro xs ds H F S res Q g hx eq k
  match ds, eq, hx with
  | [.lst l], eq, hx =>
    obtain ⟨ps, e1, e2⟩ := Option.bind_eq_some_iff.mp (show (prsD l).bind (fun ps => some (Rv.nw (.dct (mkD ps).1 (mkD ps).2))) = some res from eq)
    cases e2
    obtain ⟨v, rfl, a, vs, rfl, s, z, r⟩ := rbs_one hx
    obtain ⟨as, kvs, rfl, hp, hk, hr⟩ := prs_ok hK r e1
    obtain ⟨b1, b2⟩ := mk_ok (acc := []) (ks := []) (l := []) hk hr rfl rfl
    exact ⟨a, as, kvs, rfl, .inl (.inl (.inl s)), hp, fun p hn => KN.dct g k b1 b2 hn⟩
  | [.tup true l], eq, hx =>
    obtain ⟨ps, e1, e2⟩ := Option.bind_eq_some_iff.mp (show (prsD l).bind (fun ps => some (Rv.nw (.dct (mkD ps).1 (mkD ps).2))) = some res from eq)
    cases e2
    obtain ⟨v, rfl, a, vs, rfl, ⟨s, sx⟩, z, r⟩ := rbs_one hx
    obtain ⟨as, kvs, rfl, hp, hk, hr⟩ := prs_ok hK r e1
    obtain ⟨b1, b2⟩ := mk_ok (acc := []) (ks := []) (l := []) hk hr rfl rfl
    exact ⟨a, as, kvs, rfl, .inr ⟨hK ▸ s, hK ▸ sx.1 rfl⟩, hp, fun p hn => KN.dct g k b1 b2 hn⟩
/-! ### list(zip(x, y)) -/
def zipD : List D → List D → List D
  | d :: l, e :: m => .tup false [d, e] :: zipD l m
  | _, _ => []
theorem zipD_length : ∀ (l m : List D), (zipD l m).length = min l.length m.length
  | [], _ => by simp [zipD]
  | _ :: _, [] => by simp [zipD]
  | d :: l, e :: m => by simp only [zipD, List.length_cons, zipD_length l m]; omega
theorem zipD_get : ∀ {l m : List D} {j : Nat} {d : D}, (zipD l m)[j]? = some d → ∃ x y, l[j]? = some x ∧ m[j]? = some y ∧ d = .tup false [x, y]
  | [], _, _, _, h => by simp [zipD] at h
  | _ :: _, [], _, _, h => by simp [zipD] at h
  | x :: l, y :: m, 0, d, h => ⟨x, y, rfl, rfl, (Option.some.inj h).symm⟩
  | x :: l, y :: m, j + 1, d, h => by
    obtain ⟨a, b, e1, e2, e3⟩ := zipD_get (l := l) (m := m) (j := j) (by simpa [zipD] using h)
    exact ⟨a, b, by simpa using e1, by simpa using e2, e3⟩
theorem Rps.of_get : ∀ {l : List D} {vs : List V}, l.length = vs.length → (∀ (j : Nat) (d : D) (v : V), l[j]? = some d → vs[j]? = some v → Rp G H F d v) → Rps G H F l vs
  | [], vs, e, _ => List.eq_nil_of_length_eq_zero e.symm
  | d :: l, [], e, _ => by cases e
  | d :: l, v :: vs, e, h => ⟨v, vs, rfl, h 0 d v rfl rfl, Rps.of_get (Nat.succ.inj e) fun j d' v' e1 e2 => h (j + 1) d' v' (by simpa using e1) (by simpa using e2)⟩
def seqD : D → Option (List D)
  | .lst l => some l
  | .tup _ l => some l
  | _ => none
theorem Rb.seq (hK : G.K = X.K) {d : D} {v : V} {l : List D} (h : Rb G H F d v) (e : seqD d = some l) : ∃ a vs, v = .ref a ∧ Zq.SqA X.K H a vs ∧ Rps G H F l vs := by
  cases d with
  | lst l' =>
    cases e
    obtain ⟨a, vs, rfl, s, z, r⟩ := h
    exact ⟨a, vs, rfl, .inl (.inl (.inl s)), r⟩
  | tup x l' =>
    cases e
    obtain ⟨a, vs, rfl, ⟨s, _⟩, z, r⟩ := h
    exact ⟨a, vs, rfl, .inr (hK ▸ s), r⟩
  | _ => cases e
def opListZip : List D → Option Rv := fun ds => match ds with
  | d :: e :: ds' => (seqD d).bind fun l => (seqD e).bind fun m => if ds'.isEmpty = true ∧ l.length ≤ sizeLine then some (.nw (.lst (zipD l m))) else none
  | _ => none
theorem od_listZip (hK : G.K = X.K) : OpN G (Zq.rListZip X.K) opListZip := by
  intro xs ds H F S res Q g hx eq k
  cases ds with
  | nil => cases eq
  | cons d ds =>
    cases ds with
    | nil => cases eq
    | cons e ds =>
      obtain ⟨l, e1, eq⟩ := Option.bind_eq_some_iff.mp (show (seqD d).bind (fun l => (seqD e).bind fun m => if ds.isEmpty = true ∧ l.length ≤ sizeLine then some (Rv.nw (.lst (zipD l m))) else none) = some res from eq)
      obtain ⟨m, e2, eq⟩ := Option.bind_eq_some_iff.mp eq
      by_cases hz : ds.isEmpty = true ∧ l.length ≤ sizeLine
      · rw [if_pos hz] at eq; cases eq
        have : ds = [] := by simpa using hz.1
        subst this
        obtain ⟨v, w, rfl, hv, hw⟩ := rbs_two hx
        obtain ⟨a, vs, rfl, sa, ra⟩ := hv.seq hK e1
        obtain ⟨b, us, rfl, sb, rb⟩ := hw.seq hK e2
        have l1 := ra.length
        have l2 := rb.length
        refine ⟨a, b, vs, us, rfl, sa, sb, by omega, fun H' p as k1 k2 k3 k4 k5 k6 k7 => ?_⟩
        have fr : Fr G.Z H H' := fun x o e _ => k1 x o e
        refine k _ H' k1 ⟨p, rfl, k2, _, k5, Rps.of_get (by rw [zipD_length, List.length_map, k6, l1, l2]) fun j d0 v0 g1 g2 => ?_⟩
        obtain ⟨x, y, g3, g4, rfl⟩ := zipD_get g1
        rw [List.getElem?_map] at g2
        obtain ⟨t, g5, g6⟩ := Option.map_eq_some_iff.mp g2
        subst g6
        obtain ⟨vx, g7, hx⟩ := ra.get g3
        obtain ⟨vy, g8, hy⟩ := rb.get g4
        exact ⟨t, [vx, vy], rfl, .no (k7 j t vx vy g5 g7 g8), (g.fresh (k3 t (List.mem_of_getElem? g5))).2, ⟨vx, _, rfl, hx.fr fr fun _ q => q, vy, _, rfl, hy.fr fr fun _ q => q, rfl⟩⟩
      · rw [if_neg hz] at eq; cases eq
theorem pd_listZip {e2 : Expr} {f : SA Sg} {p p2 pos2 : Pos} (hK : G.K = X.K) (hcalm : X.calm = true) (hgl : Gl X "list") (hml : X.mg "list" = none) (hg : Gl X "zip") (hm : X.mg "zip" = none) (ha : PA X [e, e2] (tAB G f))
    (hs : starEach [e, e2] X.env = (false, eval e X.env) :: starEach [e2] X.env := by rfl) (hpl : (backTo pos2 (starEach [e2] X.env)).any (·.1) = false := by rfl)
    (hs1 : starEach [.Call (.Name "zip" p2) [e, e2] [] pos2] X.env = (false, eval (.Call (.Name "zip" p2) [e, e2] [] pos2) X.env) :: starEach [] X.env := by rfl) :
    PE X (.Call (.Name "list" p) [.Call (.Name "zip" p2) [e, e2] [] pos2] [] pos) (tE G (eOpN opListZip f)) :=
  PE.mono' (Zq.pe_listZip hcalm hgl hml hg hm ha rfl hs hpl hs1) (opN_le (od_listZip hK))
end
end Dv
end
section
set_option maxHeartbeats 4000000
namespace Dv
open PySem PySem.Spec PyProof.Rows L2
variable {Sg : Type}
/-! ### binding -/
def sel {α : Type} (is : List Nat) (l : List α) : List α := is.filterMap (l[·]?)
theorem sel_vals : ∀ {is : List Nat} {vs : List V} {us : List Value}, Vals vs us → Vals (sel is vs) (sel is us)
  | [], _, _, _ => .nil
  | i :: is, vs, us, h => by
    have ih := sel_vals (is := is) h
    unfold sel at ih ⊢
    rw [List.filterMap_cons, List.filterMap_cons]
    cases q : vs[i]? with
    | none =>
      have : us[i]? = none := by
        have hl := h.length
        have := List.getElem?_eq_none_iff.mp q
        exact List.getElem?_eq_none (by omega)
      rw [this]
      exact ih
    | some v =>
      obtain ⟨u, e, r⟩ := h.get q
      rw [e]
      exact .cons r ih
theorem sel_rps {G : Gd Sg} {H : Hp} {F : Addr → Prop} : ∀ {is : List Nat} {ds : List D} {vs : List V}, Rps G H F ds vs → Rps G H F (sel is ds) (sel is vs)
  | [], _, _, _ => rfl
  | i :: is, ds, vs, h => by
    have ih := sel_rps (is := is) h
    unfold sel at ih ⊢
    rw [List.filterMap_cons, List.filterMap_cons]
    cases q : ds[i]? with
    | none =>
      have : vs[i]? = none := by
        have hl := h.length
        have := List.getElem?_eq_none_iff.mp q
        exact List.getElem?_eq_none (by omega)
      rw [this]
      exact ih
    | some d =>
      obtain ⟨v, e, r⟩ := h.get q
      rw [e]
      exact ⟨v, _, rfl, r, ih⟩
theorem sel_length {α β : Type} {is : List Nat} {l : List α} {m : List β} (h : l.length = m.length) : (sel is l).length = (sel is m).length := by
  induction is with
  | nil => rfl
  | cons i is ih =>
    unfold sel at ih ⊢
    rw [List.filterMap_cons, List.filterMap_cons]
    by_cases hi : i < l.length
    · rw [List.getElem?_eq_getElem hi, List.getElem?_eq_getElem (show i < m.length by omega)]
      simp [ih]
    · rw [List.getElem?_eq_none (by omega), List.getElem?_eq_none (show m.length ≤ i by omega)]
      exact ih
theorem Bn.of {K : PySem.W.Frag} {x qual : Str} {params : Arguments} {body : List Stmt} {scope : Scope} {kws : List (Str × V)} {f : Addr} {fd : FuncData} {ps ks : List Str} {n : Nat} (is : List Nat) (F : FunD K x qual params body scope [] kws f fd)
    (h : ∀ (kV doc pm : Value) (an : Option Addr) (cdv ct : Value) (us ws : List Value), us.length = n → ws.length = ks.length → bindArgs (PySem.W.fnOf x qual params body scope .none kV doc pm an cdv ct) ⟨us, ks.zip ws⟩ = pure (ps.zip (sel is (us ++ ws))) ∧ (sel is (us ++ ws)).length = ps.length) :
    Bn K fd ps n ks (fun ds es => sel is (ds ++ es)) := by
  obtain ⟨oc, od, dV, kV, doc, pm, an, cdv, ct, osl, rfl, lk, hcd, hD, hK⟩ := F.ex
  rcases hD with ⟨_, rfl⟩ | ⟨e, _⟩
  · refine ⟨fun s us ws vs zs kin l1 l2 r1 r2 => ?_⟩
    obtain ⟨e1, e2⟩ := h kV doc pm an cdv ct us ws l1 l2
    refine ⟨sel is (us ++ ws), sel is (vs ++ zs), BindsTo.of_looks fun M => ?_, sel_vals (r1.append r2), ?_, fun G H F ds es h1 h2 => sel_rps (h1.app h2)⟩
    · rw [e1]
      exact .of_pure rfl
    · rw [← e2]
      exact sel_length (by rw [List.length_append, List.length_append, r1.length, r2.length])
  · exact absurd rfl e
section
variable {X : Cx} {G : Gd Sg} {e a b c : Expr} {es : List Expr} {pos : Pos}
/-! ### keywords, calls -/
theorem PK.mono' {kws : List Keyword} {t t' : TA} (h : PK X kws t) (i : ∀ σ H Q, t' σ H Q → t σ H Q) : PK X kws t' := ⟨fun p pins s σ H Q I q => h.run p pins s σ H Q I (i _ _ _ q)⟩
theorem kf_nil : PK X [] (tAF G aNil) := by
  refine PK.mono' pk_nil ?_
  rintro σ H Q ⟨H0, F0, ρ, F, As, S, r, ρ', S', R, e, k⟩
  cases e
  exact k [] H F As Stp.refl R rfl
theorem kb_nil : PK X [] (tAB G aNil) := by
  refine PK.mono' pk_nil ?_
  rintro σ H Q ⟨H0, F0, ρ, F, As, S, r, ρ', S', R, e, k⟩
  cases e
  exact k [] H F As Stp.refl R rfl
theorem kf_cons {kws : List Keyword} {nm : Option Str} {kpos : Pos} {f : SE Sg} {g : SA Sg} (ha : PE X e (tE G f)) (hr : PK X kws (tAF G g)) : PK X (⟨nm, e, kpos⟩ :: kws) (tAF G (aF f g)) := by
  refine PK.mono' (pk_cons ha hr) ?_
  rintro σ H Q ⟨H0, F0, ρ, F, As, S, r, ρ', S', R, e, k⟩
  obtain ⟨⟨r1, ρ1, S1⟩, e1, e⟩ := Option.bind_eq_some_iff.mp e
  obtain ⟨d, ed, e⟩ := Option.bind_eq_some_iff.mp e
  obtain ⟨⟨ds, ρ2, S2⟩, e2, e⟩ := Option.bind_eq_some_iff.mp e
  cases e
  refine ⟨H0, F0, ρ, F, As, S, r1, ρ1, S1, R, e1, fun v1 H1 F1 A1 p1 R1 h1 => ?_⟩
  obtain ⟨F1', g1, gg1, R1', h1'⟩ := R1.frz h1 ed
  refine ⟨H0, F0, ρ1, F1', A1, S1, ds, ρ2, S2, R1', e2, fun vs H2 F2 A2 p2 R2 h2 => ?_⟩
  exact k _ H2 F2 A2 ((p1.frz g1 gg1).trans p2) R2 ⟨v1, vs, rfl, h1'.fr p2.fr p2.fF, h2⟩
theorem kb_cons {kws : List Keyword} {nm : Option Str} {kpos : Pos} {f : SE Sg} {g : SA Sg} (ha : PE X e (tE G f)) (hr : PK X kws (tAB G g)) : PK X (⟨nm, e, kpos⟩ :: kws) (tAB G (aB f g)) := by
  refine PK.mono' (pk_cons ha hr) ?_
  rintro σ H Q ⟨H0, F0, ρ, F, As, S, r, ρ', S', R, e, k⟩
  obtain ⟨⟨r1, ρ1, S1⟩, e1, e⟩ := Option.bind_eq_some_iff.mp e
  obtain ⟨⟨ds, ρ2, S2⟩, e2, e⟩ := Option.bind_eq_some_iff.mp e
  cases e
  refine ⟨H0, F0, ρ, F, As, S, r1, ρ1, S1, R, e1, fun v1 H1 F1 A1 p1 R1 h1 => ?_⟩
  refine ⟨H0, F0, ρ1, F1, A1, S1, ds, ρ2, S2, R1, e2, fun vs H2 F2 A2 p2 R2 h2 => ?_⟩
  exact k _ H2 F2 A2 (p1.trans p2) R2 ⟨v1, vs, rfl, h1.rb.fr p2.fr p2.fF, h2⟩
section
variable {k n np : Nat} {f : Addr} {fd : FuncData} {ps ks : List Str} {x : Str} {p : Pos} {bd : List D → List D → List D} {m : FD Sg} {kws : List Keyword} {fe ge : SA Sg}
theorem pd_call (Fn : FnG X.prog X.w X.K X.mg X.base k f fd ps (spF G np m)) (hnp : ps.length = np) (room : Room k X.A) (gu : X.A.guards = some []) (hg : Gl X x) (hm : X.mg x = some (.ref f)) (hk : PySem.W.keepIn X.K (.ref f) = true) (bn : Bn X.K fd ps n ks bd)
    (ha : PA X (e :: es) (tAF G fe)) (hkw : PK X kws (tAF G ge)) (hall : (backToKw pos (keywordEach kws X.env)).all (·.1.isSome) = true := by rfl) (hks : (backToKw pos (keywordEach kws X.env)).filterMap (·.1) = ks := by rfl)
    (hdb : (x == ("__debug__" : Str)) = false := by decide) (he : starEach (e :: es) X.env = (false, eval e X.env) :: starEach es X.env := by rfl)
    (hpl : ((backTo pos (starEach (e :: es) X.env)).any (·.1) || (backToKw pos (keywordEach kws X.env)).any (·.1.isNone)) = false := by rfl) : PE X (.Call (.Name x p) (e :: es) kws pos) (tE G (eCall n ks.length bd m fe ge)) :=
  PE.mono' (pe_cl Fn room gu hg hm hk bn ha hkw hall hks hdb he hpl) (call_le fun vs zs vl h => ⟨h.1.trans hnp, fun H F ds es h1 h2 => h.2 G H F ds es h1 h2⟩)
theorem pd_callBr (Fn : FnG X.prog X.w X.K X.mg X.base k f fd ps (spF G np m)) (hnp : ps.length = np) (room : Room k X.A) (gu : X.A.guards = some []) (hg : Gl X x) (hm : X.mg x = some (.ref f)) (hk : PySem.W.keepIn X.K (.ref f) = true) (bn : Bn X.K fd ps n ks bd)
    (ha : PA X (e :: es) (tAB G fe)) (hkw : PK X kws (tAB G ge)) (hall : (backToKw pos (keywordEach kws X.env)).all (·.1.isSome) = true := by rfl) (hks : (backToKw pos (keywordEach kws X.env)).filterMap (·.1) = ks := by rfl)
    (hdb : (x == ("__debug__" : Str)) = false := by decide) (he : starEach (e :: es) X.env = (false, eval e X.env) :: starEach es X.env := by rfl)
    (hpl : ((backTo pos (starEach (e :: es) X.env)).any (·.1) || (backToKw pos (keywordEach kws X.env)).any (·.1.isNone)) = false := by rfl) : PE X (.Call (.Name x p) (e :: es) kws pos) (tE G (eCallB n ks.length bd m fe ge)) :=
  PE.mono' (pe_cl Fn room gu hg hm hk bn ha hkw hall hks hdb he hpl) (callB_le fun vs zs vl h => ⟨h.1.trans hnp, fun H F ds es h1 h2 => h.2 G H F ds es h1 h2⟩)
theorem tnil_le : ∀ σ H Q, tAF G aNil σ H Q → tNil σ H Q := by
  rintro σ H Q ⟨H0, F0, ρ, F, As, S, r, ρ', S', R, e, k⟩
  cases e
  exact k [] H F As Stp.refl R rfl
theorem pd_call0 (Fn : FnG X.prog X.w X.K X.mg X.base k f fd ps (spF G np m)) (hnp : ps.length = np) (room : Room k X.A) (gu : X.A.guards = some []) (hg : Gl X x) (hm : X.mg x = some (.ref f)) (hk : PySem.W.keepIn X.K (.ref f) = true) (bn : Bn X.K fd ps 0 ks bd)
    (hkw : PK X kws (tAF G ge)) (hall : (backToKw pos (keywordEach kws X.env)).all (·.1.isSome) = true := by rfl) (hks : (backToKw pos (keywordEach kws X.env)).filterMap (·.1) = ks := by rfl)
    (hdb : (x == ("__debug__" : Str)) = false := by decide)
    (hpl : ((backTo pos (starEach [] X.env)).any (·.1) || (backToKw pos (keywordEach kws X.env)).any (·.1.isNone)) = false := by rfl) : PE X (.Call (.Name x p) [] kws pos) (tE G (eCall 0 ks.length bd m aNil ge)) :=
  PE.mono' (pe_cl0 Fn room gu hg hm hk bn hkw hall hks hdb hpl) fun σ H Q h => tnil_le (G := G) σ H _ (call_le (np := np) (fun vs zs vl h => ⟨h.1.trans hnp, fun H F ds es h1 h2 => h.2 G H F ds es h1 h2⟩) σ H Q h)
end
/-! ### is None -/
theorem od_isN : Op2 G (fun x y H Q => y = .non ∧ Q (.bl (decide (x = .non))) H) opIsN := by
  intro x y d e H F S res Q g hx hy eq k
  cases e with
  | non =>
    cases eq
    refine ⟨hy, k.im ?_⟩
    rw [hx.non_iff]
    cases d <;> rfl
  | _ => cases eq
theorem od_notN : Op2 G (fun x y H Q => y = .non ∧ Q (.bl (!decide (x = .non))) H) opNotN := by
  intro x y d e H F S res Q g hx hy eq k
  cases e with
  | non =>
    cases eq
    refine ⟨hy, k.im ?_⟩
    rw [hx.non_iff]
    cases d <;> rfl
  | _ => cases eq
/-! ### extend -/
def muExt : List D → List D → Option (D × List D) := fun l ds => match ds with
  | [.lst m] => if l.length + m.length ≤ sizeLine then some (.non, l ++ m) else none
  | _ => none
theorem mu_ext : MuOk G rExtend muExt := by
  intro a l ds vs us H F S res l' Q g hp r nf h1 e k
  match ds, e, h1 with
  | [.lst m], e, h1 =>
    have e : (if l.length + m.length ≤ sizeLine then some (D.non, l ++ m) else none) = some (res, l') := e
    by_cases hz : l.length + m.length ≤ sizeLine
    · rw [if_pos hz] at e; cases e
      obtain ⟨v, r', rfl, ⟨b, ws, rfl, s, _, z, rw⟩, rfl⟩ := h1
      exact ⟨a, b, us, ws, rfl, rfl, hp, s, by rw [r.length, rw.length]; exact hz, k .non (us ++ ws) (r.app rw) rfl⟩
    · rw [if_neg hz] at e; cases e
/-! ### enumerate(list) -/
def enumD : Nat → List D → List D
  | _, [] => []
  | n, d :: l => .tup false [.int n, d] :: enumD (n + 1) l
theorem enumD_length : ∀ (l : List D) (n : Nat), (enumD n l).length = l.length
  | [], _ => rfl
  | d :: l, n => by simp [enumD, enumD_length l]
theorem enumD_get : ∀ {l : List D} {n i : Nat} {d : D}, (enumD n l)[i]? = some d → ∃ x, l[i]? = some x ∧ d = .tup false [.int ((n + i : Nat) : Int), x]
  | [], _, _, _, h => by simp [enumD] at h
  | x :: l, n, 0, d, h => ⟨x, rfl, (Option.some.inj h).symm⟩
  | x :: l, n, i + 1, d, h => by
    obtain ⟨y, e1, e2⟩ := enumD_get (l := l) (n := n + 1) (i := i) (by simpa [enumD] using h)
    exact ⟨y, by simpa using e1, by rw [e2, show n + 1 + i = n + (i + 1) by omega]⟩
def iEnumD (f : SA Sg) : SA Sg := fun ρ S => (f ρ S).bind fun p => match p.1 with
  | [.lst l] => some (enumD 0 l, p.2.1, p.2.2)
  | _ => none
theorem it_enum {p tpos : Pos} {elts : List Expr} {kk : Nat} {f : SA Sg} (hK : G.K = X.K) (hg : Gl X "enumerate") (hm : X.mg "enumerate" = none) (ha : PA X [e] (tAF G f)) (hs : starEach [e] X.env = [(false, eval e X.env)] := by rfl) :
    PI X (.Tuple elts kk tpos) (.Call (.Name "enumerate" p) [e] [] pos) (tIt G (iEnumD f)) := by
  refine PI.mono' (pi_enum hg hm ha hs) ?_
  rintro σ H R ⟨H0, F0, ρ, F, As, S, l, ρ', S', Rl, e, k⟩
  obtain ⟨⟨ds, ρ1, S1⟩, e1, e⟩ := Option.bind_eq_some_iff.mp e
  refine ⟨H0, F0, ρ, F, As, S, ds, ρ1, S1, Rl, e1, fun vs H1 F1 A1 p1 R1 h1 => ?_⟩
  match ds, e, h1 with
  | [.lst m], e, h1 =>
    cases e
    have h1' := h1
    obtain ⟨v, r, rfl, ⟨a, ws, rfl, s, hf, z, rw⟩, rfl⟩ := h1'
    refine ⟨a, ws, rfl, .inl (.inl s), k (Ite X.K a) _ H1 F1 A1 p1 R1 (stb_rps (ds := [.lst m]) (vs := [.ref a])) h1 fun i H2 F2 S2 g2 hs => ?_⟩
    obtain ⟨v2, r2, e2, ⟨a2, vs2, e3, s2, _, z2, rr⟩, _⟩ := hs
    cases e2
    cases e3
    have s2' : SqL X.K H2 a vs2 := .inl (.inl s2)
    refine ⟨fun hl => ⟨vs2, s2', by rw [rr.length, ← enumD_length m 0]; exact hl⟩, fun d hd => ?_⟩
    obtain ⟨x, g1, rfl⟩ := enumD_get hd
    obtain ⟨v, ev, hv⟩ := rr.get g1
    refine ⟨⟨vs2, v, s2', ev⟩, fun y H3 hy => ?_⟩
    obtain ⟨T, x', rfl, hT, rfl, hy⟩ := hy
    have := hy vs2 s2'
    rw [ev] at this; cases this
    refine ⟨Ext.upd hT, T, _, rfl, .no upd_same, (g2.fresh hT).2, ?_⟩
    rw [Nat.zero_add]
    exact ⟨_, _, rfl, rfl, v, _, rfl, hv.fr (Fr.upd hT) fun _ q => q, rfl⟩
end
end Dv
end
section
set_option maxHeartbeats 4000000
namespace Dv
open PySem PySem.Spec PyProof.Rows L2
variable {Sg : Type}
/-! ### a frozen dict is locked for a while -/
section
variable {G : Gd Sg} {H0 H : Hp} {F0 F : Addr → Prop} {ρ : En} {σ : L2.St} {As : Nat → Option Addr} {S : Sg} {p : Addr} {o : Obj} {kvs : List (Key × V)}
/-- u stands at p, as it is or locked: all but that stays -/
structure Swp (H H' : Hp) (p : Addr) (kvs : List (Key × V)) : Prop where
  off : ∀ a, a ≠ p → H' a = H a
  old : H p = some (.dK kvs) ∨ ∃ o, H p = some (.frz o (.dK kvs))
  new : H' p = some (.dK kvs) ∨ ∃ o, H' p = some (.frz o (.dK kvs))
theorem Swp.ne {H' : Hp} {a : Addr} {u : HO} (w : Swp H H' p kvs) (h : H a = some u) (h1 : u ≠ .dK kvs) (h2 : ∀ o, u ≠ .frz o (.dK kvs)) : a ≠ p := fun q => by
  subst q
  rcases w.old with e | ⟨o, e⟩
  · rw [h] at e; cases e; exact h1 rfl
  · rw [h] at e; cases e; exact h2 o rfl
theorem Swp.dkF {H' : Hp} {a : Addr} {ks : List (Key × V)} (w : Swp H H' p kvs) (f : F p) (h : DkF H F a ks) : DkF H' F a ks := by
  by_cases ha : a = p
  · subst ha
    have : ks = kvs := by
      rcases h with ⟨h, _⟩ | ⟨o, h⟩ <;> rcases w.old with e | ⟨o', e⟩ <;> (rw [h] at e; cases e) <;> rfl
    subst this
    rcases w.new with e | ⟨o, e⟩
    · exact .inl ⟨e, f⟩
    · exact .inr ⟨o, e⟩
  · rcases h with ⟨h, hf⟩ | ⟨o, h⟩
    · exact .inl ⟨by rw [w.off a ha]; exact h, hf⟩
    · exact .inr ⟨o, by rw [w.off a ha]; exact h⟩
theorem Swp.rd {H' : Hp} {a : Addr} {ks : List (Key × V)} (w : Swp H H' p kvs) (h : Rd H a (.dK ks)) : Rd H' a (.dK ks) := by
  by_cases ha : a = p
  · subst ha
    have : ks = kvs := by
      rcases h with h | ⟨o, h⟩ <;> rcases w.old with e | ⟨o', e⟩ <;> (rw [h] at e; cases e) <;> rfl
    subst this
    exact w.new
  · rcases h with h | ⟨o, h⟩
    · exact .inl (by rw [w.off a ha]; exact h)
    · exact .inr ⟨o, by rw [w.off a ha]; exact h⟩
mutual
theorem Rp.swp {H' : Hp} (w : Swp H H' p kvs) (f : F p) : ∀ {d : D} {v : V}, Rp G H F d v → Rp G H' F d v
  | .non, _, h => h
  | .bl _, _, h => h
  | .int _, _, h => h
  | .str _, _, h => h
  | .tup x l, _, h => by
    obtain ⟨a, vs, e, ⟨s, sx, sy⟩, z, r⟩ := h
    refine ⟨a, vs, e, ⟨?_, fun q => ?_, fun q => by rw [w.off a (w.ne (sy q) (fun q => nomatch q) fun _ q => nomatch q)]; exact sy q⟩, z, Rps.swp w f r⟩
    · rcases s with (s | ⟨o, s⟩) | s
      · exact .inl (.inl (by rw [w.off a (w.ne s (fun q => nomatch q) fun _ q => nomatch q)]; exact s))
      · exact .inl (.inr ⟨o, by rw [w.off a (w.ne s (fun q => nomatch q) fun _ q => nomatch q)]; exact s⟩)
      · exact .inr s
    · rcases sx q with ⟨o, u, s, d⟩ | s
      · exact .inl ⟨o, u, by rw [w.off a (w.ne s (fun q => nomatch q) fun _ q => nomatch q)]; exact s, d⟩
      · exact .inr s
  | .lst l, _, h => by
    obtain ⟨a, vs, e, s, f', z, r⟩ := h
    exact ⟨a, vs, e, by rw [w.off a (w.ne s (fun q => nomatch q) fun _ q => nomatch q)]; exact s, f', z, Rps.swp w f r⟩
  | .scr ns, _, h => by
    obtain ⟨a, e, s⟩ := h
    refine ⟨a, e, ?_⟩
    rcases s with ⟨o, s, z⟩ | s
    · exact .inl ⟨o, by rw [w.off a (w.ne s (fun q => nomatch q) fun _ q => nomatch q)]; exact s, z⟩
    · exact .inr s
  | .dct ks l, _, h => by
    obtain ⟨a, kvs', e, s, z, k, r⟩ := h
    exact ⟨a, kvs', e, w.dkF f s, z, k, Rps.swp w f r⟩
  | .ob _, _, h => h
  | .dtt ks l, _, h => by
    obtain ⟨a, kvs', e, s, z, k, r⟩ := h
    exact ⟨a, kvs', e, ⟨by rw [w.off a (w.ne s.1 (fun q => nomatch q) fun _ q => nomatch q)]; exact s.1, s.2⟩, z, k, Rps.swp w f r⟩
  | .exc c ns l, _, h => by
    obtain ⟨a, dd, fv, e, s, z, s2, k, r⟩ := h
    exact ⟨a, dd, fv, e, by rw [w.off a (w.ne s (fun q => nomatch q) fun _ q => nomatch q)]; exact s, z, s2.to fun dd s2 _ => (by rw [w.off dd (w.ne s2 (fun q => nomatch q) fun _ q => nomatch q)]; exact s2), k, Rps.swp w f r⟩
theorem Rps.swp {H' : Hp} (w : Swp H H' p kvs) (f : F p) : ∀ {l : List D} {vs : List V}, Rps G H F l vs → Rps G H' F l vs
  | [], _, h => h
  | d :: l, _, h => by
    obtain ⟨v, r, e, h1, h2⟩ := h
    exact ⟨v, r, e, Rp.swp w f h1, Rps.swp w f h2⟩
end
theorem Ow.swp {H' : Hp} {a : Addr} {d : D} (w : Swp H H' p kvs) (f : F p) (nf : ¬ F a) (h : Ow G H F a d) : Ow G H' F a d := by
  have ha : a ≠ p := fun q => nf (q ▸ f)
  cases d with
  | lst l =>
    obtain ⟨vs, s, r⟩ := h
    exact ⟨vs, by rw [w.off a ha]; exact s, r.swp w f⟩
  | dct ks l =>
    obtain ⟨kvs', s, k, r⟩ := h
    exact ⟨kvs', by rw [w.off a ha]; exact s, k, r.swp w f⟩
  | dtt ks l =>
    obtain ⟨kvs', s, k, r⟩ := h
    exact ⟨kvs', by rw [w.off a ha]; exact s, k, r.swp w f⟩
  | _ => exact (show False from h).elim
theorem Rb.swp {H' : Hp} {d : D} {v : V} (w : Swp H H' p kvs) (f : F p) (h : Rb G H F d v) : Rb G H' F d v := by
  cases d with
  | lst l =>
    obtain ⟨a, vs, e, s, z, r⟩ := h
    exact ⟨a, vs, e, by rw [w.off a (w.ne s (fun q => nomatch q) fun _ q => nomatch q)]; exact s, z, r.swp w f⟩
  | dct ks l =>
    obtain ⟨a, kvs', e, s, z, k, r⟩ := h
    exact ⟨a, kvs', e, w.rd s, z, k, r.swp w f⟩
  | dtt ks l =>
    obtain ⟨a, kvs', e, s, z, k, r⟩ := h
    exact ⟨a, kvs', e, by rw [w.off a (w.ne s (fun q => nomatch q) fun _ q => nomatch q)]; exact s, z, k, r.swp w f⟩
  | exc c ns l => exact Rp.swp (G := G) w f (d := .exc c ns l) h
  | non => exact Rp.swp (G := G) w f (d := .non) h
  | bl b => exact Rp.swp (G := G) w f (d := .bl b) h
  | int i => exact Rp.swp (G := G) w f (d := .int i) h
  | str x => exact Rp.swp (G := G) w f (d := .str x) h
  | tup x l => exact Rp.swp (G := G) w f (d := .tup x l) h
  | ob n => exact Rp.swp (G := G) w f (d := .ob n) h
  | scr ns => exact Rp.swp (G := G) w f (d := .scr ns) h
theorem Rel.swp {H' H0' : Hp} (R : Rel G H0 F0 ρ σ H F As S) (w : Swp H H' p kvs) (f : F p) (b : Fr G.Z H0' H') (n0 : ∀ a, H0 a = none → H0' a = none) : Rel G H0' F0 ρ σ H' F As S := by
  have nz := R.gs.nZ p f
  refine ⟨⟨fun a q => ?_, R.gs.nZ, G.frame S H H' R.gs.amb fun a z => w.off a fun q => nz (q ▸ z)⟩, R.len, fun i sl e => ?_, R.none_, R.inj, R.nF, fun i a q => n0 a (R.new i a q), b, R.bF⟩
  · by_cases ha : a = p
    · subst ha
      rcases w.new with e | ⟨o, e⟩
      · exact ⟨_, e⟩
      · exact ⟨_, e⟩
    · rw [w.off a ha]; exact R.gs.trk a q
  · obtain ⟨x, e2, h⟩ := R.slot i sl e
    refine ⟨x, e2, ?_⟩
    cases sl with
    | non => exact h
    | im d =>
      obtain ⟨e3, v, e4, r⟩ := h
      exact ⟨e3, v, e4, r.swp w f⟩
    | ow d =>
      obtain ⟨a, e3, e4, r⟩ := h
      exact ⟨a, e3, e4, r.swp w f (R.nF i a e3).1⟩
end
section
variable {X : Cx} {G : Gd Sg} {e a b c tg elt : Expr} {pos : Pos}
/-- x's own frozen dict is locked while e is worked out -/
theorem lock_le {i : Nat} {f : SE Sg} {t : TE} (hf : ∀ ρ S r, f ρ S = some r → ∃ ks l, ρ[i]? = some (.im (.dct ks l)))
    (ht : ∀ σ H Q, (∃ d o kvs, σ[i]? = some (some (.ref d)) ∧ H d = some (.frz o (.dK kvs))) → tE G f σ H Q → t σ H Q) : ∀ σ H Q, tE G f σ H Q → t σ H Q ∨ tLockE t σ H Q := by
  intro σ H Q h
  have h0 := h
  obtain ⟨H0, F0, ρ, F, As, S, r, ρ', S', R, e, k⟩ := h
  obtain ⟨ks, l, q⟩ := hf ρ S _ e
  obtain ⟨w, e2, ea, v, e3, d, kvs, rfl, s, z, ek, rr⟩ := R.slot i _ q
  subst e3
  rcases s with ⟨s, fd⟩ | ⟨o, s⟩
  · refine .inr ⟨d, _, s, (show Mut (some (HO.dK kvs)) from trivial), fun od => ?_⟩
    have w1 : Swp H (upd H d (.frz od (.dK kvs))) d kvs := ⟨fun a ha => upd_ne ha, .inl s, .inr ⟨od, upd_same⟩⟩
    refine ht σ _ _ ⟨d, od, kvs, e2, upd_same⟩ ?_
    let H0' : Hp := fun a => if a = d then (if H0 d = none then none else some (.frz od (.dK kvs))) else H0 a
    have b1 : Fr G.Z H0' (upd H d (.frz od (.dK kvs))) := fun a o' e' z' => by
      by_cases ha : a = d
      · subst ha
        rw [upd_same]
        have e' : (if a = a then (if H0 a = none then none else some (HO.frz od (.dK kvs))) else H0 a) = some o' := e'
        rw [if_pos rfl] at e'
        by_cases hn : H0 a = none
        · rw [if_pos hn] at e'; cases e'
        · rw [if_neg hn] at e'; exact e'
      · have e' : (if a = d then (if H0 d = none then none else some (HO.frz od (.dK kvs))) else H0 a) = some o' := e'
        rw [if_neg ha] at e'
        rw [upd_ne ha]
        exact R.base a o' e' z'
    have n1 : ∀ a, H0 a = none → H0' a = none := fun a hn => by
      show (if a = d then (if H0 d = none then none else some (HO.frz od (.dK kvs))) else H0 a) = none
      by_cases ha : a = d
      · subst ha; rw [if_pos rfl, if_pos hn]
      · rw [if_neg ha]; exact hn
    have n2 : ∀ a, H0' a = none → H0 a = none := fun a hn => by
      have hn : (if a = d then (if H0 d = none then none else some (HO.frz od (.dK kvs))) else H0 a) = none := hn
      by_cases ha : a = d
      · subst ha
        rw [if_pos rfl] at hn
        by_cases hq : H0 a = none
        · exact hq
        · rw [if_neg hq] at hn; cases hn
      · rw [if_neg ha] at hn; exact hn
    refine ⟨H0', F0, ρ, F, As, S, r, ρ', S', R.swp w1 fd b1 n1, e, fun v H' F' As' p R' h' => ?_⟩
    have hd : H' d = some (.frz od (.dK kvs)) := p.fr d _ upd_same z
    refine ⟨hd, ?_⟩
    have fd' := p.fF d fd
    have w2 : Swp H' (upd H' d (.dK kvs)) d kvs := ⟨fun a ha => upd_ne ha, .inr ⟨od, hd⟩, .inl upd_same⟩
    have b2 : Fr G.Z H0 (upd H' d (.dK kvs)) := fun a o' e' z' => by
      by_cases ha : a = d
      · subst ha
        rw [upd_same]
        have := R.base a o' e' z'
        rw [s] at this
        exact this
      · rw [upd_ne ha]
        refine R'.base a o' ?_ z'
        show (if a = d then (if H0 d = none then none else some (HO.frz od (.dK kvs))) else H0 a) = some o'
        rw [if_neg ha]; exact e'
    have pn : Stp G H (upd H' d (.dK kvs)) F F' As As' := ⟨fun a o' e' z' => by
      by_cases ha : a = d
      · subst ha; rw [upd_same, ← s]; exact e'
      · rw [upd_ne ha]; exact p.fr a o' (by rw [upd_ne ha]; exact e') z', p.fF, fun a q' z' => by
      rcases p.gF a q' z' with y | y | y
      · exact .inl y
      · refine .inr (.inl ?_)
        by_cases ha : a = d
        · subst ha; rw [upd_same] at y; cases y
        · rw [upd_ne ha] at y; exact y
      · exact .inr (.inr y), p.as⟩
    refine k v _ F' As' pn (R'.swp w2 fd' b2 n2) ?_
    cases r with
    | im x => exact Rp.swp w2 fd' h'
    | nw x =>
      obtain ⟨a, e5, ow, nf, nz, na, g0, gs⟩ := h'
      refine ⟨a, e5, ow.swp w2 fd' nf, nf, nz, na, n2 a g0, ?_⟩
      rcases gs with y | y
      · refine .inl ?_
        by_cases ha : a = d
        · subst ha; rw [upd_same] at y; cases y
        · rw [upd_ne ha] at y; exact y
      · exact .inr y
    | br x => exact Rb.swp w2 fd' h'
  · exact .inl (ht σ H Q ⟨d, o, kvs, e2, s⟩ h0)
theorem pd_lock {i : Nat} {f : SE Sg} {t : TE} (h : PE X e t) (hf : ∀ ρ S r, f ρ S = some r → ∃ ks l, ρ[i]? = some (.im (.dct ks l)))
    (ht : ∀ σ H Q, (∃ d o kvs, σ[i]? = some (some (.ref d)) ∧ H d = some (.frz o (.dK kvs))) → tE G f σ H Q → t σ H Q) : PE X e (tE G f) := ⟨fun pins s σ H Q I q => by
  rcases lock_le hf ht σ H Q q with h1 | h1
  · exact h.run pins s σ H Q I h1
  · exact (pe_lock h).run pins s σ H Q I h1⟩
/-! [.. for .. in x.values()] -/
def iVal (i : Nat) : SA Sg := fun ρ S => match ρ[i]? with
  | some (.im (.dct _ l)) => some (l, ρ, S)
  | _ => none
theorem vals_le {i : Nat} {σ : L2.St} {H : Hp} {R : It → Hp → Prop} (hl : ∃ d o kvs, σ[i]? = some (some (.ref d)) ∧ H d = some (.frz o (.dK kvs))) (h : tIt G (iVal i) σ H R) : iVals (tVar i) σ H R := by
  obtain ⟨d, o, kvs, e1, hd⟩ := hl
  obtain ⟨H0, F0, ρ, F, As, S, l, ρ', S', Rl, e, k⟩ := h
  unfold iVal at e
  cases q : ρ[i]? with
  | none => rw [q] at e; cases e
  | some sl =>
    rw [q] at e
    cases sl with
    | non => cases e
    | ow x => cases e
    | im x =>
      cases x with
      | dct ks l' =>
        cases e
        obtain ⟨w, e2, ea, v, e3, hv⟩ := Rl.slot i _ q
        subst e3
        rw [e1] at e2; cases e2
        have hv0 := hv
        obtain ⟨d', kvs', e4, s, z, ek, rr⟩ := hv
        cases e4
        refine ⟨_, e1, d, o, kvs, rfl, hd, k (Itd d o kvs) _ H F As Stp.refl Rl (stb_lk.and (stb_rps (ds := [.dct ks l]) (vs := [.ref d]))) ⟨⟨hd, z⟩, Rps.one hv0⟩ fun n H2 F2 S2 g2 hs => ?_⟩
        obtain ⟨⟨hd2, _⟩, v2, r2, e5, ⟨a2, kv2, e6, s2, z2, ek2, rr2⟩, _⟩ := hs
        cases e5
        cases e6
        have hk : kv2 = kvs := by
          rcases s2 with ⟨s2, _⟩ | ⟨o2, s2⟩ <;> (rw [hd2] at s2; cases s2) <;> rfl
        subst hk
        have ln := rr2.length
        rw [List.length_map] at ln
        refine ⟨fun hl => ⟨hd2, by omega⟩, fun x hx => ?_⟩
        obtain ⟨v, ev, hv⟩ := rr2.get hx
        rw [List.getElem?_map] at ev
        obtain ⟨⟨k', v'⟩, g1, gv⟩ := Option.map_eq_some_iff.mp ev
        refine ⟨⟨hd2, (List.getElem?_eq_some_iff.mp g1).1⟩, fun y H3 hy => ?_⟩
        obtain ⟨rfl, k2, g3⟩ := hy
        rw [g1] at g3
        cases g3
        have gv : v' = v := gv
        subst gv
        exact ⟨Ext.refl, hv⟩
      | _ => cases e
theorem pd_compV {i : Nat} {x : Str} {p' apos cpos : Pos} {ifs : List Expr} {scope : Scope} {own : List (Str × Nat)} {t : TD} {cc : ST Sg} {el : SE Sg} (hc : X.calm = true) (hN : X.N.Nodup) (hi : X.N[i]? = some x) (hv : Vis X.env.scope x) (ok : BlkOk X.N X.env.scope scope own)
    (hg : ∀ (s : Shared) (H : Hp) (C : Addr) (cl : List (Str × Addr)) (fp : List Addr), PG (X.blk s H scope (compEnvC scope cl C X.env) fp) tg (gD G (own.map (·.2)) t)) (ht : ∀ (s : Shared) (H : Hp) (C : Addr) (cl : List (Str × Addr)) (fp : List Addr), PTs (X.blk s H scope (compEnvC scope cl C X.env) fp) ifs (tT G cc))
    (he : ∀ (s : Shared) (H : Hp) (C : Addr) (cl : List (Str × Addr)) (fp : List Addr), PE (X.blk s H scope (compEnvC scope cl C X.env) fp) elt (tE G el))
    (hbase : attributeBase (.Name x p') "values" X.env (eval (.Name x p') X.env) = eval (.Name x p') X.env := by rfl) (hline : (apos.endLine == cpos.line) = true := by rfl)
    (hs : ∀ y, foldedSetIterable (.Call (.Attribute (.Name x p') "values" apos) [] [] cpos) X.env y = pure y := by intro _; rfl) (hd : (x == ("__debug__" : Str)) = false := by decide) (hcd : (x == ("__classdict__" : Str)) = false := by decide) :
    PE X (.ListComp elt [⟨tg, .Call (.Attribute (.Name x p') "values" apos) [] [] cpos, ifs, 0⟩] scope pos) (tE G (eComp (iVal i) t cc el (own.map (·.2)))) := by
  refine pd_lock (i := i) (pe_lc hc hN (pi_values (pe_var hi hv hd hcd) hbase hline) ok hg ht he hs) (fun ρ S r e => ?_) fun σ H Q hl h => vals_le (G := G) hl (comp_le σ H Q h)
  obtain ⟨⟨l, ρ1, S1⟩, e1, e⟩ := Option.bind_eq_some_iff.mp e
  unfold iVal at e1
  cases q : ρ[i]? with
  | none => rw [q] at e1; cases e1
  | some sl =>
    rw [q] at e1
    cases sl with
    | non => cases e1
    | ow x => cases e1
    | im x =>
      cases x with
      | dct ks l' => exact ⟨ks, l', rfl⟩
      | _ => cases e1
end
end Dv
end
section
set_option maxHeartbeats 4000000
namespace Dv
open PySem PySem.Spec PyProof.Rows L2
/-! ### the draws' state: cells, three numbers and one more -/
structure S5 where
  cells : List Int
  a1 : Int
  a2 : Int
  a3 : Int
  a4 : Int
def gS (K : PySem.W.Frag) (L C : Addr) (h : L ≠ C) : Gd S5 where
  K := K
  ad := fun _ => L
  Z := fun a => a = L ∨ a = C
  Amb := fun s H => H L = some (.lst [.ref C, .int s.a1, .int s.a2, .int s.a3, .int s.a4]) ∧ H C = some (.lst (s.cells.map V.int))
  frame := fun s H H' h e => ⟨by rw [e L (.inl rfl)]; exact h.1, by rw [e C (.inr rfl)]; exact h.2⟩
  there := fun s H a h z => by
    rcases z with rfl | rfl
    · exact ⟨_, h.1⟩
    · exact ⟨_, h.2⟩
section
variable {Sg : Type} {G : Gd Sg} {H0 H H' : Hp} {F0 F : Addr → Prop} {ρ : En} {σ : L2.St} {As : Nat → Option Addr} {S S' : Sg}
theorem Rel.ambient (R : Rel G H0 F0 ρ σ H F As S) (e : ∀ a, ¬ G.Z a → H' a = H a) (h : G.Amb S' H') : Rel G H0 F0 ρ σ H' F As S' ∧ Stp G H H' F F As As := by
  have fr : Fr G.Z H H' := fun a o q z => by rw [e a z]; exact q
  refine ⟨R.fr fr (fun _ q => q) ⟨fun a q => ?_, R.gs.nZ, h⟩ fun i a q => (R.nF i a q).1, fr, fun _ q => q, fun _ q _ => .inl q, fun _ _ q => q⟩
  rw [e a (R.gs.nZ a q)]
  exact R.gs.trk a q
end
section
variable {X : Cx} {L C : Addr} {hLC : L ≠ C} {e : Expr} {pos : Pos} {i : Nat} {x : Str} {p' : Pos} {j : Nat}
/-- s[k]: a number of the state -/
def eSg (i : Nat) (g : S5 → Int) : SE S5 := fun ρ S => match ρ[i]? with
  | some (.im (.ob _)) => some (.im (.int (g S)), ρ, S)
  | _ => none
theorem slot_ob {K : PySem.W.Frag} {H0 H : Hp} {F0 F : Addr → Prop} {ρ : En} {σ : L2.St} {As : Nat → Option Addr} {S : S5} {n : Nat} (R : Rel (gS K L C hLC) H0 F0 ρ σ H F As S) (q : ρ[i]? = some (.im (.ob n))) : σ[i]? = some (some (.ref L)) := by
  obtain ⟨w, e2, ea, v, e3, hv⟩ := R.slot i _ q
  subst e3
  have hv : v = .ref L := hv
  subst hv
  exact e2
theorem sg_get {k : Int} {g : S5 → Int} (hi : X.N[i]? = some x) (hv : Vis X.env.scope x) (hk : ∀ S : S5, atI [V.ref C, .int S.a1, .int S.a2, .int S.a3, .int S.a4] k = some (.int (g S))) (hs : PlainIx (.Constant (.int k) j p')) {q' : Pos}
    (hd : (x == ("__debug__" : Str)) = false := by decide) (hcd : (x == ("__classdict__" : Str)) = false := by decide) :
    PE X (.Subscript (.Name x q') (.Constant (.int k) j p') pos) (tE (gS X.K L C hLC) (eSg i g)) := by
  refine PE.mono' (pe_ix ix_seq (pe_var hi hv hd hcd) pe_int hs) ?_
  rintro σ H Q ⟨H0, F0, ρ, F, As, S, r, ρ', S', R, e, kk⟩
  unfold eSg at e
  cases q : ρ[i]? with
  | none => rw [q] at e; cases e
  | some sl =>
    rw [q] at e
    cases sl with
    | non => cases e
    | ow d => cases e
    | im d =>
      cases d with
      | ob n =>
        cases e
        exact ⟨.ref L, slot_ob R q, .inl ⟨L, _, k, _, rfl, rfl, .inl (.inl R.gs.amb.1), hk _, kk _ H F As Stp.refl R rfl⟩⟩
      | _ => cases e
/-- s[k] = e -/
def sSg (i : Nat) (u : Int → S5 → S5) (f : SE S5) : SS S5 := fun ρ S => (f ρ S).bind fun p => match p.1.d with
  | .int v => match p.2.1[i]? with
    | some (.im (.ob _)) => some (.nx, p.2.1, u v p.2.2)
    | _ => none
  | _ => none
theorem sg_set {k : Int} {n : Nat} {u : Int → S5 → S5} {f : SE S5} {q' tp : Pos} (hi : X.N[i]? = some x) (hv : Vis X.env.scope x) (hn : ixN 5 k = some n) (hu : ∀ (v : Int) (S : S5), (u v S).cells = S.cells ∧ [V.ref C, .int S.a1, .int S.a2, .int S.a3, .int S.a4].set n (.int v) = [V.ref C, .int (u v S).a1, .int (u v S).a2, .int (u v S).a3, .int (u v S).a4])
    (he : PE X e (tE (gS X.K L C hLC) f))
    (ha : ∀ v, assign (.Subscript (.Name x q') (.Constant (.int k) j p') tp) X.env v = (do
      let ov ← holding [v] (eval (.Name x q') X.env)
      let iv ← holding [v, ov] (eval (.Constant (.int k) j p') X.env)
      standAt tp
      holding [v, ov, iv] (setItem ov iv v)
      release [v, ov, iv] []) := by intro _; rfl)
    (hs : swapsWithSole [.Subscript (.Name x q') (.Constant (.int k) j p') tp] e pos.line X.env = pure false := by rfl) (hw : swappedStores [.Subscript (.Name x q') (.Constant (.int k) j p') tp] e X.env = pure none := by rfl) (h1 : (assignEach [.Subscript (.Name x q') (.Constant (.int k) j p') tp] X.env).map (·.2) = [assign (.Subscript (.Name x q') (.Constant (.int k) j p') tp) X.env] := by rfl)
    (hd : (x == ("__debug__" : Str)) = false := by decide) (hcd : (x == ("__classdict__" : Str)) = false := by decide) :
    PS X (.Assign [.Subscript (.Name x q') (.Constant (.int k) j p') tp] e pos) (tSs (gS X.K L C hLC) (sSg i u f)) := by
  refine PS.mono' (ps_asg he (pg_sub (pe_var hi hv hd hcd) pe_int set_list ha) hs hw h1) ?_
  rintro D σ H ⟨H0, F0, ρ, F, As, S, c, ρ', S', R, e, kk⟩
  obtain ⟨⟨r1, ρ1, S1⟩, e1, e⟩ := Option.bind_eq_some_iff.mp e
  refine ⟨H0, F0, ρ, F, As, S, r1, ρ1, S1, R, e1, fun v1 H1 F1 A1 p1 R1 h1 => ?_⟩
  have hb := h1.rb
  dsimp only at e
  cases qd : r1.d with
  | int v =>
    rw [qd] at e hb
    dsimp only at e
    cases q : ρ1[i]? with
    | none => rw [q] at e; cases e
    | some sl =>
      rw [q] at e
      cases sl with
      | non => cases e
      | ow d => cases e
      | im d =>
        cases d with
        | ob m =>
          cases e
          have hb : v1 = .int v := hb
          subst hb
          obtain ⟨u1, u2⟩ := hu v S1
          obtain ⟨R2, p2⟩ := R1.ambient (H' := upd H1 L (.lst ([V.ref C, .int S1.a1, .int S1.a2, .int S1.a3, .int S1.a4].set n (.int v)))) (S' := u v S1) (fun a z => upd_ne fun q => z (.inl q)) ⟨by rw [upd_same, u2], by rw [upd_ne (Ne.symm hLC), u1]; exact R1.gs.amb.2⟩
          exact ⟨.ref L, slot_ob R1 q, L, _, k, n, rfl, rfl, R1.gs.amb.1, hn, kk _ _ F1 A1 (R.stp (p1.trans p2)) R2⟩
        | _ => cases e
  | _ => rw [qd] at e; cases e
/-- s[0] != [] -/
def tSne (i : Nat) : ST S5 := fun ρ S => match ρ[i]? with
  | some (.im (.ob _)) => some (!S.cells.isEmpty, ρ, S)
  | _ => none
theorem ints_dp {K : PySem.W.Frag} {H : Hp} : ∀ (l : List Int), DpAll K H (l.map V.int) (l.map PyData.int)
  | [] => .nil
  | n :: l => .cons (.int n) (ints_dp l)
theorem sg_ne {q' lp : Pos} (hu : X.A.units + 64 < cLine) (hi : X.N[i]? = some x) (hv : Vis X.env.scope x) {sp : Pos} (hs : PlainIx (.Constant (.int 0) j p')) (hm : behindInMarks .NotEq (.List [] lp) = false := by rfl)
    (hd : (x == ("__debug__" : Str)) = false := by decide) (hcd : (x == ("__classdict__" : Str)) = false := by decide) :
    PT X (.Compare (.Subscript (.Name x q') (.Constant (.int 0) j p') sp) [.NotEq] [.List [] lp] pos) (tT (gS X.K L C hLC) (tSne i)) := by
  refine PT.mono' (pt_cmpR (op_neD hu) (pe_ix ix_seq (pe_var hi hv hd hcd) pe_int hs) (pe_lst pa_nil) hm) ?_
  rintro σ H Q ⟨H0, F0, ρ, F, As, S, r, ρ', S', R, e, kk⟩
  unfold tSne at e
  cases q : ρ[i]? with
  | none => rw [q] at e; cases e
  | some sl =>
    rw [q] at e
    cases sl with
    | non => cases e
    | ow d => cases e
    | im d =>
      cases d with
      | ob n =>
        cases e
        refine ⟨.ref L, slot_ob R q, .inl ⟨L, _, 0, .ref C, rfl, rfl, .inl (.inl R.gs.amb.1), rfl, Nat.zero_le _, fun p hp => ?_⟩⟩
        have xt := Ext.upd (o := .lst []) hp
        have R2 := R.ex xt
        refine ⟨.list (S.cells.map PyData.int), .list [], .lst (.inl (.inl R2.gs.amb.2)) (ints_dp _), .lst (.inl (.inl upd_same)) .nil, ?_, rfl, _, rfl, ?_⟩
        · have c0 : ∀ l : List Int, PyData.canLayAll0 (l.map PyData.int) = true := fun l => by
            induction l with
            | nil => rfl
            | cons n l ih => simpa [PyData.canLayAll0, PyData.canLay0] using ih
          have d0 : ∀ l : List Int, PyData.depthAll (l.map PyData.int) = 0 := fun l => by
            induction l with
            | nil => rfl
            | cons n l ih => simp [PyData.depthAll, PyData.depth, ih]
          simp [SeqAt.shaped, PyData.canLay0, PyData.depth, c0, d0]
        · have ev : (!PyData.eqv (.list (S.cells.map PyData.int)) (.list [])) = !S.cells.isEmpty := by cases S.cells <;> rfl
          rw [ev]
          exact kk _ F As (Stp.ext xt) R2
      | _ => cases e
/-- s[0].pop(0) -/
def eSpop (i : Nat) : SE S5 := fun ρ S => match ρ[i]? with
  | some (.im (.ob _)) => match S.cells with
    | c :: cs => some (.im (.int c), ρ, { S with cells := cs })
    | [] => none
  | _ => none
theorem sg_pop {q' sp apos cpos : Pos} {j2 : Nat} {p2 : Pos} (hi : X.N[i]? = some x) (hv : Vis X.env.scope x) (hs : PlainIx (.Constant (.int 0) j p'))
    (hbase : attributeBase (.Subscript (.Name x q') (.Constant (.int 0) j p') sp) "pop" X.env (eval (.Subscript (.Name x q') (.Constant (.int 0) j p') sp) X.env) = eval (.Subscript (.Name x q') (.Constant (.int 0) j p') sp) X.env := by rfl)
    (hline : (apos.endLine == cpos.line) = true := by rfl)
    (hd : (x == ("__debug__" : Str)) = false := by decide) (hcd : (x == ("__classdict__" : Str)) = false := by decide) :
    PE X (.Call (.Attribute (.Subscript (.Name x q') (.Constant (.int 0) j p') sp) "pop" apos) [.Constant (.int 0) j2 p2] [] cpos) (tE (gS X.K L C hLC) (eSpop i)) := by
  refine PE.mono' (pe_bm F.plainAttrs_list F.slot_list_pop F.type_list_pop mt_popAt (pe_ix ix_seq (pe_var hi hv hd hcd) pe_int hs) (pa_cons pe_int pa_nil rfl) hbase rfl hline rfl rfl) ?_
  rintro σ H Q ⟨H0, F0, ρ, F, As, S, r, ρ', S', R, e, kk⟩
  unfold eSpop at e
  cases q : ρ[i]? with
  | none => rw [q] at e; cases e
  | some sl =>
    rw [q] at e
    cases sl with
    | non => cases e
    | ow d => cases e
    | im d =>
      cases d with
      | ob n =>
        dsimp only at e
        cases hc : S.cells with
        | nil => rw [hc] at e; cases e
        | cons c cs =>
          rw [hc] at e
          cases e
          have am := R.gs.amb
          obtain ⟨R2, p2⟩ := R.ambient (H' := upd H C (.lst (cs.map V.int))) (S' := { S with cells := cs }) (fun a z => upd_ne fun q => z (.inr q)) ⟨by rw [upd_ne hLC]; exact am.1, by rw [upd_same]⟩
          have h2 : H C = some (.lst (.int c :: cs.map V.int)) := by rw [am.2, hc]; rfl
          exact ⟨.ref L, slot_ob R q, .inl ⟨L, _, 0, .ref C, rfl, rfl, .inl (.inl am.1), rfl, .inl ⟨rfl, _, .inl (.inl am.2)⟩, C, _, 0, 0, .int c, rfl, rfl, h2, by decide, by decide, by simp [seqIndex?], rfl, kk _ _ F As p2 R2 rfl⟩⟩
      | _ => cases e
end
end Dv
end
section
set_option maxHeartbeats 4000000
namespace Dv
open PySem PySem.Spec PyProof.Rows L2
variable {Sg : Type}
theorem room1 {k : Nat} {A : Around} (r : Room k A) : A.units + 1 < cLine := by have := r.un; omega
theorem room64 {k : Nat} {A : Around} (r : Room k A) : A.units + 64 < cLine := by have := r.un; omega
abbrev FnP (K : PySem.W.Frag) (x : Str) (st : Stmt) (f : Addr) (fd : FuncData) : Prop := FunD K x x (defArgs st) (defBody st) (defScope st) [] [] f fd
section
variable {X : Cx} {G : Gd Sg} {e a b c tg iter : Expr} {pos : Pos}
/-! ### a list or a tuple walked -/
def iSeq (f : SE Sg) : SA Sg := fun ρ S => (f ρ S).bind fun p => (frz p.1).bind fun d => match d with
  | .lst l => some (l, p.2.1, p.2.2)
  | .tup _ l => some (l, p.2.1, p.2.2)
  | _ => none
theorem frz_d {r : Rv} {d : D} (h : frz r = some d) : r.d = d := by
  cases r with
  | im x => cases h; rfl
  | nw x => cases h; rfl
  | br x =>
    have h : (if pureD x = true then some x else none) = some d := h
    by_cases hp : pureD x = true
    · rw [if_pos hp] at h; cases h; rfl
    · rw [if_neg hp] at h; cases h
theorem it_seq {f : SE Sg} (hK : G.K = X.K) (he : PE X iter (tE G f)) : PI X tg iter (tIt G (iSeq f)) := ⟨fun pins s σ H R I q => by
  have key : tIt G (iLst f) σ H R ∨ tIt G (iTpl f) σ H R := by
    obtain ⟨H0, F0, ρ, F, As, S, l, ρ', S', Rl, e, k⟩ := q
    obtain ⟨⟨r1, ρ1, S1⟩, e1, e⟩ := Option.bind_eq_some_iff.mp e
    obtain ⟨d, ed, e⟩ := Option.bind_eq_some_iff.mp e
    cases d with
    | lst l' =>
      refine .inl ⟨H0, F0, ρ, F, As, S, l, ρ', S', Rl, ?_, k⟩
      unfold iLst
      rw [e1]
      show (frz r1).bind _ = _
      rw [ed]
      exact e
    | tup x l' =>
      refine .inr ⟨H0, F0, ρ, F, As, S, l, ρ', S', Rl, ?_, k⟩
      unfold iTpl
      rw [e1]
      have := frz_d ed
      show (match r1.d with | .tup _ l => some (l, ρ1, S1) | _ => none) = _
      rw [this]
      exact e
    | _ => cases e
  rcases key with h | h
  · exact (it_list hK he).run pins s σ H R I h
  · exact (it_tup hK he).run pins s σ H R I h⟩
/-- a target of n names takes n things -/
theorem tl_nil : ∀ (l : List D) (ρ ρ' : En), tdNil l ρ = some ρ' → l.length = 0 := fun l ρ ρ' h => by cases l with
  | nil => rfl
  | cons d l => cases h
theorem tl_cons {t : TD} {u : List D → En → Option En} {n : Nat} (h : ∀ l ρ ρ', u l ρ = some ρ' → l.length = n) : ∀ (l : List D) (ρ ρ' : En), tdCons t u l ρ = some ρ' → l.length = n + 1 := fun l ρ ρ' e => by
  cases l with
  | nil => cases e
  | cons d l =>
    obtain ⟨ρ1, _, e2⟩ := Option.bind_eq_some_iff.mp (show (t d ρ).bind (fun ρ1 => u l ρ1) = some ρ' from e)
    rw [List.length_cons, h l ρ1 ρ' e2]
end
end Dv
end
section
set_option maxHeartbeats 4000000
namespace Dv
open PySem PySem.Spec PyProof.Rows L2
/-! ### the script and a list, one behind the other -/
def rCatK (K : PySem.W.Frag) : R2 := fun x y H Q => ∃ a b xs zs, x = .ref a ∧ y = .ref b ∧ Lk K H a xs ∧ H b = some (.lst zs) ∧ xs.length + zs.length ≤ sizeLine ∧ ∀ p, H p = none → Q (.ref p) (upd H p (.lst (xs ++ zs)))
theorem op_catK {X : Cx} : OpR X (binaryOp .Add) (rCatK X.K) := by
  intro pins s σ H x y v u Q I hx hy h
  obtain ⟨a, b, xs, zs, rfl, rfl, ha, hb, hz, q⟩ := h
  cases hx
  cases hy
  obtain ⟨z2, its2, n2, r2, l2, e2⟩ := I.lstM hb
  have e1 : ∃ (its : List Value) (n : Nat), Vals xs its ∧ s.heap.get? a = some { cls := .type "list", data := .seq its.toArray n } := by
    rcases ha with ⟨o, ha⟩ | ⟨its, n, hk, _, r⟩
    · obtain ⟨_, _, its, n, r, e⟩ := I.hok a _ ha
      exact ⟨its, n, r, e⟩
    · exact ⟨its.toList, n, r, by rw [Array.toArray_toList]; exact I.kIn a _ hk⟩
  obtain ⟨its, n, r1, e1⟩ := e1
  have l1 := r1.length
  refine PySem.P.add_list e1 e2 ?_ (by rw [List.size_toArray, List.size_toArray]; omega)
  rw [show its.toArray ++ its2.toArray = (its ++ its2).toArray by simp]
  exact ⟨.ref _, _, I.lnew (t' := s.toks) (r1.append r2) (by rw [List.length_append]; omega), rfl, q _ I.fresh⟩
/-! ### a law's call -/
theorem call_law {P : Program} {w : World} {K : PySem.W.Frag} {mg mb : Str → Option Value} {k : Nat} {fa a : Addr} {fd : FuncData} {x : Str} {sp : Sp} {s₁ : Shared} {vs : List Value} {ns : List Int}
    (KX : K.In s₁.heap) (hns : s₁.heap.Ns mainGlobals mg) (hb : s₁.heap.Ns builtinsNs mb) (hbb : ∀ x : Str, x ≠ "__name__" → mb x = bootBuiltins x) (hlim : s₁.heap.NoLimit) (hg : s₁.gens = #[])
    (ha : s₁.heap.get? a = some { cls := .type "list", data := .seq vs.toArray }) (hi : IntsAre vs ns) (hl : ns.length ≤ sizeLine) (hr : Room k callerA)
    (F : ∀ base : Heap, K.In base → base.Ns mainGlobals mg → FnG P w K mg base k fa fd [x] sp) (hbind : ∀ (s : Shared) (u : Value), BindsTo s fd ⟨[u], []⟩ [(x, u)])
    (hsp : ∀ H : Hp, Only H → Lk K H a (ns.map V.int) → sp [.ref a] H (fun v _ => v = .bl true) fun _ _ _ => False) :
    codeAny (model P w) callerA (.call (.ref fa) ⟨[.ref a], []⟩) (fun r s' => r = .ok (.ret (.bool true)) ∧ OldK s₁.heap s'.heap ∧ s'.os = s₁.os ∧ AllBare s'.gens) s₁ := by
  have rel := vals_ints hi
  have nv := hi.length
  have go : ∀ H : Hp, Only H → Lk K H a (ns.map V.int) → HOk P w H s₁.heap → (∀ b, H b ≠ none → b = a) → (H a ≠ none → K.lookup a = none) →
      codeAny (model P w) callerA (.call (.ref fa) ⟨[.ref a], []⟩) (fun r s' => r = .ok (.ret (.bool true)) ∧ OldK s₁.heap s'.heap ∧ s'.os = s₁.os ∧ AllBare s'.gens) s₁ := by
    intro H on lk ok one nk
    have free : ∀ {b : Addr} {o : Obj}, s₁.heap.get? b = some o → (∀ vs n, o.data ≠ .seq vs n) → H b = none := fun {b o} e d => by
      cases q : H b with
      | none => rfl
      | some u =>
        have : b = a := one b (by rw [q]; exact fun z => nomatch z)
        subst this
        rw [ha] at e
        cases e
        exact absurd rfl (d _ _)
    have ns' : ∀ {b : Addr} {m : Str → Option Value}, s₁.heap.Ns b m → (hidT s₁.heap H).Ns b m := fun {b m} ⟨o, es, ep, e, d, r⟩ => ⟨o, es, ep, hidT_get e (free e fun _ _ z => by rw [d] at z; cases z), d, r⟩
    have kb : K.In (hidT s₁.heap H) := fun b o e => hidT_get (KX b o e) (by
      cases q : H b with
      | none => rfl
      | some u =>
        have : b = a := one b (by rw [q]; exact fun z => nomatch z)
        subst this
        rw [nk (by rw [q]; exact fun z => nomatch z)] at e
        cases e)
    have md : Mod K mg (hidT s₁.heap H) := ⟨kb, ns' hns, ⟨mb, ns' hb, hbb⟩, let ⟨mc, h1, h2⟩ := hlim; ⟨mc, ns' h1, h2⟩⟩
    have nomem : ∀ b : Addr, ¬ b ∈ ([] : List Addr) := fun b z => nomatch z
    have en : Env0 P w K mg (hidT s₁.heap H) callerA [] s₁ H := ⟨rfl, md, fun b o e => of_hidT e, Nat.le_of_eq (hidT_size _ _), trivial, fun b z => absurd z (nomem b), ok, .of_eq hg⟩
    refine codeAny_mono ((F _ kb (ns' hns)).go callerA [] s₁ H ⟨[.ref a], []⟩ [.ref a] [.ref a] _ _ hr rfl en (hbind s₁ (.ref a)) (.cons rfl .nil) (hsp H on lk)) fun r s' h => ?_
    match r, h with
    | .ok (.ret u), h =>
      obtain ⟨v, H', os, bare, un, ok', r', q⟩ := h
      have q' : v = .bl true := q
      subst q'
      have hu : u = Value.bool true := r'
      subst hu
      refine ⟨rfl, OldK.of_keep fun b o e => ?_, os, bare⟩
      rcases on b with z | ⟨ob, xs, z⟩
      · exact un.keep b o e z (nomem b) (by simp)
      · obtain ⟨f1, _⟩ := ok b _ z
        obtain ⟨f2, _⟩ := ok' b _ (un.frzs b ob _ z)
        rw [e] at f1
        cases f1
        exact f2
    | .ok .next, h => exact False.elim h
    | .ok .brk, h => exact False.elim h
    | .ok .cont, h => exact False.elim h
    | .error e, h => exact False.elim h
  cases hk : K.lookup a with
  | some o =>
    have e := KX a o hk
    rw [ha] at e
    cases e
    exact go (fun _ => none) (fun _ => .inl rfl) (.inr ⟨vs.toArray, _, hk, by rw [List.size_toArray, nv]; exact hl, by simpa using rel⟩) (fun b u z => nomatch z) (fun b z => absurd rfl z) fun z => absurd rfl z
  | none =>
    refine go (fun b => if b = a then some (.frz { cls := .type "list", data := .seq vs.toArray } (.lst (ns.map V.int))) else none) (fun b => ?_) (.inl ⟨_, if_pos rfl⟩) (fun b u z => ?_) (fun b z => ?_) fun _ => hk
    · by_cases q : b = a
      · exact .inr ⟨_, _, if_pos q⟩
      · exact .inl (if_neg q)
    · by_cases q : b = a
      · have z := (if_pos q).symm.trans z
        cases z
        subst q
        exact ⟨ha, by rw [List.length_map]; exact hl, vs, _, rel, ha⟩
      · have z := (if_neg q).symm.trans z
        cases z
    · by_cases q : b = a
      · exact q
      · exact absurd (if_neg q) z
/-- the case of the head -/
theorem walk_law {l : PySem.W.OpenLaw} {n k : Nat} {q : Program} {loose : List Str} {XP : (Str → Option Value) → Heap → Prop} {YP : World → Heap → Prop} {d : DefRec} {x : Str} (hn : l.most = some n) (hn2 : n ≤ sizeLine) (hdf : d.params.defaults = []) (hr : Room k callerA)
    (F : ∀ (w : World) (mg : Str → Option Value) (fa : Addr) (h : Heap), YP w h → h.Ns mainGlobals mg → mg d.name = some (.ref fa) →
      ∃ (K : PySem.W.Frag) (fd : FuncData) (sp : Sp), K.In h ∧ (∀ (s : Shared) (u : Value), BindsTo s fd ⟨[u], []⟩ [(x, u)]) ∧
        (∀ (H : Hp) (a : Addr) (ns : List Int), ns.length ≤ n → Only H → Lk K H a (ns.map V.int) → sp [.ref a] H (fun v _ => v = .bl true) fun _ _ _ => False) ∧
        ∀ base : Heap, K.In base → base.Ns mainGlobals mg → FnG l.prog w K mg base k fa fd [x] sp) :
    PySem.W.WalkO q loose XP YP l.row.toRowW d [] (fun f vs => PySem.call f vs) := by
  refine Att.attach_call hn hdf fun w s₀ s₁ mg mb fa o pm cd doc a vs ns G Y ho hd hcd hmg hobj hints hlen hg => ?_
  obtain ⟨K, fd, sp, KX, hb, hsp, hF⟩ := F w mg fa _ Y G.T.g hmg
  exact call_law KX G.T.g G.T.b G.T.builtins G.T.nolimit hg hobj hints (Nat.le_trans hlen hn2) hr hF hb fun H on lk => hsp H a ns hlen on lk
end Dv
end
section
set_option maxHeartbeats 4000000
/-! Dv18: what is shown of small data -/
namespace Dv
open PySem PySem.Spec PyProof.Rows L2
structure Shw (k m : Nat) (p : PyData) : Prop where
  sh : p.showable = true
  nd : p.hasDict = false
  lv : p.leavesShort 13 = true
  dp : p.depth ≤ k
  wt : p.weight ≤ m
structure ShwA (k m : Nat) (ps : List PyData) : Prop where
  sh : PyData.showableAll ps = true
  nd : PyData.hasDictAll ps = false
  lv : PyData.leavesShortAll 13 ps = true
  dp : PyData.depthAll ps ≤ k
  wt : PyData.weightAll ps ≤ m
theorem Shw.okR {k m : Nat} {p : PyData} (h : Shw k m p) (hk : k ≤ 60) (hm : m ≤ 1048576) : Dv.okR p = true := by
  unfold Dv.okR
  have h1 := PyData.shown_fits (B := 13) (by decide) (by decide) h.lv (by have := h.wt; have e : (2 : Nat) ^ 20 = 1048576 := by decide
                                                                          omega)
  have h2 := h.dp
  simp only [h.sh, h.nd, Bool.and_eq_true, decide_eq_true_eq, Bool.not_false, Bool.true_and]
  exact ⟨by omega, h1⟩
theorem Shw.none : Shw 0 0 .none := ⟨rfl, rfl, rfl, by decide, by decide⟩
theorem Shw.bool (b : Bool) : Shw 0 0 (.bool b) := ⟨rfl, rfl, rfl, Nat.le_refl _, Nat.le_refl _⟩
theorem log_small {i : Nat} (h : i < 10 ^ 12) : i.log2 < 40 := by
  by_cases h0 : i = 0
  · subst h0; decide
  · exact (Nat.log2_lt h0).mpr (Nat.lt_trans h (by decide))
theorem Shw.int {i : Int} (h : i.natAbs < 10 ^ 12) : Shw 0 40 (.int i) := by
  have hl := log_small h
  refine ⟨decide_eq_true (by omega), rfl, decide_eq_true (PyData.shown_int_le h), Nat.le_refl _, ?_⟩
  show (if i == 0 then 0 else i.natAbs.log2 + 1) ≤ 40
  split <;> omega
theorem Shw.str {x : Str} {n : Nat} (h : (x.cps.toList.all fun c => decide (c < 16 ^ 8)) = true) (hn : x.cps.size ≤ n) : Shw 0 n (.str x) := ⟨rfl, rfl, h, Nat.le_refl _, hn⟩
theorem ShwA.nil {k : Nat} : ShwA k 0 [] := ⟨rfl, rfl, rfl, Nat.zero_le _, Nat.le_refl _⟩
theorem ShwA.cons {k m n : Nat} {p : PyData} {ps : List PyData} (h : Shw k m p) (hs : ShwA k n ps) : ShwA k (m + 1 + n) (p :: ps) := by
  refine ⟨?_, ?_, ?_, ?_, ?_⟩
  · show (p.showable && PyData.showableAll ps) = true
    rw [h.sh, hs.sh]; rfl
  · show (p.hasDict || PyData.hasDictAll ps) = false
    rw [h.nd, hs.nd]; rfl
  · show (p.leavesShort 13 && PyData.leavesShortAll 13 ps) = true
    rw [h.lv, hs.lv]; rfl
  · show max p.depth (PyData.depthAll ps) ≤ k
    exact Nat.max_le.mpr ⟨h.dp, hs.dp⟩
  · show p.weight + 1 + PyData.weightAll ps ≤ _
    have := h.wt
    have := hs.wt
    omega
theorem ShwA.tuple {k m : Nat} {ps : List PyData} (h : ShwA k m ps) : Shw (k + 1) m (.tuple ps) := ⟨h.sh, h.nd, h.lv, Nat.succ_le_succ h.dp, h.wt⟩
theorem ShwA.list {k m : Nat} {ps : List PyData} (h : ShwA k m ps) : Shw (k + 1) m (.list ps) := ⟨h.sh, h.nd, h.lv, Nat.succ_le_succ h.dp, h.wt⟩
theorem Shw.mono {k m k' m' : Nat} {p : PyData} (h : Shw k m p) (hk : k ≤ k') (hm : m ≤ m') : Shw k' m' p := ⟨h.sh, h.nd, h.lv, Nat.le_trans h.dp hk, Nat.le_trans h.wt hm⟩
theorem ShwA.mono {k m k' m' : Nat} {p : List PyData} (h : ShwA k m p) (hk : k ≤ k') (hm : m ≤ m') : ShwA k' m' p := ⟨h.sh, h.nd, h.lv, Nat.le_trans h.dp hk, Nat.le_trans h.wt hm⟩
theorem ShwA.all {k m : Nat} : ∀ {ps : List PyData}, (∀ p ∈ ps, Shw k m p) → ShwA k ((m + 1) * ps.length) ps
  | [], _ => .nil
  | p :: ps, h => by
    have := ShwA.cons (h p List.mem_cons_self) (ShwA.all fun q hq => h q (List.mem_cons_of_mem _ hq))
    rw [List.length_cons, Nat.mul_add, Nat.mul_one, Nat.add_comm]
    exact this
theorem toPys_map {α : Type} {f : α → D} {g : α → PyData} : ∀ {l : List α}, (∀ a ∈ l, toPy (f a) = some (g a)) → toPys (l.map f) = some (l.map g)
  | [], _ => rfl
  | a :: l, h => by
    show (toPy (f a)).bind (fun p => (toPys (l.map f)).bind fun ps => some (p :: ps)) = _
    rw [h a List.mem_cons_self, toPys_map fun b hb => h b (List.mem_cons_of_mem _ hb)]
    rfl
theorem toPy_tup {x : Bool} {l : List D} {ps : List PyData} (h : toPys l = some ps) : toPy (.tup x l) = some (.tuple ps) := by
  show (toPys l).bind (fun ps => some (PyData.tuple ps)) = _
  rw [h]
  rfl
theorem toPy_lst {l : List D} {ps : List PyData} (h : toPys l = some ps) : toPy (.lst l) = some (.list ps) := by
  show (toPys l).bind (fun ps => some (PyData.list ps)) = _
  rw [h]
  rfl
theorem toPys_cons {d : D} {l : List D} {p : PyData} {ps : List PyData} (h1 : toPy d = some p) (h2 : toPys l = some ps) : toPys (d :: l) = some (p :: ps) := by
  show (toPy d).bind (fun p => (toPys l).bind fun ps => some (p :: ps)) = _
  rw [h1, h2]
  rfl
theorem repr_lst {l : List D} {p : PyData} (h : toPy (.lst l) = some p) (ho : Dv.okR p = true) : opRepr [.lst l] = some (.im (.str p.shown)) := by
  show (toPy (.lst l)).bind (fun p => if Dv.okR p = true then some (Rv.im (.str p.shown)) else none) = _
  rw [h]
  show (if Dv.okR p = true then _ else _) = _
  rw [if_pos ho]
theorem repr_tup {x : Bool} {l : List D} {p : PyData} (h : toPy (.tup x l) = some p) (ho : Dv.okR p = true) : opRepr [.tup x l] = some (.im (.str p.shown)) := by
  show (toPy (.tup x l)).bind (fun p => if Dv.okR p = true then some (Rv.im (.str p.shown)) else none) = _
  rw [h]
  show (if Dv.okR p = true then _ else _) = _
  rw [if_pos ho]
end Dv
end
section
set_option maxHeartbeats 4000000
/-! Dv19: isinstance, in, texts compared, is True -/
namespace Dv
open PySem PySem.Spec PyProof.Rows L2
variable {Sg : Type}
section
variable {X : Cx} {G : Gd Sg} {e a b c tg iter : Expr} {pos : Pos}
def tyD : D → Option String
  | .non => some "NoneType" | .bl _ => some "bool" | .int _ => some "int" | .str _ => some "str"
  | .tup _ _ => some "tuple" | .lst _ => some "list" | .dct _ _ => some "dict" | .dtt _ _ => some "dict" | _ => none
def isTy (t T : String) : Bool := t == T || (T == "int" && t == "bool")
def opIsI (T : String) : D → Option Rv := fun d => (tyD d).bind fun t => some (.im (.bl (isTy t T)))
theorem kitB_all : ∀ t ∈ ["NoneType", "bool", "int", "str", "tuple", "list", "dict"], ∀ T ∈ ["bool", "int", "str", "tuple", "list", "dict"], kitB t T = some (isTy t T) := by decide +kernel
theorem tyD_mem {d : D} {t : String} (h : tyD d = some t) : t ∈ ["NoneType", "bool", "int", "str", "tuple", "list", "dict"] := by
  cases d <;> cases h <;> decide
theorem SqT.tyX {K : PySem.W.Frag} {H : Hp} {a : Addr} {vs : List V} (h : SqT K H a vs) : TyX K H (.ref a) (.type "tuple") := by
  rcases h with (h | ⟨o, h⟩) | ⟨o, its, n, h, c, _⟩
  · exact .base (.tup h)
  · exact .fTuple h
  · exact .kTuple h c
theorem Rb.tyX {H : Hp} {F : Addr → Prop} {d : D} {v : V} {t : String} (h : Rb G H F d v) (e : tyD d = some t) : TyX G.K H v (.type t) := by
  cases d with
  | non => cases e; cases h; exact .base .non
  | bl b => cases e; cases h; exact .base (.bl b)
  | int i => cases e; cases h; exact .base (.int i)
  | str x => cases e; cases h; exact .base (.str x)
  | tup x l =>
    cases e
    obtain ⟨a, vs, rfl, s, _⟩ := h
    exact SqT.tyX s.1
  | lst l =>
    cases e
    obtain ⟨a, vs, rfl, s, _⟩ := h
    exact .base (.lst s)
  | dct ks l =>
    cases e
    obtain ⟨a, kvs, rfl, s, _⟩ := h
    rcases s with s | ⟨o, s⟩
    · exact .base (.dK s)
    · exact .fDict s
  | ob n => cases e
  | dtt ks l =>
    cases e
    obtain ⟨a, kvs, rfl, s, _⟩ := h
    exact .base (.dT s)
  | exc c ns l => cases e
  | scr ns => cases e
theorem pd_isi {f : SE Sg} {T : String} {tx : Str} {p p2 : Pos} (hK : G.K = X.K) (hT : T ∈ ["bool", "int", "str", "tuple", "list", "dict"]) (hg : Gl X "isinstance") (hm : X.mg "isinstance" = none) (hg2 : Gl X tx) (hm2 : X.mg tx = none) (hv2 : bootBuiltins tx = some (.type T)) (he : PE X e (tE G f))
    (hn : tx ≠ "__name__" := by decide) (hd : (tx == ("__debug__" : Str)) = false := by decide)
    (h1 : starEach [e, .Name tx p2] X.env = (false, eval e X.env) :: starEach [.Name tx p2] X.env := by rfl) (h2 : starEach [.Name tx p2] X.env = (false, eval (.Name tx p2) X.env) :: starEach [] X.env := by rfl) (h3 : (backTo pos (starEach [.Name tx p2] X.env)).any (·.1) = false := by rfl) :
    PE X (.Call (.Name "isinstance" p) [e, .Name tx p2] [] pos) (tE G (eOp1 (opIsI T) f)) := by
  refine PE.mono' (pe_callB call_isi hg hm boot_isinstance (pa_cons he (pa_cons (pe_bltn hg2 hm2 hv2 (v := .ty T) rfl hn hd) pa_nil h2) h1) (he := h1) (hpl := h3)) ?_
  rintro σ H Q ⟨H0, F0, ρ, F, As, S, rr, ρ', S', R, e, k⟩
  obtain ⟨⟨r1, ρ1, S1⟩, e1, e⟩ := Option.bind_eq_some_iff.mp e
  obtain ⟨r3, e3, e⟩ := Option.bind_eq_some_iff.mp e
  cases e
  obtain ⟨t, et, e3⟩ := Option.bind_eq_some_iff.mp e3
  cases e3
  refine ⟨H0, F0, ρ, F, As, S, r1, ρ1, S1, R, e1, fun v1 H1 F1 A1 p1 R1 h1 => ?_⟩
  refine ⟨v1, .ty T, _, _, _, rfl, .ty T, hK ▸ Rb.tyX h1.rb et, kit_ty (kitB_all t (tyD_mem et) T hT), ?_⟩
  exact (R1.kn fun v H' F' A' p R' h => k v H' F' A' (p1.trans p) R' (h.back p1)).im rfl
/-! ### in, not in -/
def opIn (neg : Bool) : D → D → Option Rv
  | .str x, .str z => match x.cps.toList with
    | [c] => some (.im (.bl (xor neg (decide (c ∈ z.cps.toList)))))
    | _ => none
  | .str x, .lst l => (strsD l).bind fun xs => some (.im (.bl (xor neg (decide (x ∈ xs)))))
  | .str x, .tup _ l => (strsD l).bind fun xs => some (.im (.bl (xor neg (decide (x ∈ xs)))))
  | _, _ => none
def rInX (K : PySem.W.Frag) (neg : Bool) : R2 := fun x y H Q => rIn K neg x y H Q ∨ ∃ (c : Nat) (z : Str), x = .str ⟨#[c]⟩ ∧ y = .str z ∧ Q (.bl (xor neg (decide (c ∈ z.cps.toList)))) H
theorem op_inX : OpR X (compareOp .In) (rInX X.K false) := by
  intro pins s σ H x y v u Q I rx ry h
  rcases h with h | ⟨c, z, rfl, rfl, q⟩
  · exact op_in_seq pins s σ H x y v u Q I rx ry h
  · exact op_in_sign pins s σ H _ _ v u Q I rx ry ⟨c, z, rfl, rfl, by simpa using q⟩
theorem op_notInX : OpR X (compareOp .NotIn) (rInX X.K true) := by
  intro pins s σ H x y v u Q I rx ry h
  rcases h with h | ⟨c, z, rfl, rfl, q⟩
  · exact op_notIn_seq pins s σ H x y v u Q I rx ry h
  · exact op_notIn_sign pins s σ H _ _ v u Q I rx ry ⟨c, z, rfl, rfl, by simpa using q⟩
theorem inV_strs (x : Str) : ∀ xs : List Str, inV (.str x) (xs.map V.str) = decide (x ∈ xs)
  | [] => rfl
  | y :: xs => by
    have ih := inV_strs x xs
    unfold inV at ih ⊢
    rw [List.map_cons, List.any_cons, ih]
    show (y == x || decide (x ∈ xs)) = decide (x ∈ y :: xs)
    by_cases h : y = x
    · subst h; simp
    · have h' : ¬ x = y := fun q => h q.symm
      simp [h, h']
theorem flat_strs : ∀ xs : List Str, (xs.map V.str).all flatV = true
  | [] => rfl
  | y :: xs => by rw [List.map_cons, List.all_cons, flat_strs xs]; rfl
theorem od_in {neg : Bool} (hK : G.K = X.K) : Op2 G (rInX X.K neg) (opIn neg) := by
  intro x y d e H F S res Q g hx hy eq k
  cases d <;> try (cases e <;> cases eq; done)
  case str x' =>
    cases hx
    cases e <;> try (cases eq; done)
    case str z =>
      cases hy
      obtain ⟨⟨l⟩⟩ := x'
      match l, eq with
      | [c], eq =>
        cases eq
        exact .inr ⟨c, z, rfl, rfl, k.im rfl⟩
    case lst l =>
      obtain ⟨xs, e1, e2⟩ := Option.bind_eq_some_iff.mp (show (strsD l).bind (fun xs => some (Rv.im (.bl (xor neg (decide (x' ∈ xs)))))) = some res from eq)
      cases e2
      obtain ⟨a, vs, rfl, s, z, r⟩ := hy
      have := r.strs' e1
      subst this
      refine .inl ⟨a, _, rfl, .inl (.inl (.inl s)), rfl, flat_strs xs, ?_⟩
      rw [inV_strs]
      have := k.im (v := .bl (xor neg (decide (x' ∈ xs)))) rfl
      cases neg <;> simpa using this
    case tup c l =>
      obtain ⟨xs, e1, e2⟩ := Option.bind_eq_some_iff.mp (show (strsD l).bind (fun xs => some (Rv.im (.bl (xor neg (decide (x' ∈ xs)))))) = some res from eq)
      cases e2
      obtain ⟨a, vs, rfl, s, z, r⟩ := hy
      have := r.strs' e1
      subst this
      refine .inl ⟨a, _, rfl, .inr (hK ▸ s.1), rfl, flat_strs xs, ?_⟩
      rw [inV_strs]
      have := k.im (v := .bl (xor neg (decide (x' ∈ xs)))) rfl
      cases neg <;> simpa using this
/-! ### texts compared -/
def opLtS : D → D → Option Rv
  | .str x, .str y => some (.im (.bl (decide (x.cps.toList < y.cps.toList))))
  | _, _ => none
def opGeS : D → D → Option Rv
  | .str x, .str y => some (.im (.bl (!decide (x.cps.toList < y.cps.toList))))
  | _, _ => none
theorem od_ltS : Op2 G (fun x y H Q => ∃ i j, x = .str i ∧ y = .str j ∧ Q (.bl (decide (i.cps.toList < j.cps.toList))) H) opLtS := by
  intro x y d e H F S res Q g hx hy eq k
  cases d <;> cases e <;> try (cases eq; done)
  case str.str i j =>
    cases eq; cases hx; cases hy
    exact ⟨i, j, rfl, rfl, k.im rfl⟩
theorem od_geS : Op2 G (fun x y H Q => ∃ i j, x = .str i ∧ y = .str j ∧ Q (.bl (!decide (i.cps.toList < j.cps.toList))) H) opGeS := by
  intro x y d e H F S res Q g hx hy eq k
  cases d <;> cases e <;> try (cases eq; done)
  case str.str i j =>
    cases eq; cases hx; cases hy
    exact ⟨i, j, rfl, rfl, k.im rfl⟩
/-! ### is True, is False -/
def opIsB : D → D → Option Rv
  | .bl x, .bl y => some (.im (.bl (decide (x = y))))
  | _, _ => none
theorem od_isB : Op2 G rIsB opIsB := by
  intro x y d e H F S res Q g hx hy eq k
  cases d <;> cases e <;> try (cases eq; done)
  case bl.bl i j =>
    cases eq; cases hx; cases hy
    exact ⟨i, j, rfl, rfl, k.im rfl⟩
/-! ### sep.join(xs) -/
def opJoin : D → D → Option Rv
  | .str a, .lst l => (strsD l).bind fun xs => if (xs.map (·.length)).sum + xs.length * a.length ≤ 16777216 then some (.im (.str (Txt.join a xs))) else none
  | _, _ => none
end
end Dv
end
section
set_option maxHeartbeats 4000000
/-! Dv20: t[::-1] -/
namespace Dv
open PySem PySem.Spec PyProof.Rows L2
section
variable {prog : Program} {w : World} {A : Around} {E : Value → Shared → Prop} {s : Shared}
theorem adjust_rev (n : Nat) : Builtin.Slice.sliceAdjust none none (-1) (n : Int) = ((n : Int) - 1, -1) := by
  unfold Builtin.Slice.sliceAdjust
  have h1 : ((-1 : Int) < 0) := by omega
  simp only [h1, if_true]
theorem places_rev (n : Nat) : Builtin.Slice.slicePlaces ((n : Int) - 1) (-1) (-1) = n := by
  unfold Builtin.Slice.slicePlaces
  have h1 : ¬ ((-1 : Int) > 0) := by omega
  simp only [h1, if_false]
  have e : -(-1 : Int) = 1 := rfl
  rw [e, Int.ediv_one]
  split <;> omega
theorem sliceApplied_rev {sl : Addr} {vl vu vs : Value} {n : Nat} {Q : Int × Int × Nat → Shared → Prop} (hs : s.heap.IsSliceOf sl vl vu vs) (pl : IsPart vl none) (pu : IsPart vu none) (ps : IsPart vs (some (-1)))
    (h : Q ((n : Int) - 1, -1, n) s) : wpAny (model prog w) A (Builtin.Slice.sliceApplied (.ref sl) (pure (n : Int))) Q E s := by
  obtain ⟨os, hos, hcs, hds⟩ := id hs
  unfold Builtin.Slice.sliceApplied Builtin.Slice.sliceFields
  refine wpAny_bind (wpAny_bind (wpAny_field hos hds (x := vl) rfl (wpAny_bind (wpAny_field hos hds (x := vu) rfl (wpAny_bind (wpAny_field hos hds (x := vs) rfl (wpAny_pure ?_)))))))
  refine wpAny_bind (HT.slicePart_ ps ?_)
  show wpAny _ _ (if ((-1 : Int) == 0) = true then _ else _) _ _ s
  rw [if_neg (by decide)]
  refine wpAny_bind (HT.slicePart_ pl (wpAny_bind (HT.slicePart_ pu (wpAny_bind (wpAny_pure ?_)))))
  show wpAny _ _ (match Builtin.Slice.sliceAdjust none none (-1) (n : Int) with | (lo, hi) => pure (lo, (-1 : Int), Builtin.Slice.slicePlaces lo hi (-1))) _ _ s
  rw [adjust_rev n]
  show wpAny _ _ (pure ((n : Int) - 1, (-1 : Int), Builtin.Slice.slicePlaces ((n : Int) - 1) (-1) (-1))) _ _ s
  rw [places_rev]
  exact wpAny_pure h
theorem pick_rev (xs : Array Value) : ((List.range xs.size).filterMap fun (k : Nat) => xs[((xs.size : Int) - 1 + (k : Int) * (-1)).toNat]?).toArray = xs.toList.reverse.toArray := by
  congr 1
  have e : ((List.range xs.size).filterMap fun (k : Nat) => xs[((xs.size : Int) - 1 + (k : Int) * (-1)).toNat]?) = (List.range xs.size).filterMap fun (k : Nat) => xs[xs.size - 1 - k]? := by
    have cg : ∀ (l : List Nat), (∀ k ∈ l, k < xs.size) → (l.filterMap fun (k : Nat) => xs[((xs.size : Int) - 1 + (k : Int) * (-1)).toNat]?) = l.filterMap fun (k : Nat) => xs[xs.size - 1 - k]? := by
      intro l
      induction l with
      | nil => intro _; rfl
      | cons k l ih =>
        intro h
        have h0 := h k List.mem_cons_self
        have e2 : ((xs.size : Int) - 1 + (k : Int) * (-1)).toNat = xs.size - 1 - k := by omega
        rw [List.filterMap_cons, List.filterMap_cons, e2, ih fun j hj => h j (List.mem_cons_of_mem _ hj)]
    exact cg _ fun k hk => List.mem_range.mp hk
  rw [e]
  have e3 : ((List.range xs.size).filterMap fun (k : Nat) => xs[xs.size - 1 - k]?) = ((List.range xs.size).map fun k => xs.size - 1 - k).filterMap (xs[·]?) := by
    rw [List.filterMap_map]
    rfl
  rw [e3, PySem.W.krv_range, List.filterMap_reverse, PySem.W.krv_all]
theorem getItem_tuple_rev {t sl : Addr} {items : Array Value} {vl vu vs : Value} {Q : Value → Shared → Prop} (ht : IsTup s.heap t items) (hs : s.heap.IsSliceOf sl vl vu vs) (pl : IsPart vl none) (pu : IsPart vu none) (ps : IsPart vs (some (-1)))
    (h : Q (.ref s.heap.objs.size) { s with heap := s.heap.push { cls := .type "tuple", data := .seq items.toList.reverse.toArray } })
    (hsz : items.size ≤ sizeLine) : wpAny (model prog w) A (getItem (.ref t) (.ref sl)) Q E s := by
  have htake : sizeOk (.seq items.toList.reverse.toArray) := by
    show items.toList.reverse.toArray.size ≤ sizeLine
    rw [List.size_toArray, List.length_reverse, Array.length_toList]
    exact hsz
  obtain ⟨os, hos, hcs, hds⟩ := id hs
  have hTs : s.TypeIs (.ref sl) "slice" := ⟨os, hos, hcs⟩
  unfold getItem
  try with_reducible refine wpAny_holding ?_
  first | refine wpAny_bind (wpAny_pure ?_) | skip
  refine wpAny_bind (wpAny_sequenceKey ht.typeIs (by decide) ?_)
  refine wpAny_bind (wpAny_callSpecial?_slot (name := Str.ofString "__getitem__") ht.typeIs PyProof.Rows.slot_tuple_getitem
    (wpAny_call_entry PyProof.Rows.slot_tuple_getitem ht.typeIs entry_tuple_getitem ?_ (args_tuple_getitem _ _)))
  show wpAny _ _ (Builtin.Tuple.tupleItemsOf (.ref t) >>= _) _ _ s
  refine wpAny_bind (tupleItemsOf_ ht ?_)
  refine wpAny_bind (wpAny_typeOf hTs ?_)
  rw [if_pos (by decide)]
  refine wpAny_bind (sliceApplied_rev hs pl pu ps ?_)
  have hno : ¬ ((((items.size : Int) - 1) == 0 && (-1 : Int) == 1 && items.size == items.size) = true) := by
    intro q
    rw [Bool.and_eq_true, Bool.and_eq_true] at q
    exact absurd q.1.2 (by decide)
  show wpAny _ _ (if (((items.size : Int) - 1) == 0 && (-1 : Int) == 1 && items.size == items.size) = true then _ else _) _ _ s
  rw [if_neg hno, pick_rev]
  first
    | exact wpAny_bind (m := Builtin.Tuple.tupleExact _) (wpAny_newObj_type (wpAny_pure ⟨_, rfl, wpAny_pure h⟩) htake)
    | exact wpAny_bind (m := Builtin.Tuple.tupleExact _) (wpAny_newObj_type (wpAny_bind (wpAny_pure (wpAny_pure ⟨_, rfl, wpAny_pure h⟩))) htake)
    | exact wpAny_bind (wpAny_bind (m := Builtin.Tuple.tupleExact _) (wpAny_newObj_type (wpAny_pure (wpAny_pure ⟨_, rfl, wpAny_pure h⟩)) htake))
    | exact wpAny_bind (wpAny_bind (m := Builtin.Tuple.tupleExact _) (wpAny_newObj_type (wpAny_pure ⟨_, rfl, wpAny_pure h⟩) htake))
end
section
variable {X : Cx} {Sg : Type} {G : Gd Sg} {e : Expr} {pos : Pos}
/-- x[::-1] of a list or a tuple: new -/
def tRevA (K : PySem.W.Frag) (te : TE) : TE := fun σ H Q => te σ H fun x H1 => ∃ a xs, x = .ref a ∧ ((SqL K H1 a xs ∧ ∀ p, H1 p = none → Q (.ref p) (upd H1 p (.lst xs.reverse))) ∨ (SqT K H1 a xs ∧ ∀ p, H1 p = none → Q (.ref p) (upd H1 p (.tup xs.reverse))))
theorem pe_revA {te : TE} {k : Nat} {p1 p2 p3 pos : Pos} (he : PE X e te) : PE X (.Subscript e (.Slice none none (some (.UnaryOp .USub (.Constant (.int 1) k p1) p2)) p3) pos) (tRevA X.K te) := by
  refine ⟨fun pins s σ H Q I h => ?_⟩
  refine Subscript_ (thn (he.run pins s σ H _ I h) fun v s1 ⟨x, H1, I1, r1, q1⟩ => ?_)
  obtain ⟨a, xs, ex, q⟩ := q1
  subst ex
  cases r1
  have hst : PO X (some (.UnaryOp .USub (.Constant (.int 1) k p1) p2)) (tPart (tUn (rU fun i => .int (-i)) (tC (.int 1)))) := po_some (pe_un un_neg pe_int)
  refine wpAny_Slice (thn (po_none.run pins s1 σ H1 (fun o H2 => o = none ∧ H2 = H1) I1 ⟨rfl, rfl⟩) fun vl s2 ⟨l, H2, I2, pl, el, e2⟩ => ?_)
  subst el e2
  refine thn (po_none.run pins s2 σ H2 (fun o H3 => o = none ∧ H3 = H2) I2 ⟨rfl, rfl⟩) fun vu s3 ⟨u, H3, I3, pu, eu, e3⟩ => ?_
  subst eu e3
  refine thn (hst.run pins s3 σ H3 (fun o H4 => o = some (-1) ∧ H4 = H3) I3 ⟨1, rfl, -1, rfl, rfl, rfl⟩) fun vs s4 ⟨o, H4, I4, ps, eo, e4⟩ => ?_
  subst eo e4
  have I5 : Inv X pins σ H4 { s4 with heap := s4.heap.push { cls := .type "slice", data := .fields #[vl, vu, vs] } } := I4.kept (t' := s4.toks) fun b ob q => Heap.get?_push_of_some _ q
  show wpAny (model X.prog X.w) X.A (subscriptTail e (.Slice none none (some (.UnaryOp .USub (.Constant (.int 1) k p1) p2)) p3) (.ref a) (.ref s4.heap.objs.size)) (EP X pins σ Q) X.xe { s4 with heap := s4.heap.push { cls := .type "slice", data := .fields #[vl, vu, vs] } }
  rcases q with ⟨hx, q⟩ | ⟨hx, q⟩
  · obtain ⟨its, r, ht, hz⟩ := I5.list hx
    have hlen := r.length
    refine tail_any (ops := [.ref a, .ref s4.heap.objs.size]) ht.isList.typeIs (PySem.slot_list_getitem.lookup) ?_ (by with_unfolding_all rfl)
    refine wpAny_getItem_list_slice ht.isList (Heap.IsSliceOf.new _ vl vu vs) pl pu ps (by decide) ?_ (by rw [List.size_toArray]; omega)
    rw [PySem.W.krv_pick]
    refine ⟨.ref _, _, I5.laid (t' := s4.toks) (o := .lst xs.reverse) (fun b ob q => Heap.get?_push_of_some _ q) (Nat.le_refl _) ?_, rfl, q _ (I5.hok.fresh (Nat.le_refl _))⟩
    exact ⟨by rw [List.length_reverse]; exact hz, _, 0, r.reverse, Heap.get?_push_size _ rfl⟩
  · obtain ⟨its, r, ht, hz⟩ := I5.tuple hx
    have hlen := r.length
    refine tail_any (ops := [.ref a, .ref s4.heap.objs.size]) ht.typeIs (PyProof.Rows.slot_tuple_getitem.lookup) ?_ (by with_unfolding_all rfl)
    refine getItem_tuple_rev ht (Heap.IsSliceOf.new _ vl vu vs) pl pu ps ?_ (by rw [List.size_toArray]; omega)
    refine ⟨.ref _, _, I5.laid (t' := s4.toks) (o := .tup xs.reverse) (fun b ob q => Heap.get?_push_of_some _ q) (Nat.le_refl _) ?_, rfl, q _ (I5.hok.fresh (Nat.le_refl _))⟩
    exact ⟨by rw [List.length_reverse]; exact hz, _, r.reverse, IsTup.new _ _⟩
end
end Dv
end
section
set_option maxHeartbeats 4000000
/-! Dv21: x[::-1], join, repr of a truth, a text walked, {}, list(d.items()) -/
namespace Dv
open PySem PySem.Spec PyProof.Rows L2
variable {Sg : Type}
section
variable {X : Cx} {G : Gd Sg} {e a b c tg iter o : Expr} {pos : Pos}
def opRev : D → Option Rv
  | .lst l => some (.nw (.lst l.reverse))
  | .tup _ l => some (.im (.tup false l.reverse))
  | _ => none
theorem od_rev (hK : G.K = X.K) : Op1 G (fun x H1 Q => ∃ a xs, x = .ref a ∧ ((SqL X.K H1 a xs ∧ ∀ p, H1 p = none → Q (.ref p) (upd H1 p (.lst xs.reverse))) ∨ (SqT X.K H1 a xs ∧ ∀ p, H1 p = none → Q (.ref p) (upd H1 p (.tup xs.reverse))))) opRev := by
  intro x d H F S res Q g hx eq k
  cases d <;> try (cases eq; done)
  case lst l =>
    cases eq
    obtain ⟨a, vs, rfl, s, z, r⟩ := hx
    exact ⟨a, vs, rfl, .inl ⟨.inl (.inl s), fun p hp => k.lst g r.rev hp⟩⟩
  case tup cc l =>
    cases eq
    obtain ⟨a, vs, rfl, ⟨s, _⟩, z, r⟩ := hx
    exact ⟨a, vs, rfl, .inr ⟨hK ▸ s, fun p hp => k.tup g r.rev hp⟩⟩
theorem pd_rev {f : SE Sg} {k : Nat} {p1 p2 p3 : Pos} (hK : G.K = X.K) (he : PE X e (tE G f)) : PE X (.Subscript e (.Slice none none (some (.UnaryOp .USub (.Constant (.int 1) k p1) p2)) p3) pos) (tE G (eOp1 opRev f)) :=
  PE.mono' (pe_revA he) (op1_le (od_rev hK))
/-! ### sep.join(list of texts) -/
theorem od_join {x : V} {d d2 : D} {y : V} {H : Hp} {F : Addr → Prop} {S : Sg} {res : Rv} {Q : VK} (g : Gs G H F S) (hx : Rb G H F d x) (hy : Rb G H F d2 y) (eq : opJoin d d2 = some res) (k : KN G H F res Q) :
    ∃ a p, ∃ ys : List Str, x = .str a ∧ [y] = [.ref p] ∧ (SqL X.K H p (ys.map V.str) ∨ SqT X.K H p (ys.map V.str)) ∧ (ys.map (·.length)).sum + ys.length * a.length ≤ 16777216 ∧ Q (.str (Txt.join a ys)) H := by
  cases d <;> try (cases d2 <;> cases eq; done)
  case str x' =>
    cases d2 <;> try (cases eq; done)
    case lst l =>
      obtain ⟨xs, e1, e2⟩ := Option.bind_eq_some_iff.mp (show (strsD l).bind (fun xs => if (xs.map (·.length)).sum + xs.length * x'.length ≤ 16777216 then some (Rv.im (.str (Txt.join x' xs))) else none) = some res from eq)
      by_cases h : (xs.map (·.length)).sum + xs.length * x'.length ≤ 16777216
      · rw [if_pos h] at e2; cases e2
        cases hx
        obtain ⟨a, vs, rfl, s, z, r⟩ := hy
        have := r.strs' e1
        subst this
        exact ⟨x', a, xs, rfl, rfl, .inl (.inl (.inl s)), h, k.im rfl⟩
      · rw [if_neg h] at e2; cases e2
theorem pd_join {f g : SE Sg} {apos cpos : Pos} (ho : PE X o (tE G f)) (he : PE X e (tE G g)) (h1 : starEach [e] X.env = (false, eval e X.env) :: starEach [] X.env := by rfl)
    (hbase : attributeBase o "join" X.env (eval o X.env) = eval o X.env := by rfl)
    (hfew : ((backTo cpos (starEach [e] X.env)).all (fun x => !x.1) && (backToKw cpos (keywordEach [] X.env)).all (fun x => x.1.isSome)
      && decide ([e].length + ([] : List Keyword).length + (if ([] : List Keyword).isEmpty then 0 else 1) < 30)) = true := by rfl)
    (hline : (apos.endLine == cpos.line) = true := by rfl) (hplain : (backTo cpos (starEach [] X.env)).any (·.1) = false := by rfl) :
    PE X (.Call (.Attribute o "join" apos) [e] [] cpos) (tE G (eOp2 opJoin f g)) := by
  refine PE.mono' (pe_bm F.plainAttrs_str F.slot_str_join F.type_str_join mt_join ho (pa_cons he pa_nil h1) hbase hfew hline h1 hplain) ?_
  rintro σ H Q ⟨H0, F0, ρ, F, As, S, rr, ρ', S', R, e, k⟩
  obtain ⟨⟨r1, ρ1, S1⟩, e1, e⟩ := Option.bind_eq_some_iff.mp e
  obtain ⟨⟨r2, ρ2, S2⟩, e2, e⟩ := Option.bind_eq_some_iff.mp e
  obtain ⟨r3, e3, e⟩ := Option.bind_eq_some_iff.mp e
  cases e
  refine ⟨H0, F0, ρ, F, As, S, r1, ρ1, S1, R, e1, fun v1 H1 F1 A1 p1 R1 h1 => ⟨?_, ?_⟩⟩
  · have hb := h1.rb
    dsimp only at e3
    cases q : r1.d with
    | str x =>
      rw [q] at hb
      cases hb
      rfl
    | _ => rw [q] at e3; cases e3
  refine ⟨H0, F0, ρ1, F1, A1, S1, r2, ρ2, S2, R1, e2, fun v2 H2 F2 A2 p2 R2 h2 => ?_⟩
  exact od_join R2.gs (h1.rb.fr p2.fr p2.fF) h2.rb e3 (R2.kn fun v H' F' A' p R' h => k v H' F' A' ((p1.trans p2).trans p) R' (h.back (p1.trans p2)))
/-! ### repr, of a truth too -/
def opReprX : List D → Option Rv := fun ds => match ds with
  | [.bl b] => some (.im (.str (if b then "True" else "False")))
  | ds => opRepr ds
def rReprX (K : PySem.W.Frag) : List V → Hp → VK → Prop := fun xs H Q => (∃ b : Bool, xs = [.bl b] ∧ Q (.str (if b then "True" else "False")) H) ∨ rRepr K xs H Q
theorem call_reprX {n : Nat} (room : Room n X.A) (gu : X.A.guards = some []) : CallR X (.builtin "repr") (rReprX X.K) := by
  intro pins s σ H xs us Q I r h
  rcases h with ⟨b, rfl, q⟩ | h
  · cases r with
    | cons r1 r2 =>
      cases r2
      cases r1
      exact PySem.P.repr_of_bool ⟨.str _, H, I.tok _, ⟨_, rfl⟩, q⟩
  · exact call_reprD room gu pins s σ H xs us Q I r h
theorem od_reprX (hK : G.K = X.K) : OpN G (rReprX X.K) opReprX := by
  intro xs ds H F S res Q g hx eq k
  unfold opReprX at eq
  split at eq
  · rename_i b
    cases eq
    obtain ⟨v, rfl, hv⟩ := rbs_one hx
    cases hv
    exact .inl ⟨b, rfl, k.im rfl⟩
  · exact .inr (od_repr hK xs ds H F S res Q g hx eq k)
/-! ### a text walked -/
def signsD (x : Str) : List D := x.cps.toList.map fun c => .str ⟨#[c]⟩
def iStrD (f : SE Sg) : SA Sg := fun ρ S => (f ρ S).bind fun p => match p.1.d with
  | .str x => some (signsD x, p.2.1, p.2.2)
  | _ => none
theorem it_str {f : SE Sg} (he : PE X iter (tE G f)) : PI X tg iter (tIt G (iStrD f)) := by
  refine PI.mono' (pi_str he) ?_
  rintro σ H R ⟨H0, F0, ρ, F, As, S, l, ρ', S', Rl, e, k⟩
  obtain ⟨⟨r1, ρ1, S1⟩, e1, e⟩ := Option.bind_eq_some_iff.mp e
  refine ⟨H0, F0, ρ, F, As, S, r1, ρ1, S1, Rl, e1, fun v1 H1 F1 A1 p1 R1 h1 => ?_⟩
  have hb := h1.rb
  dsimp only at e
  cases q : r1.d with
  | str x =>
    rw [q] at e hb
    cases e
    cases hb
    refine ⟨x, rfl, k (Its x) _ H1 F1 A1 p1 R1 stb_true True.intro fun i H2 F2 S2 g2 _ => ⟨fun hl => ?_, fun d hd => ?_⟩⟩
    · have : (signsD x).length = x.cps.size := by simp [signsD]
      show x.cps.size ≤ i
      omega
    · unfold signsD at hd
      rw [List.getElem?_map] at hd
      obtain ⟨cc, hc, rfl⟩ := Option.map_eq_some_iff.mp hd
      have hc' : x.cps[i]? = some cc := by simpa using hc
      have hi : i < x.cps.size := by
        obtain ⟨h, _⟩ := Array.getElem?_eq_some_iff.mp hc'
        exact h
      refine ⟨hi, fun v H3 hy => ?_⟩
      obtain ⟨rfl, c2, h2, rfl⟩ := hy
      rw [hc'] at h2
      cases h2
      exact ⟨Ext.refl, rfl⟩
  | _ => rw [q] at e; cases e
/-! ### {} -/
def eDNew : SE Sg := fun ρ S => some (.nw (.dct [] []), ρ, S)
theorem pd_dnew : PE X (.Dict [] [] pos) (tE G eDNew) := by
  refine PE.mono' pe_dnewK ?_
  rintro σ H Q ⟨H0, F0, ρ, F, As, S, rr, ρ', S', R, e, k⟩
  cases e
  intro p hp
  have kk : KN G H F (.nw (.dct [] [])) Q := R.kn fun v H' F' A' p R' h => k v H' F' A' p R' h
  exact KN.dct (kvs := []) R.gs kk rfl rfl hp
end
end Dv
end
section
set_option maxHeartbeats 4000000
/-! Dv22: enumerate(tuple) -/
namespace Dv
open PySem PySem.Spec PyProof.Rows L2
open AutoSeq1 (wpAny_loadPart')
theorem meets_enumT (l : Addr) (items : Array Value) (n : Nat) (dct : Option Addr) (sl : Array (Option Value)) :
    Meets (Builtin.«enumerate.__new__» ⟨[.type "enumerate", .ref l], []⟩) (fun _ R s => s.heap.get? l = some { cls := .type "tuple", dict := dct, data := .seq items n, slots := sl } ∧
      R (.ok (.ret (.ref (s.heap.push { cls := .type "tuple_iterator", data := .fields #[.ref l, .int 0 0] }).objs.size)))
        { s with heap := (s.heap.push { cls := .type "tuple_iterator", data := .fields #[.ref l, .int 0 0] }).push { cls := .type "enumerate", data := .fields #[.none, .bool false, .ref s.heap.objs.size, rawInt 0, .none, .none] } }) :=
  .of_wp fun prog w A R s h => by
    obtain ⟨hp, g, d, tk, os⟩ := s; obtain ⟨hl, h⟩ := h
    have hsub := sub_enumerate
    have hL : Heap.IsTuple (Shared.heap ⟨hp, g, d, tk, os⟩) l items := ⟨_, hl, rfl, n, rfl⟩
    wp_walk using wpAny_loadPart' hl
    refine wpAny_stack_any fun st => wpAny_pure ?_
    split
    · rename_i c _ _ _ _ _
      cases (c == Value.type "enumerate")
      · wp_walk using wpAny_loadPart' hl, wpAny_pyIter_tuple hL
        exact ⟨_, rfl, h⟩
      · wp_walk using wpAny_loadPart' hl, wpAny_pyIter_tuple hL
        exact ⟨_, rfl, h⟩
    · wp_walk using wpAny_loadPart' hl, wpAny_pyIter_tuple hL
      exact ⟨_, rfl, h⟩
section
variable {prog : Program} {w : World} {A : Around} {E : Value → Shared → Prop} {s : Shared}
theorem call_enumerate_tuple {l : Addr} {items : Array Value} {Q : Value → Shared → Prop} (hL : s.heap.IsTuple l items)
    (h : ∀ h', IsEnum h' (s.heap.objs.size + 1) s.heap.objs.size 0 .none → h'.IsTupleIter s.heap.objs.size l 0 → h'.objs.size = s.heap.objs.size + 2 →
      (∀ b o, s.heap.get? b = some o → h'.get? b = some o) → Q (.ref (s.heap.objs.size + 1)) { s with heap := h' }) :
    wpAny (model prog w) A (call (.type "enumerate") [.ref l]) Q E s := by
  obtain ⟨⟨c, dct, dt, sl⟩, hl, hc, n, hd⟩ := hL
  replace hc : c = .type "tuple" := hc
  replace hd : dt = .seq items n := hd
  subst hc hd
  refine callType_new F.called_enumerate (by decide) (F.typeCall_enumerate_1 _) (F.newCall_enumerate_1 _) (fun obj => F.args_object_init_2 obj _) F.entry_enumerate_new
    (meets_enumT l items n dct sl) ⟨hl, ?_⟩
  have hz : (s.heap.push { cls := .type "tuple_iterator", data := .fields #[.ref l, .int 0 0] }).objs.size = s.heap.objs.size + 1 := Heap.size_push ..
  show _ ∧ _
  rw [hz]
  have he : IsEnum ((s.heap.push { cls := .type "tuple_iterator", data := .fields #[.ref l, .int 0 0] }).push
      { cls := .type "enumerate", data := .fields #[.none, .bool false, .ref s.heap.objs.size, rawInt 0, .none, .none] }) (s.heap.objs.size + 1) s.heap.objs.size 0 .none := by
    have := Heap.get?_push_size (s.heap.push { cls := .type "tuple_iterator", data := .fields #[.ref l, .int 0 0] })
      (o := { cls := .type "enumerate", data := .fields #[.none, .bool false, .ref s.heap.objs.size, rawInt 0, .none, .none] }) rfl
    rw [hz] at this; exact this
  refine ⟨⟨_, he, rfl⟩, h _ he ⟨_, Heap.get?_push_of_some _ (Heap.get?_push_size _ rfl), rfl, rfl⟩ (by rw [Heap.size_push, hz]) fun b o x => Heap.get?_push_of_some _ (Heap.get?_push_of_some _ x)⟩
end
/-- the tuple at a, each item in a new pair -/
def IteT (K : PySem.W.Frag) (a : Addr) : It :=
  ⟨fun i H => ∃ (xs : List V) (x : V), SqT K H a xs ∧ xs[i]? = some x, fun i H v H' => ∃ T x, v = .ref T ∧ H T = none ∧ H' = upd H T (.tup [.int (i : Nat), x]) ∧ ∀ xs, SqT K H a xs → xs[i]? = some x, fun i H => ∃ xs : List V, SqT K H a xs ∧ xs.length ≤ i⟩
theorem turn_enumT {P : Program} {w : World} {K : PySem.W.Frag} {elts : List Expr} {kk : Nat} {tpos : Pos} (a e it : Addr) (hai : a ≠ it) (hae : e ≠ a) :
    Turn P w K (.Tuple elts kk tpos) (IteT K a) [e, it] e (fun i h => (∃ old, IsEnum h e it ((i : Nat) : Int) old) ∧ h.IsTupleIter it a i ∧ e ≠ it) where
  mem := by simp
  obj := fun i h st b hb => by
    obtain ⟨⟨old, he⟩, ⟨o, ho, hc, hd⟩, _⟩ := st
    have e' : b = e ∨ b = it := by simpa using hb
    rcases e' with z | z
    · rw [z]; exact ⟨_, he, fun v q => nomatch q⟩
    · rw [z]; exact ⟨o, ho, fun v q => by rw [hd] at q; cases q⟩
  keep := fun i h h' st k => let ⟨⟨old, he⟩, hi, hne⟩ := st; ⟨⟨old, k e (by simp) _ he⟩, hi.at fun o q => k it (by simp) o q, hne⟩
  item := by
    intro X hP hw hK hc i pins s σ H E I hf st hg
    subst hP hw hK
    obtain ⟨⟨old, he⟩, hit, hne⟩ := st
    obtain ⟨xs, x, hq, hx⟩ := hg
    obtain ⟨its, rv, p, hz⟩ := I.tuple hq
    obtain ⟨u, hu, ru⟩ := rv.get hx
    have hel : e < s.heap.objs.size := Heap.lt_size he
    have hil : it < s.heap.objs.size := by obtain ⟨_, q, _⟩ := hit; exact Heap.lt_size q
    have hi : i < its.toArray.size := by
      rw [List.size_toArray]
      obtain ⟨h, _⟩ := List.getElem?_eq_some_iff.mp hu
      exact h
    have Dr := Draws.tuple (prog := X.prog) (w := X.w) (A := X.A.in1) (I.ok.hd hc) it a hai its.toArray
    refine wpAny_pyNext_enum_itemD Dr he ⟨hit, p⟩ hi hne (fun q => by
      rcases List.mem_cons.mp q with q | q
      · exact hne q
      · exact hae (List.mem_singleton.mp q)) fun y h' tk hy ho hst' hT hsz hk => ?_
    have ey : y = u := by
      have hy : its.toArray[i]? = some y := hy
      have : its[i]? = some y := by simpa using hy
      rw [hu] at this
      exact (Option.some.inj this).symm
    subst ey
    refine ⟨_, rfl, wpAny_letOwnedTupleGo_enum (s := { s with heap := h', toks := tk + 1 }) ho fun h'' he' sb => ?_⟩
    have hT2 : h''.get? s.heap.objs.size = some { cls := .type "tuple", data := .seq #[.int i tk, y] } := (sb.2 _ (Nat.ne_of_gt hel)).trans hT
    have new : ObjOk X.prog X.w (upd H s.heap.objs.size (.tup [.int (i : Nat), x])) h'' s.heap.objs.size (.tup [.int (i : Nat), x]) :=
      ⟨by show 2 ≤ sizeLine; decide, [.int i tk, y], .cons ⟨_, rfl⟩ (.cons ru .nil), ⟨_, hT2, rfl, _, rfl⟩⟩
    have I1 : Inv X pins σ (upd H s.heap.objs.size (.tup [.int (i : Nat), x])) { s with heap := h'', toks := tk + 1 } :=
      I.turnedNew (ch := [e, it]) (fun b ob hb q => (sb.2 b (fun z => hb (by simp [z]))).trans (hk b ob (fun z => hb (by simp [z])) (fun z => hb (by simp [z])) q)) hf (Nat.le_refl _) new
    refine ⟨.ref s.heap.objs.size, _, I1, rfl, ⟨_, x, rfl, I.hok.fresh (Nat.le_refl _), rfl, fun ys hy => by rw [I.tuple_inj hy hq]; exact hx⟩, ⟨⟨y, ?_⟩, hst'.1.at fun o q => (sb.2 it (Ne.symm hne)).trans q, hne⟩, fun b hb => ?_⟩
    · have e1 : ((i + 1 : Nat) : Int) = (i : Int) + 1 := by omega
      rw [e1]; exact he'
    · have hb' : b < s.heap.objs.size := by
        have e' : b = e ∨ b = it := by simpa using hb
        rcases e' with z | z
        · rw [z]; exact hel
        · rw [z]; exact hil
      rw [upd_ne (Nat.ne_of_lt hb')]
      exact (hf b hb).1
  done := by
    intro X hP hw hK hc i pins s σ H E I hf st hg
    subst hP hw hK
    obtain ⟨⟨old, he⟩, hit, hne⟩ := st
    obtain ⟨xs, hq, hx⟩ := hg
    obtain ⟨its, rv, p, hz⟩ := I.tuple hq
    obtain ⟨f0, f1, f2, f3, f4, f5⟩ := hf it (by simp)
    have hl := rv.length
    have hT : s.TypeIs (.ref e) "enumerate" := ⟨_, he, rfl⟩
    unfold pyNext
    refine wpAny_bind (wpAny_attempt (wpAny_callSpecial?_slot (name := Str.ofString "__next__") hT F.slot_enumerate_next
      (wpAny_call_entry F.slot_enumerate_next hT F.entry_enumerate_next ?_ (F.args_enumerate_next_1 _))))
    show wpAny _ _ (field (.ref e) 2 >>= _) _ _ _
    refine wpAny_bind (wpAny_field he rfl (x := .ref it) rfl ?_)
    refine wpAny_bind (wpAny_nextOf_tuple_end (I.ok.hd hc) hit p (by simp; omega) fun h' x he' hx' => ?_)
    obtain ⟨o, ho, hc⟩ := hx'
    refine wpAny_bind (wpAny_isInstance (T := "StopIteration") (b := true) ⟨o, ho, hc⟩ isSubtype_stop ?_)
    exact wpAny_pure ⟨rfl, I.turned (t' := s.toks) (fun b o hb q => he' b o hb q) f0 f1 f3 f4 f5⟩
  self := fun A i s Q E st h => let ⟨⟨_, he⟩, _⟩ := st; wpAny_pyIter_enum he h
def iEnumT' (K : PySem.W.Frag) (ta : TA) : TI := fun σ H R => ta σ H fun vs H1 => ∃ a xs, vs = [.ref a] ∧ SqT K H1 a xs ∧ R (IteT K a) H1
theorem pi_enumT {X : Cx} {e : Expr} {ta : TA} {p pos tpos : Pos} {elts : List Expr} {kk : Nat} (hg : Gl X "enumerate") (hm : X.mg "enumerate" = none) (ha : PA X [e] ta) (hs : starEach [e] X.env = [(false, eval e X.env)] := by rfl) :
    PI X (.Tuple elts kk tpos) (.Call (.Name "enumerate" p) [e] [] pos) (iEnumT' X.K ta) := by
  refine ⟨fun pins s σ H R I h => ?_⟩
  refine Call_ (ld_blt I hg hm boot_enumerate (PyProof.Rows.callWith_type1 (thn (ha.run pos pins s σ H _ I h) fun us s1 ⟨vs, H1, I1, r1, q1⟩ => ?_) hs rfl))
  obtain ⟨a, xs, ex, hq, q⟩ := q1
  subst ex
  cases r1 with
  | cons r rr =>
    cases rr
    cases r
    obtain ⟨its, rv, p', hz⟩ := I1.tuple hq
    have hal : a < s1.heap.objs.size := by obtain ⟨_, q, _⟩ := p'; exact Heap.lt_size q
    refine call_enumerate_tuple p' fun h' he hit hsz hk => wpAny_pyIter_enum he ?_
    have I2 : Inv X pins σ H1 { s1 with heap := h' } := I1.kept (t' := s1.toks) hk
    refine ⟨s1.heap.objs.size + 1, [s1.heap.objs.size + 1, s1.heap.objs.size], _, _, H1, rfl, I2, turn_enumT a (s1.heap.objs.size + 1) s1.heap.objs.size (Nat.ne_of_lt hal) (Nat.ne_of_gt (Nat.lt_succ_of_lt hal)), ⟨⟨.none, he⟩, hit, Nat.succ_ne_self _⟩, fun b hb => ?_, q⟩
    have e' : b = s1.heap.objs.size + 1 ∨ b = s1.heap.objs.size := by simpa using hb
    have hle : s1.heap.objs.size ≤ b := by
      rcases e' with z | z
      · rw [z]; exact Nat.le_add_right _ _
      · rw [z]; exact Nat.le_refl _
    exact I1.fpOk hle (I1.hok.fresh hle)
end Dv
end
section
set_option maxHeartbeats 4000000
/-! Dv23: for a, b in zip(t, u, strict=False), two tuples -/
namespace Zq
open PySem
theorem zip_madeK (t1 t2 : Bool) (l1 l2 : Addr) (xs ys : Array Value) :
    Meets (Builtin.«zip.__new__» ⟨[.type "zip", .ref l1, .ref l2], [(Str.ofString "strict", .bool false)]⟩) (fun _ R s => Sq t1 s.heap l1 xs ∧ Sq t2 s.heap l2 ys ∧ R (.ok (.ret (.ref (zH4 t1 t2 s.heap l1 l2).objs.size))) { s with heap := zH5 false t1 t2 s.heap l1 l2 }) :=
  .of_wp fun prog w A R s h => by
    obtain ⟨hp, g, d, tk, os⟩ := s
    obtain ⟨n1, n2, h⟩ := h
    have hsub := sub_zip
    have N1 : Sq t1 (Shared.heap ⟨hp, g, d, tk, os⟩) l1 xs := n1
    have N2 : Sq t2 (Shared.heap ⟨hp.push (itO t1 l1), g, d, tk, os⟩) l2 ys := n2.at fun o e => Heap.get?_push_of_some _ e
    wp_walk using it_new N1, it_new N2
    exact ⟨_, rfl, h⟩
theorem typeCall_zipK (a b c : Value) : checkTypeCall "zip" ⟨[a, b], [(Str.ofString "strict", c)]⟩ = pure () := by kernel_rfl
theorem newCall_zipK (a b c : Value) : checkBuiltinCall "zip.__new__" ⟨[.type "zip", a, b], [(Str.ofString "strict", c)]⟩ = pure () := by kernel_rfl
theorem args_initK (obj a b c : Value) : argsOk "object.__init__" ⟨[obj, a, b], [(Str.ofString "strict", c)]⟩ := by unfold argsOk; kernel_rfl
section
variable {prog : Program} {w : World} {A : Around} {E : Value → Shared → Prop} {s : Shared}
theorem call_zipK {t1 t2 : Bool} {l1 l2 : Addr} {xs ys : Array Value} {Q : Value → Shared → Prop} (n1 : Sq t1 s.heap l1 xs) (n2 : Sq t2 s.heap l2 ys)
    (k : ∀ h', Zo false h' (s.heap.objs.size + 4) (s.heap.objs.size + 2) (s.heap.objs.size + 3) .none false → IsPair h' (s.heap.objs.size + 2) (.ref s.heap.objs.size) (.ref (s.heap.objs.size + 1)) → IsPair h' (s.heap.objs.size + 3) .none .none →
      Im t1 h' s.heap.objs.size l1 0 → Im t2 h' (s.heap.objs.size + 1) l2 0 → (∀ c o, s.heap.get? c = some o → h'.get? c = some o) → Q (.ref (s.heap.objs.size + 4)) { s with heap := h' }) :
    wpAny (model prog w) A (call (.type "zip") [.ref l1, .ref l2] [(Str.ofString "strict", .bool false)]) Q E s := by
  refine callType_newKw F.called_zip (by decide) (typeCall_zipK _ _ _) (newCall_zipK _ _ _) (fun obj => args_initK obj _ _ _) F.entry_zip_new (zip_madeK t1 t2 l1 l2 xs ys) ⟨n1, n2, ?_⟩
  obtain ⟨a1, a2, a3, a4, a5, a6, a7⟩ := made_zip (q := false) (t1 := t1) (t2 := t2) (h := s.heap) (l1 := l1) (l2 := l2)
  show _ ∧ _
  rw [a6]
  exact ⟨⟨_, a1, rfl⟩, k _ a1 a2 a3 a4 a5 a7⟩
end
end Zq
namespace Dv
open PySem PySem.Spec PyProof.Rows L2
theorem callWith_typeKw {M : Model} {A : Around} {E : Value → Shared → Prop} {s : Shared} {pos : Pos} {T : String} {args : List (Bool × Sem Value)} {keywords : List (Option Str × Sem Value)} {Q : Value → Shared → Prop}
    (hplain : args.any (·.1) = false) (hkw : keywords.any (·.1.isNone) = false)
    (h : wpAny M A (evalArgs (.type T) true args keywords) (fun a s₁ => wpAny M A (call (.type T) ([] ++ a.pos) a.kw) Q E s₁) E s) :
    wpAny M A (callWith pos (.type T) [] args keywords) Q E s := by
  unfold callWith
  refine wpAny_bind (wpAny_holding (wpAny_mono h (fun a s₁ h₁ => wpAny_bind (wpAny_standAt ?_)) fun _ _ x => x))
  simp only [hplain, hkw, Bool.or_false]
  refine wpAny_bind (wpAny_pure ?_)
  exact wpAny_bind (wpAny_mono h₁ (fun r s₂ hr => wpAny_bind (wpAny_holding (wpAny_point (wpAny_pure hr)))) fun _ _ x => x)
section
variable {X : Cx} {e e2 : Expr} {ta : TA} {p pos tpos : Pos} {elts : List Expr} {kk : Nat}
def iZipT (K : PySem.W.Frag) (ta : TA) : TI := fun σ H R => ta σ H fun vs H1 => ∃ a b xs ys, vs = [.ref a, .ref b] ∧ SqT K H1 a xs ∧ SqT K H1 b ys ∧ R (RZ.ItzT K a b) H1
theorem pi_zipK {kpos cpos : Pos} {kws : List Keyword} (hg : Gl X "zip") (hm : X.mg "zip" = none) (ha : PA X [e, e2] ta) (hk : PK X kws (tCons (tC (.bl false)) tNil))
    (he : backTo pos (starEach [e, e2] X.env) = (false, eval e X.env) :: backTo pos (starEach [e2] X.env) := by rfl)
    (hpl : (backTo pos (starEach [e, e2] X.env)).any (·.1) = false := by rfl)
    (hall : (backToKw pos (keywordEach kws X.env)).all (·.1.isSome) = true := by rfl) (hnone : (backToKw pos (keywordEach kws X.env)).any (·.1.isNone) = false := by rfl)
    (hks : (backToKw pos (keywordEach kws X.env)).filterMap (·.1) = [Str.ofString "strict"] := by rfl) :
    PI X (.Tuple elts kk tpos) (.Call (.Name "zip" p) [e, e2] kws pos) (iZipT X.K ta) := by
  refine ⟨fun pins s σ H R I h => ?_⟩
  refine wpAny_Call_Name_kw (ld_blt I hg hm PyProof.Rows.boot_zip ?_)
  refine callWith_typeKw hpl hnone ?_
  rw [he]
  refine PyProof.Rows.evalArgs_kwB hall ?_
  rw [← he]
  refine thn (ha.run pos pins s σ H _ I h) fun us s1 ⟨vs, H1, I1, r1, q1⟩ => ?_
  obtain ⟨a, b, xs, ys, ex, hqx, hqy, q⟩ := q1
  subst ex
  refine thn (hk.run pos pins s1 σ H1 (fun zs H2 => zs = [.bl false] ∧ H2 = H1) I1 ⟨rfl, rfl⟩) fun ws s2 ⟨zs, H2, I2, r2, ez, eH⟩ => ?_
  subst ez eH
  rw [hks]
  cases r1 with
  | cons r rr =>
    cases rr with
    | cons r' rr =>
      cases rr
      cases r
      cases r'
      cases r2 with
      | cons z1 z2 =>
        cases z2
        cases z1
        have fresh5 : ∀ c, c ∈ [s2.heap.objs.size + 4, s2.heap.objs.size + 2, s2.heap.objs.size + 3, s2.heap.objs.size, s2.heap.objs.size + 1] → FpOk X pins H2 c := fun c hcm => by
          have e' : c = s2.heap.objs.size + 4 ∨ c = s2.heap.objs.size + 2 ∨ c = s2.heap.objs.size + 3 ∨ c = s2.heap.objs.size ∨ c = s2.heap.objs.size + 1 := by simpa using hcm
          have hle : s2.heap.objs.size ≤ c := by
            rcases e' with z | z | z | z | z
            · rw [z]; exact Nat.le_add_right _ _
            · rw [z]; exact Nat.le_add_right _ _
            · rw [z]; exact Nat.le_add_right _ _
            · rw [z]; exact Nat.le_refl _
            · rw [z]; exact Nat.le_add_right _ _
          exact I2.fpOk hle (I2.hok.fresh hle)
        obtain ⟨its, rv, p1, _⟩ := I2.tuple hqx
        obtain ⟨its2, rv2, p2, _⟩ := I2.tuple hqy
        obtain ⟨o1, ho1, _⟩ := id p1
        obtain ⟨o2, ho2, _⟩ := id p2
        refine Zq.call_zipK (t1 := true) (t2 := true) (xs := its.toArray) (ys := its2.toArray) p1 p2 fun h' hz hTI hTO h1 h2 hk => wpAny_pyIter_zip hz ?_
        have I3 : Inv X pins σ H2 { s2 with heap := h' } := I2.kept (t' := s2.toks) hk
        exact ⟨s2.heap.objs.size + 4, [s2.heap.objs.size + 4, s2.heap.objs.size + 2, s2.heap.objs.size + 3, s2.heap.objs.size, s2.heap.objs.size + 1], _, _, H2, rfl, I3, RZ.turn_zipT (PySem.W.ktu_apart s2.heap.objs.size a b (Heap.lt_size ho1) (Heap.lt_size ho2)), ⟨hz, hTI, ⟨_, _, hTO⟩, h1, h2⟩, fresh5, q⟩
end
end Dv
end
section
set_option maxHeartbeats 4000000
/-! Dv24: data over enumerate(tuple), zip(.., strict=False); tuple * int; x != () -/
namespace Dv
open PySem PySem.Spec PyProof.Rows L2
open AutoSeq1 (wpAny_loadPart')
variable {Sg : Type}
section
variable {X : Cx} {G : Gd Sg} {e e2 a b c tg iter o : Expr} {pos : Pos}
def iEnumTD (f : SA Sg) : SA Sg := fun ρ S => (f ρ S).bind fun p => match p.1 with
  | [.tup _ l] => some (enumD 0 l, p.2.1, p.2.2)
  | _ => none
theorem it_enumT {p tpos : Pos} {elts : List Expr} {kk : Nat} {f : SA Sg} (hK : G.K = X.K) (hg : Gl X "enumerate") (hm : X.mg "enumerate" = none) (ha : PA X [e] (tAF G f)) (hs : starEach [e] X.env = [(false, eval e X.env)] := by rfl) :
    PI X (.Tuple elts kk tpos) (.Call (.Name "enumerate" p) [e] [] pos) (tIt G (iEnumTD f)) := by
  refine PI.mono' (pi_enumT hg hm ha hs) ?_
  rintro σ H R ⟨H0, F0, ρ, F, As, S, l, ρ', S', Rl, e, k⟩
  obtain ⟨⟨ds, ρ1, S1⟩, e1, e⟩ := Option.bind_eq_some_iff.mp e
  refine ⟨H0, F0, ρ, F, As, S, ds, ρ1, S1, Rl, e1, fun vs H1 F1 A1 p1 R1 h1 => ?_⟩
  match ds, e, h1 with
  | [.tup cc m], e, h1 =>
    cases e
    have h1' := h1
    obtain ⟨v, r, rfl, ⟨a, ws, rfl, ⟨s, _⟩, z, rw⟩, rfl⟩ := h1'
    refine ⟨a, ws, rfl, hK ▸ s, k (IteT X.K a) _ H1 F1 A1 p1 R1 (stb_rps (ds := [.tup cc m]) (vs := [.ref a])) h1 fun i H2 F2 S2 g2 hs => ?_⟩
    obtain ⟨v2, r2, e2, ⟨a2, vs2, e3, ⟨s2, _⟩, z2, rr⟩, _⟩ := hs
    cases e2
    cases e3
    have s2' : SqT X.K H2 a vs2 := hK ▸ s2
    refine ⟨fun hl => ⟨vs2, s2', by rw [rr.length, ← enumD_length m 0]; exact hl⟩, fun d hd => ?_⟩
    obtain ⟨x, g1, rfl⟩ := enumD_get hd
    obtain ⟨v, ev, hv⟩ := rr.get g1
    refine ⟨⟨vs2, v, s2', ev⟩, fun y H3 hy => ?_⟩
    obtain ⟨T, x', rfl, hT, rfl, hy⟩ := hy
    have := hy vs2 s2'
    rw [ev] at this; cases this
    refine ⟨Ext.upd hT, T, _, rfl, .no upd_same, (g2.fresh hT).2, ?_⟩
    rw [Nat.zero_add]
    exact ⟨_, _, rfl, rfl, v, _, rfl, hv.fr (Fr.upd hT) fun _ q => q, rfl⟩
def iZipTD (f : SA Sg) : SA Sg := fun ρ S => (f ρ S).bind fun p => match p.1 with
  | [.tup _ l, .tup _ m] => some (zipD l m, p.2.1, p.2.2)
  | _ => none
theorem it_zipK {p tpos : Pos} {elts : List Expr} {kk : Nat} {f : SA Sg} {kws : List Keyword} (hK : G.K = X.K) (hg : Gl X "zip") (hm : X.mg "zip" = none) (ha : PA X [e, e2] (tAF G f)) (hk : PK X kws (tCons (tC (.bl false)) tNil))
    (he : backTo pos (starEach [e, e2] X.env) = (false, eval e X.env) :: backTo pos (starEach [e2] X.env) := by rfl)
    (hpl : (backTo pos (starEach [e, e2] X.env)).any (·.1) = false := by rfl)
    (hall : (backToKw pos (keywordEach kws X.env)).all (·.1.isSome) = true := by rfl) (hnone : (backToKw pos (keywordEach kws X.env)).any (·.1.isNone) = false := by rfl)
    (hks : (backToKw pos (keywordEach kws X.env)).filterMap (·.1) = [Str.ofString "strict"] := by rfl) :
    PI X (.Tuple elts kk tpos) (.Call (.Name "zip" p) [e, e2] kws pos) (tIt G (iZipTD f)) := by
  refine PI.mono' (pi_zipK (kpos := pos) (cpos := pos) hg hm ha hk he hpl hall hnone hks) ?_
  rintro σ H R ⟨H0, F0, ρ, F, As, S, l, ρ', S', Rl, e, k⟩
  obtain ⟨⟨ds, ρ1, S1⟩, e1, e⟩ := Option.bind_eq_some_iff.mp e
  refine ⟨H0, F0, ρ, F, As, S, ds, ρ1, S1, Rl, e1, fun vs H1 F1 A1 p1 R1 h1 => ?_⟩
  match ds, e, h1 with
  | [.tup cc m, .tup c2 m2], e, h1 =>
    cases e
    have h1' := h1
    obtain ⟨v, r, rfl, ⟨a, ws, rfl, ⟨s, _⟩, z, rw⟩, v', r', rfl, ⟨b, ws', rfl, ⟨s', _⟩, z', rw'⟩, rfl⟩ := h1'
    refine ⟨a, b, ws, ws', rfl, hK ▸ s, hK ▸ s', k (RZ.ItzT X.K a b) _ H1 F1 A1 p1 R1 (stb_rps (ds := [.tup cc m, .tup c2 m2]) (vs := [.ref a, .ref b])) h1 fun i H2 F2 S2 g2 hs => ?_⟩
    obtain ⟨v2, r2, e2, ⟨a2, vs2, e3, ⟨s2, _⟩, z2, rr⟩, v3, r3, e4, ⟨a3, vs3, e5, ⟨s3, _⟩, z3, rr3⟩, _⟩ := hs
    cases e2
    cases e3
    cases e4
    cases e5
    have s2' : SqT X.K H2 a vs2 := hK ▸ s2
    have s3' : SqT X.K H2 b vs3 := hK ▸ s3
    have l1 := rr.length
    have l2 := rr3.length
    refine ⟨fun hl => ⟨vs2, vs3, s2', s3', by rw [zipD_length] at hl; omega⟩, fun d hd => ?_⟩
    obtain ⟨x, y, g1, g3, rfl⟩ := zipD_get hd
    obtain ⟨v, ev, hv⟩ := rr.get g1
    obtain ⟨v', ev', hv'⟩ := rr3.get g3
    refine ⟨⟨vs2, vs3, v, v', s2', s3', ev, ev'⟩, fun y H3 hy => ?_⟩
    obtain ⟨T, x', y', rfl, hT, rfl, hx, hy⟩ := hy
    have := hx vs2 s2'
    rw [ev] at this; cases this
    have := hy vs3 s3'
    rw [ev'] at this; cases this
    exact ⟨Ext.upd hT, T, _, rfl, .no upd_same, (g2.fresh hT).2, _, _, rfl, hv.fr (Fr.upd hT) fun _ q => q, _, _, rfl, hv'.fr (Fr.upd hT) fun _ q => q, rfl⟩
/-! ### t * k -/
theorem tuple_mulE (l : Addr) (n : Nat) (dd : Option Addr) (sl : Array (Option Value)) (x : Int) (u : Tok) (c0 : (decide (x < -(2 ^ 63)) || decide (x ≥ 2 ^ 63)) = false) :
    Meets (Builtin.«tuple.__mul__» ⟨[.ref l, .int x u], []⟩) (fun _ R s => s.heap.get? l = some { cls := .type "tuple", dict := dd, data := .seq #[] n, slots := sl } ∧
      R (.ok (.ret (Value.ref l))) s) :=
  .of_wp fun prog w A R s h => by
    obtain ⟨hp, g, d, tk, os⟩ := s
    obtain ⟨hl, h⟩ := h
    have f1 := AutoSeq1.idx_int
    wp_walk using wpAny_loadPart' hl
    repeat (first
      | (refine wpAny_ite_false (decide_eq_false (by rw [c0]; exact Bool.false_ne_true)) ?_; wp_walk using wpAny_loadPart' hl))
    exact ⟨_, rfl, h⟩
def rRepE (K : PySem.W.Frag) : R2 := fun x y H Q => ∃ l k, x = .ref l ∧ y = .int k ∧ SqT K H l [] ∧ 2 ≤ k ∧ k ≤ 1000 ∧ Q (.ref l) H
theorem op_repE : OpR X (binaryOp .Mult) (rRepE X.K) := by
  intro pins s σ H x y v u Q I rx ry h
  obtain ⟨l, k, rfl, rfl, hT, h1, h2, q⟩ := h
  cases rx
  obtain ⟨t, rfl⟩ := ry
  obtain ⟨its, r, ⟨⟨cls, dd, data, sl⟩, ho, hc, n, hd⟩, hs⟩ := I.tuple hT
  simp only at hc hd
  subst hc hd
  have he : its = [] := List.eq_nil_of_length_eq_zero r.length.symm
  subst he
  have c0 : (decide (k < -(2 ^ 63)) || decide (k ≥ 2 ^ 63)) = false := by
    rw [decide_eq_false (by omega), decide_eq_false (by omega)] <;> rfl
  refine wpAny_binaryOp_repeat_ref (T := "tuple") (U := "int") (by decide) ⟨_, ho, rfl⟩ (fun s' => typeIs_int s' k t) noFill_tuple_mul F.fills_int_mul F.slot_int_rmul repeat_tuple F.slot_int_index.lookup
    (call_meets F.slot_int_rmul (typeIs_int s k t) F.entry_int_rmul (F.args_int_rmul_2 _ _) (int_rmul_tuple k t l #[] n dd sl)
      ⟨ho, rfl, ⟨_, ho, rfl⟩, call_meets F.slot_tuple_mul ⟨_, ho, rfl⟩ F.entry_tuple_mul (F.args_tuple_mul_2 _ _) (tuple_mulE l n dd sl k t c0) ⟨ho, ?_⟩⟩)
  exact ⟨.ref l, H, I, rfl, q⟩
def opMulX : D → D → Option Rv := fun d e => match d, e with
  | .tup c l, .int k => if 2 ≤ k ∧ k ≤ 1000 ∧ l.length ≤ 1000 then some (.im (if l.isEmpty then .tup c [] else .tup false (List.replicate k.toNat l).flatten)) else none
  | d, e => opMul d e
theorem op_mulX : OpR X (binaryOp .Mult) (fun x y H Q => (rI CMul (fun i j => .int (i * j)) x y H Q ∨ rRep x y H Q) ∨ rRepT X.K x y H Q ∨ rRepE X.K x y H Q) := op_mulD.or (op_repT.or op_repE)
theorem od_mulX (hK : G.K = X.K) : Op2 G (fun x y H Q => (rI CMul (fun i j => .int (i * j)) x y H Q ∨ rRep x y H Q) ∨ rRepT X.K x y H Q ∨ rRepE X.K x y H Q) opMulX := by
  intro x y d e H F S res Q g hx hy eq k
  unfold opMulX at eq
  split at eq
  · rename_i cc l kk
    by_cases hc : 2 ≤ kk ∧ kk ≤ 1000 ∧ l.length ≤ 1000
    · rw [if_pos hc] at eq; cases eq; cases hy
      have hx0 : Rp G H F (.tup cc l) x := hx
      obtain ⟨a, vs, rfl, ⟨s, _⟩, z, r⟩ := hx
      cases l with
      | nil =>
        have : vs = [] := r
        subst this
        exact .inr (.inr ⟨a, kk, rfl, rfl, hK ▸ s, hc.1, hc.2.1, k.im hx0⟩)
      | cons d l =>
        refine .inr (.inl ⟨a, kk, vs, rfl, rfl, hK ▸ s, ?_, hc.1, hc.2.1, by rw [r.length]; exact hc.2.2, fun p hp => k.tup g (r.rep _) hp⟩)
        rintro rfl
        obtain ⟨_, _, h, _⟩ := r
        cases h
    · rw [if_neg hc] at eq; cases eq
  · exact .inl (od_mul x y d e H F S res Q g hx hy eq k)
/-! ### t != () -/
def opNeNil : D → D → Option Rv
  | .tup _ l, .tup _ [] => some (.im (.bl (!l.isEmpty)))
  | _, _ => none
theorem op_neNil (hu : X.A.units + 64 < cLine) : OpR X (compareOp .NotEq) (fun x y H Q => ∃ a b xs, x = .ref a ∧ y = .ref b ∧ SqT X.K H a xs ∧ SqT X.K H b [] ∧ Q (.bl (!xs.isEmpty)) H) := by
  intro pins s σ H x y v u Q I rx ry h
  obtain ⟨a, b, xs, rfl, rfl, h1, h2, q⟩ := h
  cases rx
  cases ry
  obtain ⟨its, r1, p1, _⟩ := I.tuple h1
  obtain ⟨its2, r2, p2, _⟩ := I.tuple h2
  have l1 := r1.length
  have e2 : its2 = [] := List.eq_nil_of_length_eq_zero r2.length.symm
  subst e2
  refine SeqAt.RcNeAt.tuples (e := fun _ => true) (show s.heap.IsTuple a its.toArray from p1) (show s.heap.IsTuple b #[] from p2) (by omega) (fun j h1 h2 => absurd h2 (Nat.not_lt_zero _)) X.prog X.w X.xe _ ⟨.bl _, H, I, rfl, ?_⟩
  have e : (!((List.range (min its.toArray.size (#[] : Array Value).size)).all (fun _ => true) && its.toArray.size == (#[] : Array Value).size)) = !xs.isEmpty := by
    cases xs with
    | nil =>
      have : its = [] := List.eq_nil_of_length_eq_zero l1.symm
      subst this
      rfl
    | cons z zs =>
      cases its with
      | nil => cases l1
      | cons _ _ => simp
  rw [e]
  exact q
theorem od_neNil (hK : G.K = X.K) : Op2 G (fun x y H Q => ∃ a b xs, x = .ref a ∧ y = .ref b ∧ SqT X.K H a xs ∧ SqT X.K H b [] ∧ Q (.bl (!xs.isEmpty)) H) opNeNil := by
  intro x y d e H F S res Q g hx hy eq k
  cases d <;> try (cases eq; done)
  case tup cc l =>
    cases e <;> try (cases eq; done)
    case tup c2 m =>
      cases m with
      | cons _ _ => cases eq
      | nil =>
        cases eq
        obtain ⟨a, vs, rfl, ⟨s, _⟩, z, r⟩ := hx
        obtain ⟨b, vs2, rfl, ⟨s2, _⟩, z2, r2⟩ := hy
        have : vs2 = [] := r2
        subst this
        refine ⟨a, b, vs, rfl, rfl, hK ▸ s, hK ▸ s2, ?_⟩
        have := k.im (v := .bl (!l.isEmpty)) rfl
        have e : vs.isEmpty = l.isEmpty := by
          have := r.length
          cases vs <;> cases l <;> first | rfl | (cases this)
        rw [e]
        exact this
/-! ### list(x.items()), x a slot's own dict -/
def kD : Key → D
  | .inl i => .int i
  | .inr x => .str x
def itemsD (ks : List Key) (l : List D) : List D := zipD (ks.map kD) l
def eItems (i : Nat) : SE Sg := fun ρ S => match ρ[i]? with
  | some (.ow (.dct ks l)) => if ks.length = l.length then some (.nw (.lst (itemsD ks l)), ρ, S) else none
  | _ => none
theorem items_rps {H H' : Hp} {F : Addr → Prop} {S : Sg} (g : Gs G H F S) (x : Ext H H') : ∀ {ts : List Addr} {kvs : List (Key × V)} {ks : List Key} {l : List D}, (∀ t ∈ ts, H t = none) → Paired (fun (t : Addr) (q : Key × V) => H' t = some (.tup [kV q.1, q.2])) ts kvs → kvs.map (·.1) = ks → Rps G H F l (kvs.map (·.2)) → Rps G H' F (itemsD ks l) (ts.map V.ref)
  | [], [], ks, l, _, _, h1, h2 => by
    subst h1
    have : l = [] := by
      cases l with
      | nil => rfl
      | cons d l => obtain ⟨_, _, h, _⟩ := h2; cases h
    subst this
    exact rfl
  | [], _ :: _, _, _, _, hp, _, _ => by cases hp
  | _ :: _, [], _, _, _, hp, _, _ => by cases hp
  | t :: ts, q :: kvs, ks, l, hn, hp, h1, h2 => by
    obtain ⟨hc, hr⟩ : H' t = some (.tup [kV q.1, q.2]) ∧ Paired (fun (t : Addr) (q : Key × V) => H' t = some (.tup [kV q.1, q.2])) ts kvs := by cases hp with | cons a b => exact ⟨a, b⟩
    cases l with
    | nil => cases h2
    | cons d l =>
      obtain ⟨v, r, e, hd, hl⟩ := h2
      rw [List.map_cons] at e
      injection e with e1 e2
      subst e1 e2
      subst h1
      have ih := items_rps g x (fun t ht => hn t (List.mem_cons_of_mem _ ht)) hr rfl hl
      have fr : Fr G.Z H H' := fun a o e _ => x a o e
      have kk : Rp G H' F (kD q.1) (kV q.1) := by cases q.1 <;> rfl
      exact ⟨.ref t, _, rfl, ⟨t, [kV q.1, q.2], rfl, .no hc, (g.fresh (hn t List.mem_cons_self)).2, ⟨_, _, rfl, kk, _, _, rfl, hd.fr fr fun _ q => q, rfl⟩⟩, ih⟩
theorem pd_items {i : Nat} {x : Str} {p npos apos cpos : Pos} (hcalm : X.calm = true) (hN : X.N[i]? = some x) (hv : Vis X.env.scope x) (hg : Gl X "list") (hm : X.mg "list" = none) (hbo : bootBuiltins "list" = some (.type "list") := by rfl)
    (hd : (x == ("__debug__" : Str)) = false := by decide) (hcd : (x == ("__classdict__" : Str)) = false := by decide)
    (hbase : attributeBase (.Name x npos) "items" X.env (eval (.Name x npos) X.env) = eval (.Name x npos) X.env := by rfl) (hline : (apos.endLine == cpos.line) = true := by rfl)
    (hs : starEach [.Call (.Attribute (.Name x npos) "items" apos) [] [] cpos] X.env = (false, eval (.Call (.Attribute (.Name x npos) "items" apos) [] [] cpos) X.env) :: starEach [] X.env := by rfl) :
    PE X (.Call (.Name "list" p) [.Call (.Attribute (.Name x npos) "items" apos) [] [] cpos] [] pos) (tE G (eItems i)) := by
  refine PE.mono' (LiI.pe_listItems hcalm (pe_var hN hv hd hcd) hg hm hbo hbase hline hs) ?_
  rintro σ H Q ⟨H0, F0, ρ, F, As, S, r, ρ', S', R, e, k⟩
  unfold eItems at e
  cases q : ρ[i]? with
  | none => rw [q] at e; cases e
  | some sl =>
    rw [q] at e
    cases sl with
    | non => cases e
    | im d => cases e
    | ow d =>
      cases d with
      | dct ks l =>
        have e : (if ks.length = l.length then some (Rv.nw (D.lst (itemsD ks l)), ρ, S) else none) = some (r, ρ', S') := e
        by_cases hl : ks.length = l.length
        · rw [if_pos hl] at e
          cases e
          obtain ⟨w, e2, p, ea, e3, kvs, hp, h1, h2⟩ := R.slot i _ q
          subst e3
          refine ⟨.ref p, e2, p, kvs, rfl, hp, fun H' p' ts hx hn hts hnt hp' hpr => ?_⟩
          have kk : KN G H F (.nw (.lst (itemsD ks l))) Q := R.kn fun v H' F' A' p R' h => k v H' F' A' p R' h
          exact kk (.ref p') H' hx ⟨p', rfl, hn, _, hp', items_rps R.gs hx hts hpr h1 h2⟩
        · rw [if_neg hl] at e; cases e
      | _ => cases e
end
end Dv
end
section
set_option maxHeartbeats 4000000
namespace Dv
open PySem PySem.Spec PyProof.Rows L2
variable {Sg : Type}
section
variable {X : Cx} {G : Gd Sg} {pos : Pos} {k n np : Nat} {f : Addr} {fd : FuncData} {ps ks : List Str} {x : Str} {p : Pos} {bd : List D → List D → List D} {m : FD Sg} {kws : List Keyword} {fe ge : SA Sg}
theorem tnilB_le : ∀ σ H Q, tAB G aNil σ H Q → tNil σ H Q := by
  rintro σ H Q ⟨H0, F0, ρ, F, As, S, r, ρ', S', R, e, k⟩
  cases e
  exact k [] H F As Stp.refl R rfl
theorem pd_callBr0 (Fn : FnG X.prog X.w X.K X.mg X.base k f fd ps (spF G np m)) (hnp : ps.length = np) (room : Room k X.A) (gu : X.A.guards = some []) (hg : Gl X x) (hm : X.mg x = some (.ref f)) (hk : PySem.W.keepIn X.K (.ref f) = true) (bn : Bn X.K fd ps 0 ks bd)
    (hkw : PK X kws (tAB G ge)) (hall : (backToKw pos (keywordEach kws X.env)).all (·.1.isSome) = true := by rfl) (hks : (backToKw pos (keywordEach kws X.env)).filterMap (·.1) = ks := by rfl)
    (hdb : (x == ("__debug__" : Str)) = false := by decide)
    (hpl : ((backTo pos (starEach [] X.env)).any (·.1) || (backToKw pos (keywordEach kws X.env)).any (·.1.isNone)) = false := by rfl) : PE X (.Call (.Name x p) [] kws pos) (tE G (eCallB 0 ks.length bd m aNil ge)) :=
  PE.mono' (pe_cl0 Fn room gu hg hm hk bn hkw hall hks hdb hpl) fun σ H Q h => tnilB_le (G := G) σ H _ (callB_le (np := np) (fun vs zs vl h => ⟨h.1.trans hnp, fun H F ds es h1 h2 => h.2 G H F ds es h1 h2⟩) σ H Q h)
end
end Dv
end
section
set_option maxHeartbeats 4000000
namespace Dv
open PySem PySem.Spec PyProof.Rows L2
variable {Sg : Type}
section
variable {X : Cx} {G : Gd Sg} {e e2 a b c tg iter o : Expr} {pos : Pos}
/-! ### x <= y of texts -/
def opLeS : D → D → Option Rv
  | .str x, .str y => some (.im (.bl (!decide (y.cps.toList < x.cps.toList))))
  | _, _ => none
theorem od_leS : Op2 G (fun x y H Q => ∃ i j, x = .str i ∧ y = .str j ∧ Q (.bl (!decide (j.cps.toList < i.cps.toList))) H) opLeS := by
  intro x y d e H F S res Q g hx hy eq k
  cases d <;> cases e <;> try (cases eq; done)
  case str.str i j =>
    cases eq; cases hx; cases hy
    exact ⟨i, j, rfl, rfl, k.im rfl⟩
/-! ### zip of two lists -/
def iZipLD (f : SA Sg) : SA Sg := fun ρ S => (f ρ S).bind fun p => match p.1 with
  | [.lst l, .lst m] => some (zipD l m, p.2.1, p.2.2)
  | _ => none
theorem it_zipL {p tpos : Pos} {elts : List Expr} {kk : Nat} {f : SA Sg} (hK : G.K = X.K) (hg : Gl X "zip") (hm : X.mg "zip" = none) (ha : PA X [e, e2] (tAF G f))
    (he : starEach [e, e2] X.env = (false, eval e X.env) :: starEach [e2] X.env := by rfl) (hpl : (backTo pos (starEach [e2] X.env)).any (·.1) = false := by rfl) :
    PI X (.Tuple elts kk tpos) (.Call (.Name "zip" p) [e, e2] [] pos) (tIt G (iZipLD f)) := by
  refine PI.mono' (pi_zip hg hm ha he hpl) ?_
  rintro σ H R ⟨H0, F0, ρ, F, As, S, l, ρ', S', Rl, e, k⟩
  obtain ⟨⟨ds, ρ1, S1⟩, e1, e⟩ := Option.bind_eq_some_iff.mp e
  refine ⟨H0, F0, ρ, F, As, S, ds, ρ1, S1, Rl, e1, fun vs H1 F1 A1 p1 R1 h1 => ?_⟩
  match ds, e, h1 with
  | [.lst m, .lst m2], e, h1 =>
    cases e
    have h1' := h1
    obtain ⟨v, r, rfl, ⟨a, ws, rfl, s, _, z, rw⟩, v', r', rfl, ⟨b, ws', rfl, s', _, z', rw'⟩, rfl⟩ := h1'
    refine ⟨a, b, ws, ws', rfl, .inl (.inl s), .inl (.inl s'), k (Itz X.K a b) _ H1 F1 A1 p1 R1 (stb_rps (ds := [.lst m, .lst m2]) (vs := [.ref a, .ref b])) h1 fun i H2 F2 S2 g2 hs => ?_⟩
    obtain ⟨v2, r2, e2, ⟨a2, vs2, e3, s2, _, z2, rr⟩, v3, r3, e4, ⟨a3, vs3, e5, s3, _, z3, rr3⟩, _⟩ := hs
    cases e2
    cases e3
    cases e4
    cases e5
    have s2' : SqL X.K H2 a vs2 := .inl (.inl s2)
    have s3' : SqL X.K H2 b vs3 := .inl (.inl s3)
    have l1 := rr.length
    have l2 := rr3.length
    refine ⟨fun hl => ⟨vs2, vs3, s2', s3', by rw [zipD_length] at hl; omega⟩, fun d hd => ?_⟩
    obtain ⟨x, y, g1, g3, rfl⟩ := zipD_get hd
    obtain ⟨v, ev, hv⟩ := rr.get g1
    obtain ⟨v', ev', hv'⟩ := rr3.get g3
    refine ⟨⟨vs2, vs3, v, v', s2', s3', ev, ev'⟩, fun y H3 hy => ?_⟩
    obtain ⟨T, x', y', rfl, hT, rfl, hx, hy⟩ := hy
    have := hx vs2 s2'
    rw [ev] at this; cases this
    have := hy vs3 s3'
    rw [ev'] at this; cases this
    exact ⟨Ext.upd hT, T, _, rfl, .no upd_same, (g2.fresh hT).2, _, _, rfl, hv.fr (Fr.upd hT) fun _ q => q, _, _, rfl, hv'.fr (Fr.upd hT) fun _ q => q, rfl⟩
end
end Dv
end
section
set_option maxHeartbeats 4000000
namespace Dv
open PySem PySem.Spec PyProof.Rows L2
variable {Sg : Type}
section
variable {X : Cx} {G : Gd Sg}
/-! ### text * number -/
def repS (x : Str) (n : Int) : Str := if n < 1 then Str.empty else if (n == 1 || x.length == 0) = true then x else ⟨(List.replicate n.toNat x.cps).foldl (· ++ ·) #[]⟩
theorem fold_rep (a : Array Nat) : ∀ (k : Nat) (acc : Array Nat), ((List.replicate k a).foldl (· ++ ·) acc).size = acc.size + k * a.size
  | 0, acc => by simp
  | k + 1, acc => by
    rw [List.replicate_succ, List.foldl_cons, fold_rep a k (acc ++ a), Array.size_append, Nat.succ_mul]
    omega
theorem long_no {k : Nat} (h : k ≤ 1000000) : Builtin.Str.tooLong k = false := by
  have e := sizeLine_eq
  exact decide_eq_false (by omega)
theorem op_mulS : OpR X (binaryOp .Mult) (fun x y H Q => ∃ i n, x = .str i ∧ y = .int n ∧ i.length ≤ 1000 ∧ 0 ≤ n ∧ n ≤ 1000 ∧ Q (.str (repS i n)) H) := by
  intro pins s σ H x y v u Q I rx ry h
  obtain ⟨i, n, rfl, rfl, hi, h0, h1, q⟩ := h
  obtain ⟨t, rfl⟩ := rx
  obtain ⟨t', rfl⟩ := ry
  have lm : i.length * n.toNat ≤ 1000000 := Nat.le_trans (Nat.mul_le_mul hi (show n.toNat ≤ 1000 by omega)) (by decide)
  refine P.mul_str (by rw [decide_eq_false (by omega), decide_eq_false (by omega)]; rfl) (fun h2 _ => ?_) (fun _ _ => long_no lm) ?_
  · have hd : ((2 : Int) ^ 63 - 1) / n ≥ 1000 := by
      refine Int.le_ediv_of_mul_le (by omega) ?_
      have : (1000 : Int) * n ≤ 1000 * 1000 := Int.mul_le_mul_of_nonneg_left h1 (by decide)
      omega
    omega
  · unfold repS at q
    by_cases c1 : n < 1
    · rw [if_pos c1] at q ⊢
      exact ⟨by decide, ⟨.str _, H, I.tok _, ⟨_, rfl⟩, q⟩⟩
    · rw [if_neg c1] at q ⊢
      by_cases c2 : (n == 1 || i.length == 0) = true
      · rw [if_pos c2] at q ⊢
        exact ⟨.str _, H, I, ⟨_, rfl⟩, q⟩
      · rw [if_neg c2] at q ⊢
        refine ⟨?_, ⟨.str _, H, I.tok _, ⟨_, rfl⟩, q⟩⟩
        have e := fold_rep i.cps n.toNat #[]
        have e2 := sizeLine_eq
        show ((List.replicate n.toNat i.cps).foldl (· ++ ·) #[]).size ≤ sizeLine
        rw [e, Nat.mul_comm]
        have lm : i.cps.size * n.toNat ≤ 1000000 := lm
        show 0 + i.cps.size * n.toNat ≤ sizeLine
        omega
def opMulS : D → D → Option Rv
  | .str x, .int n => if x.length ≤ 1000 ∧ 0 ≤ n ∧ n ≤ 1000 then some (.im (.str (repS x n))) else none
  | _, _ => none
theorem od_mulS : Op2 G (fun x y H Q => ∃ i n, x = .str i ∧ y = .int n ∧ i.length ≤ 1000 ∧ 0 ≤ n ∧ n ≤ 1000 ∧ Q (.str (repS i n)) H) opMulS := by
  intro x y d e H F S res Q g hx hy eq k
  cases d <;> cases e <;> try (cases eq; done)
  case str.int i n =>
    have eq : (if i.length ≤ 1000 ∧ 0 ≤ n ∧ n ≤ 1000 then some (Rv.im (.str (repS i n))) else none) = some res := eq
    by_cases c : i.length ≤ 1000 ∧ 0 ≤ n ∧ n ≤ 1000
    · rw [if_pos c] at eq
      cases eq; cases hx; cases hy
      exact ⟨i, n, rfl, rfl, c.1, c.2.1, c.2.2, k.im rfl⟩
    · rw [if_neg c] at eq
      cases eq
end
end Dv
end
section
set_option maxHeartbeats 4000000
namespace Dv
open PySem PySem.Spec PyProof.Rows L2
/-! ### keyword-only parameters that lack: ms, their values as data dm -/
theorem Bn.ofD {K : PySem.W.Frag} {x qual : Str} {params : Arguments} {body : List Stmt} {scope : Scope} {kws : List (Str × V)} {f : Addr} {fd : FuncData} {ps ks : List Str} {n : Nat} (is : List Nat) (ms : List (Str × V)) (dm : List D) (F : FunD K x qual params body scope [] kws f fd)
    (hk : kws ≠ []) (hms : ∀ q ∈ ms, q ∈ kws) (hdm : ∀ {Sg : Type} (G : Gd Sg) (H : Hp) (F : Addr → Prop), Rps G H F dm (ms.map (·.2)))
    (h : ∀ (D : Addr) (doc pm : Value) (an : Option Addr) (cdv ct : Value) (us mv ws : List Value), us.length = n → mv.length = ms.length → ws.length = ks.length →
      KwChain D ((ms.map (·.1)).zip mv) (bindArgs (PySem.W.fnOf x qual params body scope .none (.ref D) doc pm an cdv ct) ⟨us, ks.zip ws⟩) (ps.zip (sel is ((us ++ ws) ++ mv))) ∧ (sel is ((us ++ ws) ++ mv)).length = ps.length) :
    Bn K fd ps n ks (fun ds es => sel is ((ds ++ es) ++ dm)) := by
  obtain ⟨oc, od, dV, kV, doc, pm, an, cdv, ct, osl, rfl, lk, hcd, hD, hK⟩ := F.ex
  rcases hD with ⟨_, rfl⟩ | ⟨e, _⟩
  · rcases hK with e | ⟨D, rfl, hq⟩
    · exact absurd e hk
    · obtain ⟨mv, hl, rk, hks⟩ := kwd_vals (ms := ms) fun q hm => hq q (hms q hm)
      refine ⟨fun s us ws vs zs kin l1 l2 r1 r2 => ?_⟩
      obtain ⟨e1, e2⟩ := h D doc pm an cdv ct us mv ws l1 hl l2
      refine ⟨sel is ((us ++ ws) ++ mv), sel is ((vs ++ zs) ++ ms.map (·.2)), BindsTo.of_looks fun M => KwChain.looks kin hks e1, sel_vals ((r1.append r2).append rk), ?_, fun G H F ds es h1 h2 => sel_rps ((h1.app h2).app (hdm G H F))⟩
      rw [← e2]
      exact sel_length (by simp only [List.length_append, r1.length, r2.length, rk.length])
  · exact absurd rfl e
end Dv
end
section
set_option maxHeartbeats 4000000
namespace Dv
open PySem PySem.Spec PyProof.Rows L2
variable {Sg : Type}
/-! ### a change at a place that nobody holds -/
section
variable {G : Gd Sg} {H0 H : Hp} {F0 F : Addr → Prop} {ρ : En} {σ : L2.St} {As : Nat → Option Addr} {S : Sg} {p : Addr} {k0 : List (Key × V)}
structure Off (H H' : Hp) (F : Addr → Prop) (p : Addr) (k0 : List (Key × V)) : Prop where
  off : ∀ a, a ≠ p → H' a = H a
  old : H p = some (.dK k0)
  nF : ¬ F p
theorem Off.ne {H' : Hp} {a : Addr} {u : HO} (w : Off H H' F p k0) (h : H a = some u) (h1 : u ≠ .dK k0) : a ≠ p := fun q => by
  subst q
  have e := w.old
  rw [h] at e
  cases e
  exact h1 rfl
theorem Off.to {H' : Hp} {a : Addr} {u : HO} (w : Off H H' F p k0) (h : H a = some u) (h1 : u ≠ .dK k0) : H' a = some u := (w.off a (w.ne h h1)).trans h
mutual
theorem Rp.off {H' : Hp} (w : Off H H' F p k0) : ∀ {d : D} {v : V}, Rp G H F d v → Rp G H' F d v
  | .non, _, h => h
  | .bl _, _, h => h
  | .int _, _, h => h
  | .str _, _, h => h
  | .tup x l, _, h => by
    obtain ⟨a, vs, e, ⟨s, sx, sy⟩, z, r⟩ := h
    refine ⟨a, vs, e, ⟨?_, fun q => ?_, fun q => w.to (sy q) fun q => (nomatch q)⟩, z, Rps.off w r⟩
    · rcases s with (s | ⟨o, s⟩) | s
      · exact .inl (.inl ((w.to s fun q => (nomatch q))))
      · exact .inl (.inr ⟨o, (w.to s fun q => (nomatch q))⟩)
      · exact .inr s
    · rcases sx q with ⟨o, u, s, d⟩ | s
      · exact .inl ⟨o, u, (w.to s fun q => (nomatch q)), d⟩
      · exact .inr s
  | .lst l, _, h => by
    obtain ⟨a, vs, e, s, f', z, r⟩ := h
    exact ⟨a, vs, e, (w.to s fun q => (nomatch q)), f', z, Rps.off w r⟩
  | .scr ns, _, h => by
    obtain ⟨a, e, s⟩ := h
    refine ⟨a, e, ?_⟩
    rcases s with ⟨o, s, z⟩ | s
    · exact .inl ⟨o, (w.to s fun q => (nomatch q)), z⟩
    · exact .inr s
  | .dct ks l, _, h => by
    obtain ⟨a, kvs', e, s, z, k, r⟩ := h
    refine ⟨a, kvs', e, ?_, z, k, Rps.off w r⟩
    rcases s with ⟨s, f'⟩ | ⟨o, s⟩
    · exact .inl ⟨(w.off a fun q => w.nF (q ▸ f')).trans s, f'⟩
    · exact .inr ⟨o, (w.to s fun q => (nomatch q))⟩
  | .ob _, _, h => h
  | .dtt ks l, _, h => by
    obtain ⟨a, kvs', e, s, z, k, r⟩ := h
    exact ⟨a, kvs', e, ⟨w.to s.1 fun q => (nomatch q), s.2⟩, z, k, Rps.off w r⟩
  | .exc c ns l, _, h => by
    obtain ⟨a, dd, fv, e, s, z, s2, k, r⟩ := h
    exact ⟨a, dd, fv, e, w.to s fun q => (nomatch q), z, s2.to fun _ s2 _ => w.to s2 fun q => (nomatch q), k, Rps.off w r⟩
theorem Rps.off {H' : Hp} (w : Off H H' F p k0) : ∀ {l : List D} {vs : List V}, Rps G H F l vs → Rps G H' F l vs
  | [], _, h => h
  | d :: l, _, h => by
    obtain ⟨v, r, e, h1, h2⟩ := h
    exact ⟨v, r, e, Rp.off w h1, Rps.off w h2⟩
end
theorem Ow.off {H' : Hp} {a : Addr} {d : D} (w : Off H H' F p k0) (ha : a ≠ p) (h : Ow G H F a d) : Ow G H' F a d := by
  cases d with
  | lst l =>
    obtain ⟨vs, s, r⟩ := h
    exact ⟨vs, (w.off a ha).trans s, r.off w⟩
  | dct ks l =>
    obtain ⟨kvs', s, k, r⟩ := h
    exact ⟨kvs', (w.off a ha).trans s, k, r.off w⟩
  | dtt ks l =>
    obtain ⟨kvs', s, k, r⟩ := h
    exact ⟨kvs', (w.off a ha).trans s, k, r.off w⟩
  | _ => exact (show False from h).elim
theorem Rel.off {H' : Hp} {o : HO} (R : Rel G H0 F0 ρ σ H F As S) (w : Off H H' F p k0) (n0 : H0 p = none) (nz : ¬ G.Z p) (na : ∀ i, As i ≠ some p) : Rel G H0 F0 ρ σ H' F As S := by
  refine ⟨⟨fun a q => ?_, R.gs.nZ, G.frame S H H' R.gs.amb fun a z => w.off a fun q => nz (q ▸ z)⟩, R.len, fun i sl e => ?_, R.none_, R.inj, R.nF, R.new, fun a o e z => ?_, R.bF⟩
  · rw [w.off a fun y => w.nF (y ▸ q)]
    exact R.gs.trk a q
  · obtain ⟨x, e2, h⟩ := R.slot i sl e
    refine ⟨x, e2, ?_⟩
    cases sl with
    | non => exact h
    | im d =>
      obtain ⟨e3, v, e4, r⟩ := h
      exact ⟨e3, v, e4, r.off w⟩
    | ow d =>
      obtain ⟨a, e3, e4, r⟩ := h
      exact ⟨a, e3, e4, r.off w fun q => na i (q ▸ e3)⟩
  · rw [w.off a fun q => by rw [q, n0] at e; cases e]
    exact R.base a o e z
end
/-! ### {"a": x, ..} -/
theorem merge_acc : ∀ (l acc : List (Key × V)), ((acc ++ l).map (·.1)).Nodup → mergeK acc l = acc ++ l
  | [], acc, _ => by simp [mergeK]
  | q :: l, acc, h => by
    have hn : (acc.any fun kv => decide (kv.1 = q.1)) = false := by
      rw [List.any_eq_false]
      intro kv hk
      rw [decide_eq_true_eq]
      intro e
      rw [List.map_append, List.map_cons] at h
      exact (List.nodup_append.mp h).2.2 kv.1 (List.mem_map_of_mem hk) q.1 List.mem_cons_self e
    have e : putK acc q.1 q.2 = acc ++ [q] := by
      unfold putK
      rw [hn]
      rfl
    have ih := merge_acc l (acc ++ [q]) (by rw [List.append_assoc]; exact h)
    show mergeK (putK acc q.1 q.2) l = _
    rw [e, ih, List.append_assoc]
    rfl
inductive PDs (G : Gd Sg) : List Str → List (TE × TE) → SA Sg → Prop
  | nil : PDs G [] [] aNil
  | cons {k : Str} {ks : List Str} {trs : List (TE × TE)} {f : SE Sg} {g : SA Sg} (h : PDs G ks trs g) : PDs G (k :: ks) ((tC (.str k), tE G f) :: trs) (aF f g)
theorem pairs_le {G : Gd Sg} {ks : List Str} {trs : List (TE × TE)} {g : SA Sg} (h : PDs G ks trs g) : ∀ σ H (Q : List (V × V) → Hp → Prop), tAF G g σ H (fun vs H' => vs.length = ks.length → Q ((ks.zip vs).map fun kv => (.str kv.1, kv.2)) H') → tPairs trs σ H Q := by
  induction h with
  | nil =>
    rintro σ H Q ⟨H0, F0, ρ, F, As, S, r, ρ', S', R, e, k⟩
    cases e
    exact k [] H F As Stp.refl R rfl rfl
  | cons h ih =>
    rintro σ H Q ⟨H0, F0, ρ, F, As, S, r, ρ', S', R, e, k⟩
    obtain ⟨⟨r1, ρ1, S1⟩, e1, e⟩ := Option.bind_eq_some_iff.mp e
    obtain ⟨d, ed, e⟩ := Option.bind_eq_some_iff.mp e
    obtain ⟨⟨ds, ρ2, S2⟩, e2, e⟩ := Option.bind_eq_some_iff.mp e
    cases e
    refine ⟨H0, F0, ρ, F, As, S, r1, ρ1, S1, R, e1, fun v1 H1 F1 A1 p1 R1 h1 => ?_⟩
    obtain ⟨F1', g1, gg1, R1', h1'⟩ := R1.frz h1 ed
    refine ih σ H1 _ ⟨H0, F0, ρ1, F1', A1, S1, ds, ρ2, S2, R1', e2, fun vs H2 F2 A2 p2 R2 h2 hl => ?_⟩
    exact k (v1 :: vs) H2 F2 A2 ((p1.frz g1 gg1).trans p2) R2 ⟨v1, vs, rfl, h1'.fr p2.fr p2.fF, h2⟩ (congrArg Nat.succ hl)
def eDisp (ks : List Str) (g : SA Sg) : SE Sg := fun ρ S => (g ρ S).bind fun p => if p.1.length = ks.length then some (.nw (.dct (ks.map .inr) p.1), p.2.1, p.2.2) else none
section
variable {X : Cx} {G : Gd Sg} {pos : Pos} {keys : List (Option Expr)} {values : List Expr} {trs : List (TE × TE)} {ks : List Str} {g : SA Sg}
theorem zip_keys : ∀ (ks : List Str) (vs : List V), vs.length = ks.length → ((ks.zip vs).map fun kv => ((Sum.inr kv.1 : Key), kv.2)).map (·.1) = ks.map .inr ∧ ((ks.zip vs).map fun kv => ((Sum.inr kv.1 : Key), kv.2)).map (·.2) = vs
  | [], [], _ => ⟨rfl, rfl⟩
  | [], _ :: _, h => by cases h
  | _ :: _, [], h => by cases h
  | k :: ks, v :: vs, h => by
    obtain ⟨a, b⟩ := zip_keys ks vs (Nat.succ.inj h)
    exact ⟨congrArg _ a, congrArg _ b⟩
theorem inr_nodup : ∀ {ks : List Str}, ks.Nodup → (ks.map fun k => (Sum.inr k : Key)).Nodup
  | [], _ => List.nodup_nil
  | k :: ks, h => by
    rw [List.nodup_cons] at h
    rw [List.map_cons, List.nodup_cons]
    refine ⟨fun q => ?_, inr_nodup h.2⟩
    obtain ⟨x, hx, e⟩ := List.mem_map.mp q
    exact h.1 ((Sum.inr.inj e) ▸ hx)
theorem pd_disp (h : PPs X pos keys values trs) (hd : PDs G ks trs g) (nd : ks.Nodup) (hz : ks.length ≤ 15) (hall : keys.all (·.isSome) = true := by rfl) (hl : keys.length = values.length := by rfl) (h0 : keys ≠ [] := by simp) (h15 : keys.length ≤ 15 := by decide) :
    PE X (.Dict keys values pos) (tE G (eDisp ks g)) := by
  refine PE.mono' (pe_disp h hall hl h0 h15) ?_
  rintro σ H Q ⟨H0, F0, ρ, F, As, S, rr, ρ', S', R, e, k⟩
  intro p hp
  obtain ⟨⟨ds, ρ1, S1⟩, e1, e⟩ := Option.bind_eq_some_iff.mp e
  have e : (if ds.length = ks.length then some (Rv.nw (.dct (ks.map .inr) ds), ρ1, S1) else none) = some (rr, ρ', S') := e
  by_cases hlen : ds.length = ks.length
  · rw [if_pos hlen] at e
    cases e
    have x := Ext.upd (o := .dK []) hp
    have nF := R.gs.fresh hp
    refine pairs_le hd σ _ _ ⟨H0, F0, ρ, F, As, S, ds, _, _, R.ex x, e1, fun vs H2 F2 A2 p2 R2 h2 hv => ?_⟩
    have hp2 : H2 p = some (.dK []) := p2.fr p _ upd_same nF.2
    have nF2 : ¬ F2 p := fun q => by
      rcases p2.gF p q nF.2 with y | y | ⟨j, y⟩
      · exact nF.1 y
      · rw [upd_same] at y
        cases y
      · exact R.nnew hp j y
    have nA2 : ∀ i, A2 i ≠ some p := fun i q => R.nnew hp i (p2.as i p q)
    obtain ⟨z1, z2⟩ := zip_keys ks vs hv
    refine ⟨hp2, (ks.zip vs).map fun kv => (.inr kv.1, kv.2), ?_, ?_, ?_⟩
    · rw [List.map_map]
      rfl
    · rw [List.length_map, List.length_zip]
      omega
    · have em : mergeK [] ((ks.zip vs).map fun kv => ((Sum.inr kv.1 : Key), kv.2)) = (ks.zip vs).map fun kv => (.inr kv.1, kv.2) := merge_acc _ [] (by
        rw [List.nil_append, z1]
        exact inr_nodup nd)
      rw [em]
      have w : Off H2 (upd H2 p (.dK ((ks.zip vs).map fun kv => (.inr kv.1, kv.2)))) F2 p [] := ⟨fun a ha => upd_ne ha, hp2, nF2⟩
      have n0 := R.old hp
      refine k (.ref p) _ F2 A2 ⟨fun a o e z => ?_, p2.fF, fun a q z => ?_, p2.as⟩ (R2.off (o := .dK []) w n0 nF.2 nA2) ⟨p, rfl, ⟨_, upd_same, z1, ?_⟩, nF2, nF.2, nA2, n0, .inl hp⟩
      · have na : a ≠ p := ne_of_none e hp
        rw [upd_ne na]
        exact p2.fr a o ((upd_ne na).trans e) z
      · rcases p2.gF a q z with y | y | y
        · exact .inl y
        · refine .inr (.inl ?_)
          by_cases ha : a = p
          · rw [ha]
            exact hp
          · rw [upd_ne ha] at y
            exact y
        · exact .inr (.inr y)
      · rw [z2]
        exact h2.off w
  · rw [if_neg hlen] at e
    cases e
end
end Dv
end
section
set_option maxHeartbeats 4000000
namespace Dv
open PySem PySem.Spec PyProof.Rows L2
variable {Sg : Type}
section
variable {X : Cx} {G : Gd Sg} {tg : Expr} {pos : Pos}
/-- x's own frozen dict is locked while a statement is done -/
theorem lockS_le {i : Nat} {f : SS Sg} {t : TS} (hf : ∀ ρ S r, f ρ S = some r → ∃ ks l, ρ[i]? = some (.im (.dct ks l)))
    (ht : ∀ D σ H, (∃ d o kvs, σ[i]? = some (some (.ref d)) ∧ H d = some (.frz o (.dK kvs))) → tSs G f D σ H → t D σ H) : ∀ D σ H, tSs G f D σ H → t D σ H ∨ tLock t D σ H := by
  intro D σ H h
  have h0 := h
  obtain ⟨H0, F0, ρ, F, As, S, c, ρ', S', R, e, k⟩ := h
  obtain ⟨ks, l, q⟩ := hf ρ S _ e
  obtain ⟨w, e2, ea, v, e3, d, kvs, rfl, s, z, ek, rr⟩ := R.slot i _ q
  subst e3
  rcases s with ⟨s, fd⟩ | ⟨o, s⟩
  · refine .inr ⟨d, _, s, (show Mut (some (HO.dK kvs)) from trivial), fun od => ?_⟩
    have w1 : Swp H (upd H d (.frz od (.dK kvs))) d kvs := ⟨fun a ha => upd_ne ha, .inl s, .inr ⟨od, upd_same⟩⟩
    refine ht _ σ _ ⟨d, od, kvs, e2, upd_same⟩ ?_
    have dec : ∀ a : Addr, a = d ∨ a ≠ d := fun a => Classical.em _
    let H0' : Hp := fun a => if a = d then (if H0 d = none then none else some (.frz od (.dK kvs))) else H0 a
    have at1 : ∀ a, a ≠ d → H0' a = H0 a := fun a ha => if_neg ha
    have at2 : H0 d = none → H0' d = none := fun hn => (if_pos rfl).trans (if_pos hn)
    have at3 : H0 d ≠ none → H0' d = some (.frz od (.dK kvs)) := fun hn => (if_pos rfl).trans (if_neg hn)
    have n1 : ∀ a, H0 a = none → H0' a = none := fun a hn => by
      rcases dec a with rfl | ha
      · exact at2 hn
      · exact (at1 a ha).trans hn
    have n2 : ∀ a, H0' a = none → H0 a = none := fun a hn => by
      rcases dec a with rfl | ha
      · by_cases hq : H0 a = none
        · exact hq
        · rw [at3 hq] at hn
          cases hn
      · exact (at1 a ha).symm.trans hn
    have b1 : Fr G.Z H0' (upd H d (.frz od (.dK kvs))) := fun a o' e' z' => by
      rcases dec a with rfl | ha
      · by_cases hq : H0 a = none
        · rw [at2 hq] at e'
          cases e'
        · rw [at3 hq] at e'
          rw [upd_same]
          exact e'
      · rw [at1 a ha] at e'
        rw [upd_ne ha]
        exact R.base a o' e' z'
    refine ⟨H0', F0, ρ, F, As, S, c, ρ', S', R.swp w1 fd b1 n1, e, fun σ' H' F' As' p R' => ?_⟩
    have hd : H' d = some (.frz od (.dK kvs)) := p.fr d _ upd_same z (R.nownF fd)
    have fd' := p.fF d fd
    have w2 : Swp H' (upd H' d (.dK kvs)) d kvs := ⟨fun a ha => upd_ne ha, .inr ⟨od, hd⟩, .inl upd_same⟩
    have b2 : Fr G.Z H0 (upd H' d (.dK kvs)) := fun a o' e' z' => by
      rcases dec a with rfl | ha
      · rw [upd_same]
        have := R.base a o' e' z'
        rw [s] at this
        exact this
      · rw [upd_ne ha]
        exact R'.base a o' ((at1 a ha).trans e') z'
    have pn : Sts G H (upd H' d (.dK kvs)) F F' As As' := by
      refine ⟨fun a o' e' z' na => ?_, p.fF, fun a q' z' => ?_, fun j a q' => ?_⟩
      · rcases dec a with rfl | ha
        · rw [upd_same, ← s]
          exact e'
        · rw [upd_ne ha]
          exact p.fr a o' ((upd_ne ha).trans e') z' na
      · rcases p.gF a q' z' with y | y | y
        · exact .inl y
        · refine .inr (.inl ?_)
          rcases dec a with rfl | ha
          · rw [upd_same] at y
            cases y
          · rw [upd_ne ha] at y
            exact y
        · exact .inr (.inr y)
      · obtain ⟨y1, y2⟩ := p.as j a q'
        refine ⟨y1, y2.elim .inl fun y => .inr ?_⟩
        rcases dec a with rfl | ha
        · rw [upd_same] at y
          cases y
        · rw [upd_ne ha] at y
          exact y
    have K1 := k σ' _ F' As' pn (R'.swp w2 fd' b2 n2)
    cases c with
    | nx => exact ⟨hd, K1⟩
    | bk => exact ⟨hd, K1⟩
    | ct => exact ⟨hd, K1⟩
    | rt r =>
      intro v hv
      refine ⟨hd, K1 v ?_⟩
      cases r with
      | im x => exact Rp.swp w2 fd' hv
      | nw x =>
        obtain ⟨a, e5, ow, nf, nz, g0⟩ := hv
        exact ⟨a, e5, ow.swp w2 fd' nf, nf, nz, n2 a g0⟩
      | br x => exact Rb.swp w2 fd' hv
  · exact .inl (ht D σ H ⟨d, o, kvs, e2, s⟩ h0)
theorem ds_lock {st : Stmt} {i : Nat} {f : SS Sg} {t : TS} (h : PS X st t) (hf : ∀ ρ S r, f ρ S = some r → ∃ ks l, ρ[i]? = some (.im (.dct ks l)))
    (ht : ∀ D σ H, (∃ d o kvs, σ[i]? = some (some (.ref d)) ∧ H d = some (.frz o (.dK kvs))) → tSs G f D σ H → t D σ H) : PS X st (tSs G f) := ⟨fun pins s σ H D I q => by
  rcases lockS_le hf ht D σ H q with h1 | h1
  · exact h.run pins s σ H D I h1
  · exact (ps_lock h).run pins s σ H D I h1⟩
/-! for k in x: x a dict -/
def iKey (i : Nat) : SA Sg := fun ρ S => match ρ[i]? with
  | some (.im (.dct ks _)) => some (ks.map kD, ρ, S)
  | _ => none
theorem key_rp {H : Hp} {F : Addr → Prop} (k : Key) : Rp G H F (kD k) (kV k) := by
  cases k with
  | inl i => rfl
  | inr x => rfl
theorem keys_le {i : Nat} {σ : L2.St} {H : Hp} {R : It → Hp → Prop} (hl : ∃ d o kvs, σ[i]? = some (some (.ref d)) ∧ H d = some (.frz o (.dK kvs))) (h : tIt G (iKey i) σ H R) : iKeys (tVar i) σ H R := by
  obtain ⟨d, o, kvs, e1, hd⟩ := hl
  obtain ⟨H0, F0, ρ, F, As, S, l, ρ', S', Rl, e, k⟩ := h
  unfold iKey at e
  cases q : ρ[i]? with
  | none => rw [q] at e; cases e
  | some sl =>
    rw [q] at e
    cases sl with
    | non => cases e
    | ow x => cases e
    | im x =>
      cases x with
      | dct ks l' =>
        cases e
        obtain ⟨w, e2, ea, v, e3, hv⟩ := Rl.slot i _ q
        subst e3
        rw [e1] at e2; cases e2
        have hv0 := hv
        obtain ⟨d', kvs', e4, s, z, ek, rr⟩ := hv
        cases e4
        have hk0 : kvs' = kvs := by
          rcases s with ⟨s, _⟩ | ⟨o2, s⟩ <;> (rw [hd] at s; cases s) <;> rfl
        subst hk0
        refine ⟨_, e1, d, o, rfl, .inl ⟨kvs', hd, k (Itk d o kvs') _ H F As Stp.refl Rl (stb_lk.and (stb_rps (ds := [.dct ks l']) (vs := [.ref d]))) ⟨⟨hd, z⟩, Rps.one hv0⟩ fun n H2 F2 S2 g2 hs => ?_⟩⟩
        obtain ⟨⟨hd2, _⟩, _⟩ := hs
        have ln : kvs'.length = ks.length := by rw [← ek, List.length_map]
        refine ⟨fun hl => ⟨hd2, by rw [List.length_map] at hl; omega⟩, fun x hx => ?_⟩
        rw [← ek, List.map_map, List.getElem?_map] at hx
        obtain ⟨⟨k', v'⟩, g1, gv⟩ := Option.map_eq_some_iff.mp hx
        refine ⟨⟨hd2, (List.getElem?_eq_some_iff.mp g1).1⟩, fun y H3 hy => ?_⟩
        obtain ⟨rfl, k2, v2, g3, rfl⟩ := hy
        rw [g1] at g3
        cases g3
        have gv : kD k' = x := gv
        subst gv
        exact ⟨Ext.refl, key_rp k'⟩
      | _ => cases e
theorem ds_forK {i : Nat} {x : Str} {p' : Pos} {t : TD} {b : SS Sg} {body : List Stmt} (hp : PassesOwn (model X.prog X.w) X.A X.env X.xe) (hc : X.calm = true) (hi : X.N[i]? = some x) (hv : Vis X.env.scope x) {vs : List Nat} (hg : PG X tg (gD G vs t)) (hb : PSs X body (tSs G b))
    (hs : ∀ y, foldedSetIterable (.Name x p') X.env y = pure y := by intro _; rfl) (hd : (x == ("__debug__" : Str)) = false := by decide) (hcd : (x == ("__classdict__" : Str)) = false := by decide) :
    PS X (.For tg (.Name x p') body [] pos) (tSs G (sFor (iKey i) t b)) := by
  refine ds_lock (i := i) (ps_for hp hc (pi_keys (pe_var hi hv hd hcd)) hg hb hs) (fun ρ S r e => ?_) fun D σ H hl h => keys_le (G := G) hl (for_le D σ H h)
  obtain ⟨⟨l, ρ1, S1⟩, e1, e⟩ := Option.bind_eq_some_iff.mp e
  unfold iKey at e1
  cases q : ρ[i]? with
  | none => rw [q] at e1; cases e1
  | some sl =>
    rw [q] at e1
    cases sl with
    | non => cases e1
    | ow x => cases e1
    | im x =>
      cases x with
      | dct ks l' => exact ⟨ks, l', rfl⟩
      | _ => cases e1
/-- x's own dict or list is frozen ahead of a statement -/
def sFrz (i : Nat) (f : SS Sg) : SS Sg := fun ρ S => match ρ[i]? with
  | some (.ow d) => f (ρ.set i (.im d)) S
  | _ => f ρ S
end
end Dv
end
section
set_option maxHeartbeats 4000000
namespace Dv
open PySem PySem.Spec PyProof.Rows L2
variable {Sg : Type}
section
variable {X : Cx} {G : Gd Sg}
theorem frz_le {i : Nat} {f : SS Sg} : ∀ D σ H, tSs G (sFrz i f) D σ H → tSs G f D σ H := by
  rintro D σ H ⟨H0, F0, ρ, F, As, S, c, ρ', S', R, e, k⟩
  unfold sFrz at e
  cases q : ρ[i]? with
  | none =>
    rw [q] at e
    exact ⟨H0, F0, ρ, F, As, S, c, ρ', S', R, e, k⟩
  | some sl =>
    rw [q] at e
    cases sl with
    | non => exact ⟨H0, F0, ρ, F, As, S, c, ρ', S', R, e, k⟩
    | im d => exact ⟨H0, F0, ρ, F, As, S, c, ρ', S', R, e, k⟩
    | ow d =>
      obtain ⟨w, e2, a, e3, e4, r⟩ := R.slot i _ q
      have R1 := R.freeze q e3
      have st : Sts G H H F (fun b => F b ∨ b = a) As (fun j => if j = i then none else As j) := by
        refine ⟨fun _ _ e _ _ => e, fun _ y => .inl y, fun b y z => ?_, fun j b y => ?_⟩
        · rcases y with y | y
          · exact .inl y
          · exact .inr (.inr ⟨i, y ▸ e3⟩)
        · by_cases hj : j = i
          · rw [if_pos hj] at y
            cases y
          · rw [if_neg hj] at y
            exact ⟨(R.nF j b y).2, .inl ⟨j, y⟩⟩
      exact ⟨H0, F0, _, _, _, S, c, ρ', S', R1, e, fun σ' H' F' As' p R' => k σ' H' F' As' (st.trans p) R'⟩
theorem ds_frz {st : Stmt} {i : Nat} {f : SS Sg} (h : PS X st (tSs G f)) : PS X st (tSs G (sFrz i f)) := PS.mono' h frz_le
end
end Dv
end
section
set_option maxHeartbeats 4000000
namespace Dv
open PySem PySem.Spec PyProof.Rows L2
variable {Sg : Type}
section
variable {X : Cx} {G : Gd Sg}
/-! ### repr of None and of texts, too -/
def okS (x : Str) : Bool := decide (x.length ≤ 1000) && x.cps.toList.all fun c => decide (c < 16 ^ 8)
def opReprY : List D → Option Rv := fun ds => match ds with
  | [.non] => some (.im (.str "None"))
  | [.str x] => if okS x = true then some (.im (.str (reprText x))) else none
  | ds => opReprX ds
def rReprY (K : PySem.W.Frag) : List V → Hp → VK → Prop := fun xs H Q => (xs = [.non] ∧ Q (.str "None") H) ∨ (∃ x, xs = [.str x] ∧ okS x = true ∧ Q (.str (reprText x)) H) ∨ rReprX K xs H Q
theorem okS_len {x : Str} (h : okS x = true) : (reprText x).length ≤ sizeLine := by
  obtain ⟨h1, h2⟩ := Bool.and_eq_true_iff.mp h
  have a := PySem.StrLaws.reprText_len x fun c hc => of_decide_eq_true (List.all_eq_true.mp h2 c hc)
  have b : x.length ≤ 1000 := of_decide_eq_true h1
  have e := sizeLine_eq
  omega
theorem call_reprY {n : Nat} (room : Room n X.A) (gu : X.A.guards = some []) : CallR X (.builtin "repr") (rReprY X.K) := by
  intro pins s σ H xs us Q I r h
  rcases h with ⟨rfl, q⟩ | ⟨x, rfl, ok, q⟩ | h
  · cases r with
    | cons r1 r2 =>
      cases r2
      cases r1
      exact PySem.P.repr_of_none ⟨.str _, H, I.tok _, ⟨_, rfl⟩, q⟩
  · cases r with
    | cons r1 r2 =>
      cases r2
      obtain ⟨t, rfl⟩ := r1
      exact PySem.P.repr_of_str ⟨.str _, H, I.tok _, ⟨_, rfl⟩, q⟩ (okS_len ok)
  · exact call_reprX room gu pins s σ H xs us Q I r h
theorem od_reprY (hK : G.K = X.K) : OpN G (rReprY X.K) opReprY := by
  intro xs ds H F S res Q g hx eq k
  unfold opReprY at eq
  split at eq
  · cases eq
    obtain ⟨v, rfl, hv⟩ := rbs_one hx
    cases hv
    exact .inl ⟨rfl, k.im rfl⟩
  · rename_i x
    by_cases ok : okS x = true
    · rw [if_pos ok] at eq
      cases eq
      obtain ⟨v, rfl, hv⟩ := rbs_one hx
      cases hv
      exact .inr (.inl ⟨x, rfl, ok, k.im rfl⟩)
    · rw [if_neg ok] at eq
      cases eq
  · exact .inr (.inr (od_reprX hK xs ds H F S res Q g hx eq k))
end
end Dv
end
section
set_option maxHeartbeats 4000000
namespace Dv
open PySem PySem.Spec PyProof.Rows L2
variable {Sg : Type}
section
variable {X : Cx} {G : Gd Sg}
/-! ### x not in a list, x of any kind that is read deep -/
def opNotInL : D → D → Option Rv := fun d e => (toPy d).bind fun p => (toPy e).bind fun q => match q with
  | .list ps => if SeqAt.shaped p = true ∧ SeqAt.shaped (.list ps) = true then some (.im (.bl (!ps.any fun z => PyData.eqv z p))) else none
  | _ => none
theorem od_notInL (hK : G.K = X.K) : Op2 G (rNotInD X.K) opNotInL := by
  intro x y d e H F S res Q g hx hy eq k
  obtain ⟨p, e1, eq⟩ := Option.bind_eq_some_iff.mp eq
  obtain ⟨q, e2, eq⟩ := Option.bind_eq_some_iff.mp eq
  cases q with
  | list ps =>
    have eq : (if SeqAt.shaped p = true ∧ SeqAt.shaped (.list ps) = true then some (Rv.im (.bl (!ps.any fun z => PyData.eqv z p))) else none) = some res := eq
    by_cases h : SeqAt.shaped p = true ∧ SeqAt.shaped (.list ps) = true
    · rw [if_pos h] at eq; cases eq
      exact ⟨p, ps, hx.dp hK e1, hy.dp hK e2, h.1, h.2, k.im rfl⟩
    · rw [if_neg h] at eq; cases eq
  | _ => cases eq
end
end Dv
end
section
namespace Dv
open PySem PySem.Spec PyProof.Rows L2
theorem room65 {k : Nat} {A : Around} (r : Room k A) : A.units + 65 < cLine := by have := r.un; omega
end Dv
end
section
set_option maxHeartbeats 4000000
namespace Dv
open PySem PySem.Spec PyProof.Rows L2
variable {Sg : Type}
section
variable {X : Cx} {G : Gd Sg} {pos : Pos}
/-! ### a module's tuple -/
/-- the written part has a tuple at a -/
def KTup (K : PySem.W.Frag) (a : Addr) (xs : List V) : Prop := ∃ (o : Obj) (its : Array Value) (n : Nat), K.lookup a = some o ∧ o.cls = .type "tuple" ∧ o.data = .seq its n ∧ its.size ≤ sizeLine ∧ Vals xs its.toList ∧ o.dict = none
theorem pd_globT {x : Str} {a : Addr} {vs : List V} {l : List D} (hK : G.K = X.K) (hg : Gl X x) (hm : X.mg x = some (.ref a)) (kt : KTup X.K a vs) (hv : ∀ H F, Rps G H F l vs) (hd : (x == ("__debug__" : Str)) = false := by decide) : PE X (.Name x pos) (tE G (eC (.tup true l))) := by
  refine ⟨fun pins s σ H Q I h => ld_glob I hg hm ?_ hd⟩
  obtain ⟨H0, F0, ρ, F, As, S, r, ρ', S', R, e, k⟩ := h
  cases e
  obtain ⟨o, its, n, lk, c1, c2, c3, c4, c5⟩ := kt
  have nH : H a = none := (I.bs a o (I.ok.mod.kin a o lk)).2
  have nZ : ¬ G.Z a := fun z => by
    obtain ⟨u, hu⟩ := G.there S H a R.gs.amb z
    rw [nH] at hu
    cases hu
  exact ⟨.ref a, H, I, rfl, k (.ref a) H F As Stp.refl R ⟨a, vs, rfl, ⟨.inr ⟨o, its, n, hK ▸ lk, c1, c2, c3, c4⟩, fun _ => .inr ⟨o, hK ▸ lk, c5⟩, fun q => nomatch q⟩, nZ, hv H F⟩⟩
end
end Dv
end
section
namespace Dv
open PySem PySem.Spec PyProof.Rows L2
variable {Sg : Type}
/-! ### a, b = x, y -/
theorem ds_par {X : Cx} {G : Gd Sg} {pos : Pos} {i j : Nat} {x y : Str} {a b : Expr} {f : SA Sg} {px py pt : Pos} {kt k2 pt2} (hc : X.calm = true) (hN : X.N.Nodup) (hi : X.N[i]? = some x) (hj : X.N[j]? = some y) (hij : i ≠ j) (hx : X.env.scope.names.lookup x = some .local) (hy : X.env.scope.names.lookup y = some .local) (ha : PA X [a, b] (tAF G f))
    (hw : swappedStores [.Tuple [.Name x px, .Name y py] kt pt] (.Tuple [a, b] k2 pt2) X.env = pure (some [x, y]) := by rfl) (hs : swapsWithSole [.Tuple [.Name x px, .Name y py] kt pt] (.Tuple [a, b] k2 pt2) pos.line X.env = pure false := by rfl) :
    PS X (.Assign [.Tuple [.Name x px, .Name y py] kt pt] (.Tuple [a, b] k2 pt2) pos) (tSs G (sPar i j f)) := PS.mono' (ps_par hc hN hi hj hij hx hy ha hw hs) par_le
end Dv
end
section
set_option maxHeartbeats 4000000
namespace PySem.SeqAt
open AutoSeq1 (wpAny_loadPart')
open MeetsSeq
theorem str_eq_declines_dict (b : Str) (u : Tok) (l : Addr) (o : Obj) (hc : o.cls = .type "dict") (es : Array DictEntry) (n : Nat) (hd : o.data = .dict es n) :
    Meets (Builtin.«str.__eq__» ⟨[.str b u, .ref l], []⟩) (fun _ R s => s.heap.get? l = some o ∧ R (.ok (.ret .notImplemented)) s) :=
  .of_wp fun prog w A R s h => by
    obtain ⟨hp, g, d, tk, os⟩ := s
    obtain ⟨cls, dd, data, sl⟩ := o
    simp only at hc hd
    subst hc hd
    obtain ⟨hl, h⟩ := h
    wp_walk using wpAny_loadPart' hl, wpAny_load hl
    exact ⟨_, rfl, h⟩
theorem dict_eq_declines_str (b : Str) (u : Tok) (l : Addr) (o : Obj) (hc : o.cls = .type "dict") (es : Array DictEntry) (n : Nat) (hd : o.data = .dict es n) :
    Meets (Builtin.«dict.__eq__» ⟨[.ref l, .str b u], []⟩) (fun _ R s => s.heap.get? l = some o ∧ R (.ok (.ret .notImplemented)) s) :=
  .of_wp fun prog w A R s h => by
    obtain ⟨hp, g, d, tk, os⟩ := s
    obtain ⟨cls, dd, data, sl⟩ := o
    simp only at hc hd
    subst hc hd
    obtain ⟨hl, h⟩ := h
    have f1 := F.sub_str_dict
    wp_walk using wpAny_loadPart' hl
    exact ⟨_, rfl, h⟩
theorem EqAt.str_dict {A : Around} {s : Shared} {l : Addr} {o : Obj} (b : Str) (u : Tok) (ho : s.heap.get? l = some o) (hc : o.cls = .type "dict") {es : Array DictEntry} {n : Nat} (hd : o.data = .dict es n) (hu : A.units < cLine) : EqAt A s (.str b u) (.ref l) false := fun prog w E Q h => by
  unfold eqBool
  refine wpAny_holding ?_
  refine wpAny_ite_split (fun hab => absurd (eq_of_beq hab) nofun) (fun _ => ?_)
  refine wpAny_bind ?_
  have ty : s.TypeIs (.ref l) "dict" := ⟨_, ho, hc⟩
  exact rc_eq_decline_or (k := false) (typeIs_str s b u) ty (by decide) F.sub_dict_str F.slot_str_eq F.slot_dict_eq_refl
    (fun _ hq => call_meets F.slot_str_eq (typeIs_str s b u) F.entry_str_eq (F.args_str_eq_2 _ _) (str_eq_declines_dict b u l o hc es n hd) ⟨ho, hq⟩)
    (fun _ hq => call_meets F.slot_dict_eq_refl ty F.entry_dict_eq (F.args_dict_eq_2 _ _) (dict_eq_declines_str b u l o hc es n hd) ⟨ho, hq⟩)
    (fun _ hq => wpAny_of_eq (rfl : isSame (.str b u) (.ref l) = pure false) hq) (.inr hu) (wpAny_truthy_bool h)
end PySem.SeqAt
namespace Dv
open PySem PySem.Spec PyProof.Rows L2
variable {Sg : Type}
section
variable {X : Cx} {G : Gd Sg}
/-! ### x not in a list of texts, x a dict too -/
theorem vals_strs : ∀ {xs : List Str} {us : List Value}, Vals (xs.map V.str) us → ∀ u ∈ us, ∃ t k, u = .str t k
  | [], us, r, u, hu => by
    cases r
    cases hu
  | x :: xs, us, r, u, hu => by
    cases r with
    | cons r1 r2 =>
      obtain ⟨k, rfl⟩ := r1
      rcases List.mem_cons.mp hu with rfl | h
      · exact ⟨_, _, rfl⟩
      · exact vals_strs r2 u h
def opNotInZ : D → D → Option Rv := fun d e => match d, e with
  | .dct _ _, .lst l => (strsD l).bind fun _ => some (.im (.bl true))
  | d, e => opNotInL d e
def rNotInZ (K : PySem.W.Frag) : R2 := fun x y H Q => rNotInD K x y H Q ∨ ∃ (a : Addr) (kvs : List (Key × V)) (l : Addr) (xs : List Str), x = .ref a ∧ y = .ref l ∧ Rd H a (.dK kvs) ∧ H l = some (.lst (xs.map V.str)) ∧ Q (.bl true) H
theorem op_notInZ (hu : X.A.units + 65 < cLine) : OpR X (compareOp .NotIn) (rNotInZ X.K) := by
  intro pins s σ H x y v u Q I rx ry h
  rcases h with h | ⟨a, kvs, l, xs, rfl, rfl, hd, hl, q⟩
  · exact op_notInD hu pins s σ H x y v u Q I rx ry h
  · cases rx
    cases ry
    obtain ⟨_, _, vs, _, o, es, ep, ho, hx, hdt, _⟩ := dk_rd I.hok hd
    obtain ⟨its, rv, hls, hlen⟩ := I.list (show SqL X.K H l (xs.map V.str) from .inl (.inl hl))
    obtain ⟨o', n, ho', hc', hdn, hdt'⟩ := hls
    refine SeqAt.notIn_listAt (fun _ => false) ⟨_, ho', hc', _, hdt'⟩ (fun y hy => ?_) ?_
    · have hy' : y ∈ its := by simpa using hy
      obtain ⟨t, tk, rfl⟩ := vals_strs rv y hy'
      exact SeqAt.EqAt.str_dict t tk ho hx.1 hdt (by show X.A.units + 1 < cLine; omega)
    · have e : (its.toArray.any fun _ => false) = false := by simp
      rw [e]
      exact ⟨.bl true, H, I, rfl, q⟩
theorem od_notInZ (hK : G.K = X.K) : Op2 G (rNotInZ X.K) opNotInZ := by
  intro x y d e H F S res Q g hx hy eq k
  unfold opNotInZ at eq
  split at eq
  · rename_i ks l0 l
    obtain ⟨xs, e1, e2⟩ := Option.bind_eq_some_iff.mp eq
    cases e2
    obtain ⟨a, kvs, rfl, hd, _, _, _⟩ := hx
    obtain ⟨b, vs, rfl, hl, _, r⟩ := hy
    have := r.strs' e1
    subst this
    exact .inr ⟨a, kvs, b, xs, rfl, rfl, hd, hl, k.im rfl⟩
  · exact .inl (od_notInL hK x y _ _ H F S res Q g hx hy eq k)
/-! ### repr of an empty dict, too -/
def opReprZ : List D → Option Rv := fun ds => match ds with
  | [.dct [] []] => some (.im (.str "{}"))
  | ds => opReprY ds
def rReprZ (K : PySem.W.Frag) : List V → Hp → VK → Prop := fun xs H Q => (∃ a, xs = [.ref a] ∧ Rd H a (.dK []) ∧ Q (.str "{}") H) ∨ rReprY K xs H Q
theorem call_reprZ {n : Nat} (room : Room n X.A) (gu : X.A.guards = some []) : CallR X (.builtin "repr") (rReprZ X.K) := by
  intro pins s σ H xs us Q I r h
  rcases h with ⟨a, rfl, hd, q⟩ | h
  · cases r with
    | cons r1 r2 =>
      cases r2
      cases r1
      obtain ⟨_, hs, vs, hv, o, es, ep, ho, hx, hdt, _, hp, _⟩ := dk_rd I.hok hd
      cases hv
      have he : es.toList = [] := by
        generalize es.toList = q at hp
        cases hp
        rfl
      have rd : Reads s.heap (.ref a) (.dict []) [a] := Reads.dict (kvs := []) (as := []) (bs := []) ho hx.1 hdt (by rw [he]; exact .nil) (by rw [he]; exact .nil)
      have hu := room.un
      exact repr_of_reads' rd rfl (fun _ hm => by
        have := List.mem_singleton.mp hm
        rw [this] at hs
        simp at hs) gu (by show X.A.units + (PyData.depth (.dict []) + 1) < cLine; simp only [PyData.depth, PyData.depthAll, PyData.depthKv]; omega) (fun _ _ e => e) (fun h' u tk hk => ⟨.str "{}", H, I.kept hk, ⟨u, rfl⟩, q⟩) (by decide)
  · exact call_reprY room gu pins s σ H xs us Q I r h
theorem od_reprZ (hK : G.K = X.K) : OpN G (rReprZ X.K) opReprZ := by
  intro xs ds H F S res Q g hx eq k
  unfold opReprZ at eq
  split at eq
  · cases eq
    obtain ⟨v, rfl, hv⟩ := rbs_one hx
    obtain ⟨a, kvs, rfl, hd, _, e, _⟩ := hv
    have : kvs = [] := by simpa using e
    subst this
    exact .inl ⟨a, rfl, hd, k.im rfl⟩
  · exact .inr (od_reprY hK xs ds H F S res Q g hx eq k)
end
end Dv
end
section
set_option maxHeartbeats 4000000
namespace Dv
open PySem PySem.Spec PyProof.Rows L2
variable {Sg : Type}
/-! ### dicts whose keys are plain tuples of numbers and texts -/
def keysL : List D → Option (List Key)
  | [] => some []
  | d :: l => (keyD d).bind fun k => (keysL l).bind fun ks => some (k :: ks)
def keyT : D → Option (List Key)
  | .tup false l => keysL l
  | _ => none
section
variable {X : Cx} {G : Gd Sg} {e a b c : Expr} {pos : Pos} {H : Hp} {F : Addr → Prop}
theorem Rps.keys : ∀ {l : List D} {vs : List V} {k : List Key}, Rps G H F l vs → keysL l = some k → vs = k.map kV
  | [], vs, k, h, e => by cases e; exact h
  | d :: l, vs, k, h, e => by
    obtain ⟨v, r, rfl, h1, h2⟩ := h
    obtain ⟨k1, e1, e⟩ := Option.bind_eq_some_iff.mp e
    obtain ⟨ks, e2, e⟩ := Option.bind_eq_some_iff.mp e
    cases e
    rw [Rb.key h1.rb e1, Rps.keys h2 e2]
    rfl
theorem Rb.keyT {d : D} {v : V} {k : List Key} (h : Rb G H F d v) (e : keyT d = some k) : ∃ b, v = .ref b ∧ H b = some (.tup (k.map kV)) := by
  unfold Dv.keyT at e
  split at e
  · rename_i l
    obtain ⟨a, vs, rfl, s, _, r⟩ := h
    refine ⟨a, rfl, ?_⟩
    rw [← r.keys e]
    exact s.2.2 rfl
  · cases e
/-- {} -/
def eDNewT : SE Sg := fun ρ S => some (.nw (.dtt [] []), ρ, S)
theorem pd_dnewT : PE X (.Dict [] [] pos) (tE G eDNewT) := by
  refine PE.mono' pe_dnewT ?_
  rintro σ H Q ⟨H0, F0, ρ, F, As, S, rr, ρ', S', R, e, k⟩
  cases e
  intro p hp
  have x := Ext.upd (o := .dT []) hp
  have fz := R.gs.fresh hp
  exact k _ _ F As (Stp.ext x) (R.ex x) ⟨p, rfl, ⟨[], upd_same, rfl, rfl⟩, fz.1, fz.2, R.nnew hp, R.old hp, .inl hp⟩
/-- d[k] -/
def opDGetT : D → D → Option Rv
  | .dtt ks l, kd => (keyT kd).bind fun k => (lkK ks l k).bind fun d => some (.im d)
  | _, _ => none
theorem pd_dgetT {o i : Expr} {f g : SE Sg} (hu : X.A.units + 1 < cLine) (ho : PE X o (tE G f)) (hi : PE X i (tE G g)) (hs : NoSl i) : PE X (.Subscript o i pos) (tE G (eOp2 opDGetT f g)) := by
  refine PE.mono' (pe_dget hu ho hi hs) ?_
  rintro σ H Q ⟨H0, F0, ρ, F, As, S, rr, ρ', S', R, e, k⟩
  obtain ⟨⟨r1, ρ1, S1⟩, e1, e⟩ := Option.bind_eq_some_iff.mp e
  obtain ⟨⟨r2, ρ2, S2⟩, e2, e⟩ := Option.bind_eq_some_iff.mp e
  obtain ⟨r3, e3, e⟩ := Option.bind_eq_some_iff.mp e
  cases e
  refine ⟨H0, F0, ρ, F, As, S, r1, ρ1, S1, R, e1, fun v1 H1 F1 A1 p1 R1 h1 => ?_⟩
  refine ⟨H0, F0, ρ1, F1, A1, S1, r2, _, _, R1, e2, fun v2 H2 F2 A2 p2 R2 h2 => ?_⟩
  have hb := h1.rb.fr p2.fr p2.fF
  dsimp only at e3
  cases q : r1.d with
  | dtt ks l =>
    rw [q] at e3 hb
    obtain ⟨kk, f1, e3⟩ := Option.bind_eq_some_iff.mp (show (keyT r2.d).bind (fun k => (lkK ks l k).bind fun d => some (Rv.im d)) = some rr from e3)
    obtain ⟨d, f2, e3⟩ := Option.bind_eq_some_iff.mp e3
    cases e3
    obtain ⟨a, kvs, rfl, rd, z, ek, r⟩ := hb
    obtain ⟨b, rfl, hk⟩ := h2.rb.keyT f1
    obtain ⟨v, e5, hv⟩ := (lk_ok (k := kk) ek r).1 d f2
    exact ⟨a, v, rfl, .inr ⟨kvs, kk, b, .inl rd, rfl, hk, e5.symm⟩, k v H2 F2 A2 (p1.trans p2) R2 hv⟩
  | _ => rw [q] at e3; cases e3
/-- k in d, k not in d -/
def opInT (neg : Bool) : D → D → Option Rv
  | kd, .dtt ks l => (keyT kd).bind fun k => some (.im (.bl (xor neg (lkK ks l k).isSome)))
  | _, _ => none
theorem inT_key {ks : List (List Key)} {l : List D} {kvs : List (List Key × V)} {k : List Key} (ek : kvs.map (·.1) = ks) (r : Rps G H F l (kvs.map (·.2))) : (valV kvs k).isSome = (lkK ks l k).isSome := by
  obtain ⟨h1, h2⟩ := lk_ok (k := k) ek r
  cases q : lkK ks l k with
  | none => rw [h2 q]; rfl
  | some d => obtain ⟨v, e, _⟩ := h1 d q; rw [e]; rfl
theorem pe_inT {f g : SE Sg} (hu : X.A.units + 1 < cLine) (ha : PE X a (tE G f)) (hb : PE X b (tE G g)) (hm : behindInMarks .In b = false) : PE X (.Compare a [.In] [b] pos) (tE G (eOp2 (opInT false) f g)) := by
  refine PE.mono' (pe_cmp (pc_din hu ha hb) hm) ?_
  rintro σ H Q ⟨H0, F0, ρ, F, As, S, rr, ρ', S', R, e, k⟩
  obtain ⟨⟨r1, ρ1, S1⟩, e1, e⟩ := Option.bind_eq_some_iff.mp e
  obtain ⟨⟨r2, ρ2, S2⟩, e2, e⟩ := Option.bind_eq_some_iff.mp e
  obtain ⟨r3, e3, e⟩ := Option.bind_eq_some_iff.mp e
  cases e
  refine ⟨H0, F0, ρ, F, As, S, r1, ρ1, S1, R, e1, fun v1 H1 F1 A1 p1 R1 h1 => ?_⟩
  refine ⟨H0, F0, ρ1, F1, A1, S1, r2, _, _, R1, e2, fun v2 H2 F2 A2 p2 R2 h2 => ?_⟩
  have hb := h1.rb.fr p2.fr p2.fF
  have hd := h2.rb
  dsimp only at e3
  cases q : r2.d with
  | dtt ks l =>
    rw [q] at e3 hd
    obtain ⟨kk, f1, e3⟩ := Option.bind_eq_some_iff.mp (show (keyT r1.d).bind (fun k => some (Rv.im (.bl (xor false (lkK ks l k).isSome)))) = some rr from e3)
    cases e3
    obtain ⟨a, kvs, rfl, rd, z, ek, r⟩ := hd
    obtain ⟨b, rfl, hk⟩ := hb.keyT f1
    refine ⟨a, _, rfl, .inr ⟨kvs, kk, b, .inl rd, rfl, hk, rfl⟩, ?_⟩
    rw [inT_key ek r]
    refine k _ H2 F2 A2 (p1.trans p2) R2 ?_
    show V.bl _ = V.bl _
    rw [Bool.false_xor]
  | _ => rw [q] at e3; cases e3
theorem pe_notInT {f g : SE Sg} (hu : X.A.units + 1 < cLine) (ha : PE X a (tE G f)) (hb : PE X b (tE G g)) (hm : behindInMarks .NotIn b = false) : PE X (.Compare a [.NotIn] [b] pos) (tE G (eOp2 (opInT true) f g)) := by
  refine PE.mono' (pe_cmp (pc_dnotin hu ha hb) hm) ?_
  rintro σ H Q ⟨H0, F0, ρ, F, As, S, rr, ρ', S', R, e, k⟩
  obtain ⟨⟨r1, ρ1, S1⟩, e1, e⟩ := Option.bind_eq_some_iff.mp e
  obtain ⟨⟨r2, ρ2, S2⟩, e2, e⟩ := Option.bind_eq_some_iff.mp e
  obtain ⟨r3, e3, e⟩ := Option.bind_eq_some_iff.mp e
  cases e
  refine ⟨H0, F0, ρ, F, As, S, r1, ρ1, S1, R, e1, fun v1 H1 F1 A1 p1 R1 h1 => ?_⟩
  refine ⟨H0, F0, ρ1, F1, A1, S1, r2, _, _, R1, e2, fun v2 H2 F2 A2 p2 R2 h2 => ?_⟩
  have hb := h1.rb.fr p2.fr p2.fF
  have hd := h2.rb
  dsimp only at e3
  cases q : r2.d with
  | dtt ks l =>
    rw [q] at e3 hd
    obtain ⟨kk, f1, e3⟩ := Option.bind_eq_some_iff.mp (show (keyT r1.d).bind (fun k => some (Rv.im (.bl (xor true (lkK ks l k).isSome)))) = some rr from e3)
    cases e3
    obtain ⟨a, kvs, rfl, rd, z, ek, r⟩ := hd
    obtain ⟨b, rfl, hk⟩ := hb.keyT f1
    refine ⟨a, _, rfl, .inr ⟨kvs, kk, b, .inl rd, rfl, hk, rfl⟩, ?_⟩
    rw [inT_key ek r]
    refine k _ H2 F2 A2 (p1.trans p2) R2 ?_
    show V.bl _ = V.bl _
    rw [Bool.true_xor]
  | _ => rw [q] at e3; cases e3
/-! x[k] = v, x a slot's own -/
def sDPutT (i : Nat) (g h : SE Sg) : SS Sg := fun ρ S => (h ρ S).bind fun p => (frz p.1).bind fun d => match p.2.1[i]? with
  | some (.ow (.dtt _ _)) => (g p.2.1 p.2.2).bind fun q => match q.2.1[i]? with
    | some (.ow (.dtt ks l)) => (keyT q.1.d).bind fun k => if l.length < sizeLine then some (.nx, q.2.1.set i (.ow (.dtt (putD ks l k d).1 (putD ks l k d).2)), q.2.2) else none
    | _ => none
  | _ => none
theorem ds_dputT {i : Nat} {x : Str} {ie value : Expr} {g h : SE Sg} {p' pos' : Pos} (hu : X.A.units + 1 < cLine) (hN : X.N[i]? = some x) (hv : Vis X.env.scope x) (hi : PE X ie (tE G g)) (hx : PE X value (tE G h))
    (hs : swapsWith value (some (.Subscript (.Name x p') ie pos')) pos.line X.env = pure false := by rfl) (hd : (x == ("__debug__" : Str)) = false := by decide) (hcd : (x == ("__classdict__" : Str)) = false := by decide) :
    PS X (.Assign [.Subscript (.Name x p') ie pos'] value pos) (tSs G (sDPutT i g h)) := by
  refine PS.mono' (ps_dput hu (pe_var hN hv hd hcd) hi hx hs) ?_
  rintro D σ H ⟨H0, F0, ρ, F, As, S, cc, ρ', S', R, e, k⟩
  obtain ⟨⟨r1, ρ1, S1⟩, e1, e⟩ := Option.bind_eq_some_iff.mp e
  obtain ⟨d, ed, e⟩ := Option.bind_eq_some_iff.mp e
  refine ⟨H0, F0, ρ, F, As, S, r1, ρ1, S1, R, e1, fun v1 H1 F1 A1 p1 R1 h1 => ?_⟩
  obtain ⟨F1', g1, gg1, R1', h1'⟩ := R1.frz h1 ed
  have pp1 := p1.frz g1 gg1
  dsimp only at e
  cases q : ρ1[i]? with
  | none => rw [q] at e; cases e
  | some sl =>
    rw [q] at e
    cases sl with
    | non => cases e
    | im d => cases e
    | ow d0 =>
      cases d0 with
      | dtt ks0 l0 =>
        obtain ⟨⟨r2, ρ2, S2⟩, e2, e⟩ := Option.bind_eq_some_iff.mp e
        obtain ⟨w, e3, p, ea, e4, kvs0, hp, _⟩ := R1'.slot i _ q
        subst e4
        refine ⟨.ref p, e3, H0, F0, ρ1, F1', A1, S1, r2, ρ2, S2, R1', e2, fun v2 H2 F2 A2 p2 R2 h2 => ?_⟩
        dsimp only at e
        cases q2 : ρ2[i]? with
        | none => rw [q2] at e; cases e
        | some sl2 =>
          rw [q2] at e
          cases sl2 with
          | non => cases e
          | im d => cases e
          | ow d2 =>
            cases d2 with
            | dtt ks l =>
              obtain ⟨kk, f1, e⟩ := Option.bind_eq_some_iff.mp e
              by_cases hz : l.length < sizeLine
              · rw [if_pos hz] at e; cases e
                obtain ⟨w2, e5, p', ea2, e6, kvs, hp2, ek, r⟩ := R2.slot i _ q2
                have epp : p' = p := by
                  have := p2.as i p' ea2
                  rw [ea] at this; cases this; rfl
                subst epp
                obtain ⟨b, rfl, hk⟩ := h2.rb.keyT f1
                obtain ⟨nf, nz⟩ := R2.nF i _ ea2
                have hd2 := h1'.fr p2.fr p2.fF
                have mo : Mu (HO.dT kvs) := .inr (.inr ⟨kvs, rfl⟩)
                obtain ⟨b1, b2⟩ := put_ok (k := kk) hd2 ek r
                have hlen : kvs.length < sizeLine := by
                  have := r.length
                  rw [List.length_map] at this
                  omega
                obtain ⟨R3, s3⟩ := R2.mut (o' := .dT (putK kvs kk v1)) (d' := .dtt (putD ks l kk d).1 (putD ks l kk d).2) q2 ea2 (.inr (.inr ⟨_, rfl⟩)) ⟨_, upd_same, b1, b2.updO hp2 mo nf⟩
                exact ⟨p', _, rfl, .inr ⟨kvs, kk, b, hp2, rfl, hk, hlen, rfl⟩, k _ _ F2 A2 ((R.stp (pp1.trans p2)).trans s3) R3⟩
              · rw [if_neg hz] at e; cases e
            | _ => cases e
      | _ => cases e
/-! len(d), list(d) -/
def opLenT : List D → Option Rv
  | [.dtt _ l] => some (.im (.int l.length))
  | _ => none
theorem od_lenT : OpN G rLenT opLenT := by
  intro xs ds H F S res Q g hx eq k
  unfold opLenT at eq
  split at eq
  · cases eq
    obtain ⟨v, rfl, a, kvs, rfl, hd, _, ek, r⟩ := rbs_one hx
    refine ⟨a, kvs, rfl, hd, k.im ?_⟩
    have := r.length
    rw [List.length_map] at this
    rw [this]
    rfl
  · cases eq
def opListT : List D → Option Rv
  | [.dtt ks _] => some (.nw (.lst (ks.map fun k => .tup false (k.map kD))))
  | _ => none
theorem kd_rps : ∀ k : List Key, Rps G H F (k.map kD) (k.map kV)
  | [] => rfl
  | k :: ks => ⟨_, _, rfl, key_rp k, kd_rps ks⟩
theorem keys_rps {S : Sg} (g : Gs G H F S) (hz : ∀ b xs, H b = some (.tup xs) → ¬ G.Z b) : ∀ {kvs : List (List Key × V)} {bs : List Addr}, IsKeys H kvs bs → Rps G H F ((kvs.map (·.1)).map fun k => .tup false (k.map kD)) (bs.map V.ref)
  | [], bs, h => by cases h; exact rfl
  | p :: kvs, bs, h => by
    cases h with
    | cons h1 h2 => exact ⟨_, _, rfl, ⟨_, _, rfl, .no h1, hz _ _ h1, kd_rps p.1⟩, keys_rps g hz h2⟩
/-- no tuple is among the ambient objects -/
def NoTup (G : Gd Sg) : Prop := ∀ S H b xs, G.Amb S H → H b = some (.tup xs) → ¬ G.Z b
theorem od_listT (nt : NoTup G) : OpN G (fun xs H Q => ∃ d kvs, xs = [V.ref d] ∧ Rd H d (.dT kvs) ∧ ∀ p bs, H p = none → IsKeys H kvs bs → Q (.ref p) (upd H p (.lst (bs.map V.ref)))) opListT := by
  intro xs ds H F S res Q g hx eq k
  unfold opListT at eq
  split at eq
  · cases eq
    obtain ⟨v, rfl, a, kvs, rfl, hd, _, ek, r⟩ := rbs_one hx
    refine ⟨a, kvs, rfl, .inl hd, fun p bs hp hb => ?_⟩
    have hr := keys_rps g (fun b xs e => nt S H b xs g.amb e) hb
    rw [ek] at hr
    exact k _ _ (Ext.upd hp) ⟨p, rfl, hp, _, upd_same, hr.fr (Fr.upd hp) fun _ q => q⟩
  · cases eq
end
end Dv
end
section
set_option maxHeartbeats 4000000
/-! own exceptions over any of the built-in bases -/
namespace PySem
namespace XcT
open Builtin Builtin.ObjectAttr PySem.W
section
variable {prog : Program} {w : World} {A : Around} {E : Value → Shared → Prop} {R : Result → Shared → Prop} {hp : Heap} {g : Array GenState} {d : Drawn} {t : Nat} {os : OsState} {tl : List Value}
theorem tl_ne {l : List Value} (h0 : tl.isEmpty = false) (e : excTail tl l = true) : l.isEmpty = false := by
  cases l with
  | nil =>
    have : ([] : List Value) = tl := beq_iff_eq.mp e
    rw [← this] at h0
    exact h0
  | cons _ _ => rfl
/-- self.f = v, the first field -/
theorem osaT {K : Frag} {f : Str} {k : Tok} {v : Value} {x C : Addr} {fv : Array Value} {cd : ClassData} (kin : K.In hp) (gx : hp.get? x = some { cls := .ref C, data := .fields fv }) (gc : clsIn K C = some cd) (m1 : excTail tl cd.mro = true) (m2 : tl.isEmpty = false) (m3 : tl.contains (.type "object") = true)
    (ps : ∀ self : Value, refuseLoop self "__setattr__" tl = pure ()) (hd : cd.hasDict = true) (nf : findIn K (.ref C) f = some none)
    (q : ∀ h' k' dx, (∀ b o, b ≠ x → hp.get? b = some o → h'.get? b = some o) → hp.objs.size ≤ dx → dx ≠ x → h'.get? x = some { cls := .ref C, dict := some dx, data := .fields fv } → h'.Ns1 dx (fun y => if y = f then some v else none) → R (.ok (.ret .none)) ⟨h', g, d, k', os⟩) :
    codeAny (model prog w) A (.call (.builtin "object.__setattr__") ⟨[.ref x, .str f k, v], []⟩) R ⟨hp, g, d, t, os⟩ := by
  have at0 : InstAt hp x { cls := .ref C, data := .fields fv } C none := ⟨gx, rfl, rfl, trivial⟩
  have so := F.store_object
  have em := tl_ne m2 m1
  have ob : cd.mro.contains (.type "object") = true := (excTail_contains "object" _ m1).trans m3
  have nx : x ≠ hp.objs.size := Nat.ne_of_lt (Heap.lt_size gx)
  have isO : Looks (model prog w) hp (isInstance (.ref x) (.type "object")) true := at0.type.andThen (looks_mroIn kin (by unfold mroIn; rw [gc, Option.bind_some, if_neg (by rw [em]; decide), ob]))
  refine codeAny_call_builtin so.slot.plain so.entry (@check_slot (model prog w) _ _ ⟨hp, g, d, t, os⟩ "object.__setattr__" "object" "__setattr__" (.ref x) [.str f k, v] [] _ so.kind so.split isO (so.args (.ref x) (.str f k) v) ?_)
  have l1 : Looks (model prog w) hp (mroOf (.ref C)) cd.mro := (looks_clsIn kin gc).andThen .now
  have l2 : Looks (model prog w) hp (storeTaker? none) none := .now
  have l3 : Looks (model prog w) hp (classData C) cd := looks_clsIn kin gc
  rw [osa_eq, refuse_eq]
  refine wpAny_bind (wpAny_bind (at0.type.at (wpAny_bind (l1.at ?_))))
  rw [excTail_pass _ (ps _) _ m1]
  refine wpAny_pure (wpAny_bind (at0.type.at (wpAny_bind ((looks_findIn kin nf).at (wpAny_bind (l2.at ?_))))))
  show wpAny _ _ (storeInOwnDict (.ref x) (.ref C) (.str f k) f v false) _ _ _
  obtain ⟨c1, c2, c3, c4, c5, c6, c7, c8, c9, c10, c11⟩ := cd
  dsimp only at hd
  subst hd
  unfold storeInOwnDict ownDictForStores
  repeat (first | with_reducible refine PySem.HandSPX.store_in_new ?_ ?_ | with_reducible refine wpAny_loadPart_at gx ?_ | with_reducible refine l3.at ?_ | wp_step)
  · exact ⟨_, #[], _, (Heap.get?_update_ne _ _ _ _ nx.symm).trans (Heap.get?_push_at rfl rfl), rfl, fun e he => absurd he (by simp), fun _ => rfl⟩
  · intro h' k' n1 n2
    have gx1 : (hp.push { cls := .type "dict", data := .dict #[] }).get? x = some { cls := .ref C, data := .fields fv } := Heap.get?_push_of_some _ gx
    refine q h' k' hp.objs.size (fun b o hb ho => ?_) (Nat.le_refl _) nx.symm ?_ n1
    · exact (n2.2 b (Nat.ne_of_lt (Heap.lt_size ho))).trans ((Heap.get?_update_ne _ _ _ _ hb).trans (Heap.get?_push_of_some _ ho))
    · exact (n2.2 x nx).trans (Heap.get?_update_self _ gx1 rfl)
end
end XcT
end PySem
end
section
set_option maxHeartbeats 4000000
namespace L2
open PySem PySem.Spec PyProof.Rows
/-- a base among the built-in ones: B, its mro tl -/
structure XBs (B nw it : String) (tl : List Value) : Prop where
  fc : ExcBaseFacts B nw it tl
  ne : tl.isEmpty = false
  ob : tl.contains (.type "object") = true
  ps : ∀ self : Value, refuseLoop self "__setattr__" tl = pure ()
/-- what the written part says of an own class over it -/
structure XcC (K : PySem.W.Frag) (C : Addr) (nw : String) (tl : List Value) : Prop where
  cls : ∃ c1 c2 c3 c4 bm c5 c6 c7 c8 c9 k0 k1 k2 k3 k5, K.lookup C = some (excClassObj c1 c2 C c3 c4 bm true c5 c6 c7 c8 c9 k0 k1 k2 k3 k5 nw) ∧ PySem.W.excTail tl bm = true
  sa : PySem.W.findIn K (.ref C) "__setattr__" = some (some (.builtin "object.__setattr__"))
  exC : PySem.W.subIn K (.ref C) (.type "BaseException") = some true
  tyC : PySem.W.typeIn K (.ref C) = some (.type "type")
  kC : PySem.W.keepIn K (.ref C) = true
section
variable {X : Cx} {pins : List (Addr × Obj)} {σ : St} {H : Hp} {s : Shared} {a C dx : Addr} {f : Str} {y : V} {u : Value} {fs : List (Str × V)} {Q : Unit → Shared → Prop} {E : Value → Shared → Prop} {A : Around} {B nw it : String} {tl : List Value}
theorem xst_new (W : XBs B nw it tl) (T : XcC X.K C nw tl) (I : Inv X pins σ H s) (e : H a = some (exo a C none)) (hno : PySem.W.findIn X.K (.ref C) f = some none) (ry : RelV y u)
    (h : ∀ dx s', H dx = none → dx ≠ a → Inv X pins σ (upd (upd H dx (exd dx [(f, y)])) a (exo a C (some dx))) s' → Q () s') : wpAny (model X.prog X.w) A (setAttr (.ref a) f u) Q E s := by
  obtain ⟨c1, c2, c3, c4, bm, c5, c6, c7, c8, c9, k0, k1, k2, k3, k5, lc, bt⟩ := T.cls
  have gc : PySem.W.clsIn X.K C = some { name := c1, bases := c4, mro := .ref C :: bm, ns := c3, qualname := c2, hasDict := true, slotNames := c5, subclasses := c6, abstract := c7, collection := c8, hasDel := false } := by
    unfold PySem.W.clsIn
    rw [lc] <;> rfl
  obtain ⟨t1, go⟩ := exo_at I.hok e
  obtain ⟨hp, g, d, t, os⟩ := s
  refine PySem.W.set_plain I.kIn (od := none) (ox := { cls := .ref C, dict := none, data := .fields #[.ref t1, .none, .none, .none, .bool false, .none] }) ⟨go, rfl, rfl, trivial⟩ T.sa ?_
  refine PySem.XcT.osaT (tl := tl) I.kIn go gc (show PySem.W.excTail tl (.ref C :: bm) = true from bt) W.ne W.ob W.ps rfl hno (fun h' k' dx kp dn dne hx hn => ?_)
  have n0 : H dx = none := I.hok.fresh dn
  have nd : ∀ {b : Addr} {o : Obj}, hp.get? b = some o → b ≠ dx := fun q => Nat.ne_of_lt (Nat.lt_of_lt_of_le (Heap.lt_size q) dn)
  have na : ∀ {b : Addr}, H b = none → b ≠ a := fun n z => by rw [z, e] at n; cases n
  have U : Un X.fs [] H (upd (upd H dx (exd dx [(f, y)])) a (exo a C (some dx))) hp h' := {
    keep := fun b o q n _ _ => kp b o (na n) q
    slot := fun b o q n _ _ => ⟨o.slots, kp b o (na n) q⟩
    free := fun b o q n _ => (upd_ne (na n)).trans ((upd_ne (nd q)).trans n)
    there := fun b o q _ => (Classical.em (b = a)).elim (fun z => ⟨_, z ▸ hx⟩) fun z => ⟨o, kp b o z q⟩
    tups := fun b xs q => (upd_ne (at_ne e q exo_tup)).trans ((upd_ne (ne_of_none q n0)).trans q)
    frzs := fun b o v q => (upd_ne (at_ne e q exo_frz)).trans ((upd_ne (ne_of_none q n0)).trans q)
    tbls := fun b ps q => ⟨#[], by rw [upd_ne (at_ne e q exo_tbl), upd_ne (ne_of_none q n0), q]; simp⟩ }
  refine h dx _ n0 dne (I.un (t' := k') U fun b o q => ?_)
  by_cases hb : b = a
  · subst hb
    rw [upd_same] at q
    cases q
    exact exo_ok hx
  · rw [upd_ne hb] at q
    by_cases hd : b = dx
    · subst hd
      rw [upd_same] at q
      cases q
      exact exd_ok hn (relO_put (fs := []) ry fun _ => True.intro)
    · rw [upd_ne hd] at q
      refine (I.hok b o q).stay (fun c v hc z => kp c v ?_ z) (fun c hc => (upd_ne (at_ne e hc exo_own)).trans ((upd_ne (ne_of_none hc n0)).trans hc)) fun c xs hc => (upd_ne (at_ne e hc exo_tup)).trans ((upd_ne (ne_of_none hc n0)).trans hc)
      rcases hc with hc | hc
      · rw [hc]
        exact hb
      · exact at_ne e hc exo_own
theorem xinit_ok {us : List Value} {Q : Value → Shared → Prop} (W : XBs B nw it tl) (T : XcC X.K C nw tl) (I : Inv X pins σ H s) (e : H a = some (exo a C none)) (hl : us.length ≤ sizeLine) (h : ∀ s', Inv X pins σ H s' → Q .none s') :
    wpAny (model X.prog X.w) A (call (.builtin it) (.ref a :: us)) Q E s := by
  obtain ⟨c1, c2, c3, c4, bm, c5, c6, c7, c8, c9, k0, k1, k2, k3, k5, lc, bt⟩ := T.cls
  obtain ⟨t1, go⟩ := exo_at I.hok e
  obtain ⟨hp, g, d, t, os⟩ := s
  refine wpAny_call (PySem.HandSPX.init_base W.fc (fun Y => PySem.W.excTail_contains Y bm bt) (I.kIn _ _ lc) go hl fun h' t2 k hx => ?_)
  have J := I.write (t' := t) (x := a) (e := a) (o := exo a C none) (by rw [e]; exact True.intro) (.inl rfl) k ⟨_, hx⟩ (exo_ok hx)
  have eu : upd H a (exo a C none) = H := funext fun b => (Classical.em (b = a)).elim (fun hb => by rw [hb, upd_same, e]) fun hb => upd_ne hb
  rw [eu] at J
  exact h _ J
end
end L2
end
section
set_option maxHeartbeats 4000000
namespace L2
open PySem PySem.Spec PyProof.Rows
/-- B.__init__(self, ..), self being made -/
def tXin (K : PySem.W.Frag) (nw : String) (tl : List Value) (ta : TA) : TE := fun σ H Q => ta σ H fun vs H1 => ∃ (a C : Addr) (ws : List V), vs = .ref a :: ws ∧ ws.length ≤ 1000 ∧ XcC K C nw tl ∧ H1 a = some (exo a C none) ∧ Q .non H1
/-- self.f = e, the first field -/
def tXst (K : PySem.W.Frag) (nw : String) (tl : List Value) (f : Str) (to te : TE) : TS := fun D σ H => te σ H fun y H1 => to σ H1 fun x H2 => ∃ a C : Addr, x = .ref a ∧ XcC K C nw tl ∧ PySem.W.findIn K (.ref C) f = some none ∧
  H2 a = some (exo a C none) ∧ ∀ dx, H2 dx = none → dx ≠ a → D.nx σ (upd (upd H2 dx (exd dx [(f, y)])) a (exo a C (some dx)))
section
variable {X : Cx} {o e : Expr} {es : List Expr} {to te : TE} {ta : TA} {f : Str} {p p' p1 p2 pos : Pos} {B nw it : String} {tl : List Value} {L C : Addr} {x : Str}
/-- .. of an own class without an own one -/
theorem pe_xin {pl : Sem Bool} (W : XBs B nw it tl) (hg : Gl X x) (hm : X.mg x = some (.ref L)) (rd : PySem.W.readsIn X.K L (.type "type") = true) (ga : PySem.W.specialIn X.K (.ref L) "__getattribute__" = some (some (.builtin "type.__getattribute__")))
    (fi : PySem.W.findCls X.K (.ref L) (.type "type") "__init__" = some (.val (.builtin it))) (hh : PySem.W.handedIn (.builtin it) = true) (ha : PA X (e :: es) ta)
    (hc : eval (.Call (.Attribute (.Name x p1) "__init__" p2) (e :: es) [] pos) X.env = (do
      let ov ← eval (.Name x p1) X.env
      standAt p2.atName
      let (f, first) ← holding [ov] (getMethod ov "__init__" pl)
      callWith pos f first (backTo pos (starEach (e :: es) X.env)) (backToKw pos (keywordEach [] X.env))) := by rfl)
    (hd : (x == ("__debug__" : Str)) = false := by decide) (he : starEach (e :: es) X.env = (false, eval e X.env) :: starEach es X.env := by rfl) (hpl : (backTo pos (starEach es X.env)).any (·.1) = false := by rfl) :
    PE X (.Call (.Attribute (.Name x p1) "__init__" p2) (e :: es) [] pos) (tXin X.K nw tl ta) := by
  refine ⟨fun pins s σ H Q I h => PySem.W.methodCall_KW (ld_glob I hg hm ?_ hd) hc⟩
  refine PySem.W.method_cls I.kIn ga (PySem.W.cls_value I.kIn rd fi hh ?_)
  show wpAny _ _ (callWith pos (Value.builtin it) [] (backTo pos (starEach (e :: es) X.env)) []) _ _ _
  refine PyProof.Rows.callWith_method1 (thn (ha.run pos pins _ σ H _ (I.tok _) h) fun us s1 ⟨vs, H1, I1, r1, a, C, ws, ev, hl, T, ea, q⟩ => ?_) he hpl
  subst ev
  cases r1 with
  | @cons _ u0 _ ur ra rw' =>
    obtain rfl : u0 = Value.ref a := ra
    refine xinit_ok W T I1 ea ?_ fun s' J => ⟨.non, H1, J, rfl, q⟩
    rw [← Paired.length rw', sizeLine_eq]
    omega
theorem ps_xst (W : XBs B nw it tl) (ho : PE X o to) (he : PE X e te) (hs : swapsWith e (some (.Attribute o f p')) pos.line X.env = pure false := by rfl) : PS X (.Assign [.Attribute o f p'] e pos) (tXst X.K nw tl f to te) := by
  refine ⟨fun pins s σ H D I h => plainObj_wpAny_Assign_Attribute (thn (he.run pins s σ H _ I h) fun v s1 ⟨y, H1, I1, r1, q1⟩ => thn (ho.run pins s1 σ H1 _ I1 q1) fun u s2 ⟨x, H2, I2, r2, a, C, ex, T, hno, ea, q⟩ => ?_) hs⟩
  subst ex
  obtain rfl : u = Value.ref a := r2
  exact xst_new W T I2 ea hno r1 fun dx s' n ne J => ⟨σ, _, J, q dx n ne⟩
theorem pmk_xc {CX : CXT} {fI : Addr} {k : Nat} {fd : FuncData} {ps : List Str} {sp : Sp} {ds : List Value} {dvs : List V} (W : XBs B nw it tl) (T : XcC X.K C nw tl) (iC : PySem.W.findIn X.K (.ref C) "__init__" = some (some (.ref fI))) (tI : PySem.W.typeIn X.K (.ref fI) = some (.type "function"))
    (F1 : FnOk X.prog X.w X.K X.mg X.base CX k fI fd ps sp) (hr : Room (k + 1) X.A) (hb : Binds X.K fd ps ds) (hd : Vals dvs ds) (hx : Passes CX X (fun _ _ _ => False)) (hg : Gl X x) (hm : X.mg x = some (.ref C)) (ha : PA X (e :: es) ta)
    (hdb : (x == ("__debug__" : Str)) = false := by decide) (he : starEach (e :: es) X.env = (false, eval e X.env) :: starEach es X.env := by rfl) (hpl : (backTo pos (starEach es X.env)).any (·.1) = false := by rfl) :
    PMk X (.Call (.Name x p) (e :: es) [] pos) (tMkO C sp dvs ta) := by
  intro pins s σ H Q I h
  obtain ⟨c1, c2, c3, c4, bm, c5, c6, c7, c8, c9, k0, k1, k2, k3, k5, lc, bt⟩ := T.cls
  refine wpAny_Call_Name_kw (ld_glob I hg hm ?_ hdb)
  refine PySem.W.callWith_K (h₀ := X.base) I.ok.mod.kin T.kC (thn (ha.run pos pins s σ H _ I h) fun us s1 ⟨vs, H1, I1, r1, hz, q1⟩ => ⟨I1.kIn, ?_⟩) he hpl
  show wpAny _ _ (call (.ref C) us) _ _ _
  obtain ⟨hp, g, dr, tk, os⟩ := s1
  have z1 : hp.objs.size ≤ hp.objs.size + 1 := Nat.le_succ _
  have hq := q1 (hp.objs.size + 1) (I1.hok.fresh z1)
  have kk : ∀ b o, hp.get? b = some o → ((hp.push (PySem.W.kdv_tup us)).push (PySem.HandSPX.excO C hp.objs.size)).get? b = some o := fun b o e => Heap.get?_push_of_some _ (Heap.get?_push_of_some _ e)
  have gg : ((hp.push (PySem.W.kdv_tup us)).push (PySem.HandSPX.excO C hp.objs.size)).get? (hp.objs.size + 1) = some (PySem.HandSPX.excO C hp.objs.size) := by heap_get
  have I2 := I1.laid (t' := tk) (a := hp.objs.size + 1) (o := exo (hp.objs.size + 1) C none) (h' := (hp.push (PySem.W.kdv_tup us)).push (PySem.HandSPX.excO C hp.objs.size)) kk z1 (exo_ok gg)
  have r2 : Vals (V.ref (hp.objs.size + 1) :: (vs ++ dvs)) (Value.ref (hp.objs.size + 1) :: (us ++ ds)) := .cons rfl (r1.append hd)
  have hl : (Value.ref (hp.objs.size + 1) :: us ++ ds).length = ps.length := (r2.length.symm.trans (F1.len _ _ _ _ hq))
  have hus : us.length ≤ sizeLine := by
    rw [← Paired.length r1, sizeLine_eq]
    omega
  refine wpAny_call (PySem.HandSPX.call_own W.fc (fun Y => PySem.W.excTail_contains Y bm bt) (I1.kIn _ _ lc) (PySem.W.looks_findIn I1.kIn iC) (fun self => PySem.W.bind_fn I1.kIn self tI) hus
    (codeAny_mono (F1.run _ X.stack _ _ ⟨Value.ref (hp.objs.size + 1) :: us, []⟩ (Value.ref (hp.objs.size + 1) :: (us ++ ds)) _ _ (fun _ _ _ => False) (hr.make C us []) (I2.env0.make C us []) (hb _ (Value.ref (hp.objs.size + 1) :: us) I2.kIn hl) r2 hq) fun r s' hq' => ?_))
  cases r with
  | error er => exact hx pins σ _ _ er s' I2 hq'
  | ok fl =>
    cases fl with
    | ret u =>
      obtain ⟨v, H2, m1, m2, m3, m4, rv, ev, d, fs, ea, ed, hd1, q2⟩ := hq'
      subst ev
      obtain ⟨h2, g2, d2, t2, os'⟩ := s'
      exact ⟨rv, mk_end (raises_own T.exC T.tyC) I1 z1 kk m3 m4 m1 m2 ea ed hd1 q2⟩
    | _ => exact False.elim hq'
end
end L2
end
section
set_option maxHeartbeats 4000000
namespace Dv
open PySem PySem.Spec PyProof.Rows L2
variable {Sg : Type}
/-! ### what may be raised -/
/-- an exception as data: its class by a word, its fields -/
structure Xd where
  cls : Str
  fs : List (Str × D)
/-- .. as it flies -/
def XRep (G : Gd Sg) (cl : Str → Addr) (H : Hp) (F : Addr → Prop) (x : Xd) (c : Value) (d : Option Addr) : Prop :=
  c = .ref (cl x.cls) ∧ ∃ dd fv, d = some dd ∧ H dd = some (.xd fv) ∧ ¬ G.Z dd ∧ fv.map (·.1) = x.fs.map (·.1) ∧ Rps G H F (x.fs.map (·.2)) (fv.map (·.2))
abbrev SX (Sg : Type) := En → Sg → Option ((Ct ⊕ Xd) × En × Sg)
def tSx (G : Gd Sg) (cl : Str → Addr) (W : WX) (f : SX Sg) : TS := fun D σ H => ∃ H0 F0 ρ F As S c ρ' S', Rel G H0 F0 ρ σ H F As S ∧ f ρ S = some (c, ρ', S') ∧
  ∀ σ' H' F' As', Sts G H H' F F' As As' → Rel G H0 F0 ρ' σ' H' F' As' S' → match c with
  | .inl .nx => D.nx σ' H'
  | .inl (.rt r) => ∀ v, RepT G H0 H' F' r v → D.rt v H'
  | .inl .bk => D.bk σ' H'
  | .inl .ct => D.ct σ' H'
  | .inr x => ∀ cls d, XRep G cl H' F' x cls d → W cls d σ' H'
def xUp (f : SS Sg) : SX Sg := fun ρ S => (f ρ S).bind fun p => some (.inl p.1, p.2)
def xSeq (f g : SX Sg) : SX Sg := fun ρ S => (f ρ S).bind fun p => match p.1 with
  | .inl .nx => g p.2.1 p.2.2
  | c => some (c, p.2.1, p.2.2)
def xIf (t : ST Sg) (f g : SX Sg) : SX Sg := fun ρ S => (t ρ S).bind fun p => if p.1 = true then f p.2.1 p.2.2 else g p.2.1 p.2.2
section
variable {X : Cx} {G : Gd Sg} {cl : Str → Addr} {W : WX} {e c : Expr} {pos : Pos}
theorem up_le {f : SS Sg} : ∀ D σ H, tSx G cl W (xUp f) D σ H → tSs G f D σ H := by
  rintro D σ H ⟨H0, F0, ρ, F, As, S, c, ρ', S', R, e, k⟩
  obtain ⟨⟨c1, ρ1, S1⟩, e1, e⟩ := Option.bind_eq_some_iff.mp e
  cases e
  refine ⟨H0, F0, ρ, F, As, S, c1, _, _, R, e1, fun σ1 H1 F1 A1 p1 R1 => ?_⟩
  cases c1 <;> exact k σ1 H1 F1 A1 p1 R1
theorem xs_up {s : Stmt} {f : SS Sg} (h : PS X s (tSs G f)) : PS X s (tSx G cl W (xUp f)) := PS.mono' h up_le
theorem xss_up {s : List Stmt} {f : SS Sg} (h : PSs X s (tSs G f)) : PSs X s (tSx G cl W (xUp f)) := PSs.mono' h up_le
theorem xseq_le {f g : SX Sg} : ∀ D σ H, tSx G cl W (xSeq f g) D σ H → tSeq (tSx G cl W f) (tSx G cl W g) D σ H := by
  rintro D σ H ⟨H0, F0, ρ, F, As, S, c, ρ', S', R, e, k⟩
  obtain ⟨⟨c1, ρ1, S1⟩, e1, e⟩ := Option.bind_eq_some_iff.mp e
  refine ⟨H0, F0, ρ, F, As, S, c1, ρ1, S1, R, e1, fun σ1 H1 F1 A1 p1 R1 => ?_⟩
  match c1, e with
  | .inl .nx, e => exact ⟨H0, F0, ρ1, F1, A1, S1, c, ρ', S', R1, e, fun σ2 H2 F2 A2 p2 R2 => k σ2 H2 F2 A2 (p1.trans p2) R2⟩
  | .inl (.rt r), e => cases e; exact k σ1 H1 F1 A1 p1 R1
  | .inl .bk, e => cases e; exact k σ1 H1 F1 A1 p1 R1
  | .inl .ct, e => cases e; exact k σ1 H1 F1 A1 p1 R1
  | .inr x, e => cases e; exact k σ1 H1 F1 A1 p1 R1
theorem xs_cons {st : Stmt} {rest : List Stmt} {f g : SX Sg} (h1 : PS X st (tSx G cl W f)) (h2 : PSs X rest (tSx G cl W g)) : PSs X (st :: rest) (tSx G cl W (xSeq f g)) := PSs.mono' (pss_cons h1 h2) xseq_le
theorem xs_one {st : Stmt} {f : SX Sg} (h1 : PS X st (tSx G cl W f)) : PSs X [st] (tSx G cl W f) := pss_one h1
theorem xs_if {t : ST Sg} {f g : SX Sg} {s1 s2 : List Stmt} (hc : PT X c (tT G t)) (ha : PSs X s1 (tSx G cl W f)) (hb : PSs X s2 (tSx G cl W g)) : PS X (.If c s1 s2 pos) (tSx G cl W (xIf t f g)) := by
  refine PS.mono' (ps_if hc ha hb) ?_
  rintro D σ H ⟨H0, F0, ρ, F, As, S, c, ρ', S', R, e, k⟩
  obtain ⟨⟨b1, ρ1, S1⟩, e1, e⟩ := Option.bind_eq_some_iff.mp e
  refine ⟨H0, F0, ρ, F, As, S, b1, ρ1, S1, R, e1, fun H1 F1 A1 p1 R1 => ?_⟩
  cases b1 with
  | true =>
    rw [if_pos rfl] at e ⊢
    exact ⟨H0, F0, ρ1, F1, A1, S1, c, ρ', S', R1, e, fun σ2 H2 F2 A2 p2 R2 => k σ2 H2 F2 A2 ((R.stp p1).trans p2) R2⟩
  | false =>
    rw [if_neg Bool.false_ne_true] at e ⊢
    exact ⟨H0, F0, ρ1, F1, A1, S1, c, ρ', S', R1, e, fun σ2 H2 F2 A2 p2 R2 => k σ2 H2 F2 A2 ((R.stp p1).trans p2) R2⟩
end
/-! ### a def that may raise -/
abbrev FX (Sg : Type) := List D → Sg → Option ((Rv ⊕ Xd) × Sg)
def runX (n : Nat) (f : SX Sg) : FX Sg := fun ds S => (f (enOf n ds) S).bind fun p => match p.1 with
  | .inl .nx => some (.inl (.im .non), p.2.2)
  | .inl (.rt r) => (outR r).bind fun r' => some (.inl r', p.2.2)
  | .inr x => some (.inr x, p.2.2)
  | _ => none
def spX (G : Gd Sg) (cl : Str → Addr) (np : Nat) (m : FX Sg) : Sp := fun vs H Q E => ∃ F S ds r S', vs.length = np ∧ Gs G H F S ∧ Rps G H F ds vs ∧ m ds S = some (r, S') ∧
  match r with
  | .inl r => ∀ v H' F', Fr G.Z H H' → (∀ a, F a → F' a) → (∀ a, F' a → ¬ G.Z a → F a ∨ H a = none) → Gs G H' F' S' → RepT G H H' F' r v → Q v H'
  | .inr x => ∀ c d H' F', Fr G.Z H H' → (∀ a, F a → F' a) → (∀ a, F' a → ¬ G.Z a → F a ∨ H a = none) → Gs G H' F' S' → XRep G cl H' F' x c d → E c d H'
/-- .. where no repr is under way -/
structure FnX (P : Program) (w : World) (K : PySem.W.Frag) (mg : Str → Option Value) (base : Heap) (k : Nat) (f : Addr) (fd : FuncData) (ps : List Str) (sp : Sp) : Prop where
  len : ∀ vs H Q E, sp vs H Q E → vs.length = ps.length
  go : ∀ (A : Around) (outer : List Env) (s : Shared) (H : Hp) (args : Args) (us : List Value) (vs : List V) (Q : VK) (E : XK), Room k A → A.guards = some [] →
    Env0 P w K mg base A outer s H → BindsTo s fd args (ps.zip us) → Vals vs us → sp vs H Q E → codeAny (model P w) A (.call (.ref f) args) (CR (CX P w) outer P w H s Q E) s
theorem FnX.of {P : Program} {w : World} {K : PySem.W.Frag} {mg : Str → Option Value} {base : Heap} {x qual : Str} {params : Arguments} {body : List Stmt} {scope : Scope} {dvs : List V} {kws : List (Str × V)} {f : Addr} {fd : FuncData} {N ps : List Str} {k : Nat} {sp : Sp}
    (F : FunD K x qual params body scope dvs kws f fd) (S : FnScope N ps scope) (len : ∀ vs H Q E, sp vs H Q E → vs.length = ps.length)
    (hb : ∀ (cdv : Value) (A : Around) (outer : List Env) (s : Shared) (H : Hp) (vs : List V) (Q : VK) (E : XK), Room k (A.deeper (envOfC qual scope s.heap.objs.size f cdv)) → A.guards = some [] → sp vs H Q E →
      ∃ t, PSs (cxOf (CX P w) P w K mg base N qual scope f cdv A outer s H E) body t ∧ t { nx := fun _ H' => Q .non H', rt := Q } (start N vs) H) : FnX P w K mg base (k + 1) f fd ps sp := by
  obtain ⟨oc, od, dV, kV, doc, pm, an, cdv, ct, osl, efd, lk, hcd, _, _⟩ := F.ex
  subst efd
  refine ⟨len, fun A outer s H args us vs Q E room gu env bnd rel want => ?_⟩
  have up : ∀ b o, base.get? b = some o → s.heap.get? b = some o := fun b o q => (env.bs b o q).1
  have kin : K.In s.heap := env.mod.kin.keeps up
  apply codeAny_call_function room.depth (kin _ _ lk) rfl S.co S.gen rfl (PySem.W.codeRec_of kin hcd)
  apply bnd
  apply wpAny_newFunctionEnv_cells S.kind
  · rintro ⟨n, v⟩ hm
    exact (S.par n (List.of_mem_zip hm).1).elim .inl fun q => .inr ⟨q, PySem.W.cellsFrom_some _ _ _ (.inl q)⟩
  · intro env' ee s1 ic
    subst ee
    refine ⟨(env.mod.nolimit.keeps up).keeps ic.toInCall.keep, codeAny_func ?_⟩
    obtain ⟨t, ht, hq⟩ := hb cdv A outer s H vs Q E (room.deeper _) gu want
    have inv : Inv (cxOf (CX P w) P w K mg base N qual scope f cdv A outer s H E) [] (start N vs) H s1 := inv_start S room.hd env (len _ _ _ _ want) rel ic
    refine wpAny_mono (ht.run [] s1 (start N vs) H _ inv hq) (fun fl s2 h2 => ?_) fun e s2 h2 => h2
    cases fl with
    | ret u =>
      obtain ⟨v, σ2, H2, J, rv, q2⟩ := h2
      exact ⟨v, H2, J.os, J.bare, J.base, J.hok, rv, q2⟩
    | next =>
      obtain ⟨σ2, H2, J, q2⟩ := h2
      exact ⟨V.non, H2, J.os, J.bare, J.base, J.hok, rfl, q2⟩
    | brk => obtain ⟨_, _, _, q2⟩ := h2; exact q2.elim
    | cont => obtain ⟨_, _, _, q2⟩ := h2; exact q2.elim
theorem bodyX_le {G : Gd Sg} {cl : Str → Addr} {np : Nat} {f : SX Sg} {N : List Str} {vs : List V} {H : Hp} {Q : VK} {E : XK} (h : spX G cl np (runX N.length f) vs H Q E) : tSx G cl (fun c d _ H' => E c d H') f { nx := fun _ H' => Q .non H', rt := Q } (start N vs) H := by
  obtain ⟨F, S, ds, r, S', _, g, hr, e, k⟩ := h
  obtain ⟨⟨c, ρ', S1⟩, e1, e⟩ := Option.bind_eq_some_iff.mp e
  refine ⟨H, F, enOf N.length ds, F, fun _ => none, S, c, ρ', S1, start_rel g hr, e1, fun σ' H' F' A' p R => ?_⟩
  have gg : ∀ a, F' a → ¬ G.Z a → F a ∨ H a = none := fun a q z => by
    rcases p.gF a q z with h | h | ⟨_, h⟩
    · exact .inl h
    · exact .inr h
    · cases h
  match c, e with
  | .inl .nx, e =>
    cases e
    exact k .non H' F' R.base p.fF gg R.gs rfl
  | .inl .bk, e => cases e
  | .inl .ct, e => cases e
  | .inr x, e =>
    cases e
    exact fun c d hx => k c d H' F' R.base p.fF gg R.gs hx
  | .inl (.rt r0), e =>
    obtain ⟨r', e2, e⟩ := Option.bind_eq_some_iff.mp e
    cases e
    intro v hv
    refine k v H' F' R.base p.fF gg R.gs ?_
    cases r0 with
    | im d => cases e2; exact hv
    | nw d => cases e2; exact hv
    | br d =>
      have e2 : (if pureD d = true then some (Rv.im d) else none) = some r' := e2
      by_cases hp : pureD d = true
      · rw [if_pos hp] at e2; cases e2
        exact Rb.pure hv hp
      · rw [if_neg hp] at e2; cases e2
theorem fn_okX {G : Gd Sg} {cl : Str → Addr} {P : Program} {w : World} {mg : Str → Option Value} {base : Heap} {x qual : Str} {params : Arguments} {body : List Stmt} {scope : Scope} {dvs : List V} {kws : List (Str × V)} {f : Addr} {fd : FuncData} {N ps : List Str} {k np : Nat} {b : SX Sg}
    (F : FunD G.K x qual params body scope dvs kws f fd) (S : FnScope N ps scope) (hp : ps.length = np)
    (hb : ∀ (X : Cx) (cdv : Value) (A : Around) (outer : List Env) (s : Shared) (H : Hp) (E : XK), X = cxOf (CX P w) P w G.K mg base N qual scope f cdv A outer s H E → Room k X.A → X.A.guards = some [] → Takes X (fun c d _ H' => E c d H') → PSs X body (tSx G cl (fun c d _ H' => E c d H') b)) :
    FnX P w G.K mg base (k + 1) f fd ps (spX G cl np (runX N.length b)) := by
  refine FnX.of F S (fun vs H Q E h => ?_) fun cdv A outer s H vs Q E room gu h => ⟨_, hb _ cdv A outer s H E rfl room gu (takes_of rfl rfl rfl rfl), bodyX_le h⟩
  obtain ⟨_, _, _, _, _, l, _⟩ := h
  rw [l, hp]
/-- where it gives a value -/
def normX (m : FX Sg) : FD Sg := fun ds S => (m ds S).bind fun p => match p.1 with
  | .inl r => some (r, p.2)
  | .inr _ => none
theorem FnX.norm {G : Gd Sg} {cl : Str → Addr} {P : Program} {w : World} {K : PySem.W.Frag} {mg : Str → Option Value} {base : Heap} {k np : Nat} {f : Addr} {fd : FuncData} {ps : List Str} {m : FX Sg} (F : FnX P w K mg base k f fd ps (spX G cl np m)) : FnG P w K mg base k f fd ps (spF G np (normX m)) := by
  have key : ∀ {vs : List V} {H : Hp} {Q : VK} {E : XK}, spF G np (normX m) vs H Q E → spX G cl np m vs H Q (fun _ _ _ => False) := by
    rintro vs H Q E ⟨F0, S, ds, r, S', l, g, hr, e, k⟩
    obtain ⟨⟨c, S1⟩, e1, e⟩ := Option.bind_eq_some_iff.mp e
    match c, e with
    | .inl r1, e =>
      cases e
      exact ⟨F0, S, ds, _, S1, l, g, hr, e1, k⟩
    | .inr x, e => cases e
  refine ⟨fun vs H Q E h => F.len vs H Q _ (key h), fun A outer s H args us vs Q E room gu env bnd rel want => codeAny_mono (F.go A outer s H args us vs Q _ room gu env bnd rel (key want)) fun r s' h => ?_⟩
  match r, h with
  | .ok (.ret u), h => exact h
  | .ok .next, h => exact h
  | .ok .brk, h => exact h
  | .ok .cont, h => exact h
  | .error e, h =>
    obtain ⟨_, _, _, _, _, _, _, _, _, _, _, _, z⟩ := h
    exact z.elim
end Dv
end
section
set_option maxHeartbeats 4000000
namespace Dv
open PySem PySem.Spec PyProof.Rows L2
variable {Sg : Type}
/-! ### def __init__(self, y): L.__init__(self, "..") ; self.f = y -/
def spI (C : Addr) (f : Str) : Sp := fun vs H Q _ => ∃ a y, vs = [.ref a, y] ∧ H a = some (exo a C none) ∧ ∀ dx, H dx = none → dx ≠ a → Q .non (upd (upd H dx (exd dx [(f, y)])) a (exo a C (some dx)))
section
variable {P : Program} {w : World} {K : PySem.W.Frag} {mg : Str → Option Value} {base : Heap} {x qual self y f msg : Str} {params : Arguments} {body : List Stmt} {scope : Scope} {fI C : Addr} {fd : FuncData} {k : Nat} {nw : String} {tl : List Value}
theorem init_fn (T : XcC K C nw tl) (F : FunD K x qual params body scope [] [] fI fd) (S : FnScope [self, y] [self, y] scope) (nf : PySem.W.findIn K (.ref C) f = some none)
    (hX : ∀ (X : Cx) (cdv : Value) (A : Around) (outer : List Env) (s : Shared) (H : Hp) (E : XK), X = cxOf CX0 P w K mg base [self, y] qual scope fI cdv A outer s H E →
      PSs X body (tSeq (tDrop (tXin K nw tl (tCons (tVar 0) (tCons (tC (.str msg)) tNil)))) (tXst K nw tl f (tVar 0) (tVar 1)))) :
    FnOk P w K mg base CX0 (k + 1) fI fd [self, y] (spI C f) := by
  refine FunD.ok F S (fun vs H Q E h => ?_) fun cdv A outer s H vs Q E hr h => ⟨_, hX _ cdv A outer s H E rfl, ?_⟩
  · obtain ⟨a, v, rfl, _⟩ := h
    rfl
  · obtain ⟨a, v, rfl, ea, q⟩ := h
    exact ⟨.ref a, rfl, a, C, [.str msg], rfl, (show 1 ≤ 1000 by decide), T, ea, v, rfl, .ref a, rfl, a, C, rfl, T, nf, ea, fun dx n ne => q dx n ne⟩
end
/-! ### raise C(e) -/
def xRaise (c f : Str) (g : SA Sg) : SX Sg := fun ρ S => (g ρ S).bind fun p => match p.1 with
  | [d] => some (.inr ⟨c, [(f, d)]⟩, p.2.1, p.2.2)
  | _ => none
section
variable {X : Cx} {G : Gd Sg} {cl : Str → Addr} {W : WX} {e : Expr} {p pos pos' : Pos} {x c f self y : Str} {fI : Addr} {fd : FuncData} {k : Nat} {B nw it : String} {tl : List Value} {g : SA Sg}
theorem xs_raise (hc : X.calm = true) (tk : Takes X W) (Wb : XBs B nw it tl) (T : XcC X.K (cl c) nw tl) (iC : PySem.W.findIn X.K (.ref (cl c)) "__init__" = some (some (.ref fI))) (tI : PySem.W.typeIn X.K (.ref fI) = some (.type "function"))
    (F1 : FnOk X.prog X.w X.K X.mg X.base CX0 k fI fd [self, y] (spI (cl c) f)) (hr : Room (k + 1) X.A) (hb : Binds X.K fd [self, y] []) (hg : Gl X x) (hm : X.mg x = some (.ref (cl c))) (ha : PA X [e] (tAF G g))
    (hdb : (x == ("__debug__" : Str)) = false := by decide) (he : starEach [e] X.env = (false, eval e X.env) :: starEach [] X.env := by rfl) (hpl : (backTo pos (starEach [] X.env)).any (·.1) = false := by rfl) :
    PS X (.Raise (some (.Call (.Name x p) [e] [] pos)) none pos') (tSx G cl W (xRaise c f g)) := by
  refine PS.mono' (ps_raise hc tk (pmk_xc Wb T iC tI F1 hr hb .nil pass0 hg hm ha hdb he hpl)) ?_
  rintro D σ H ⟨H0, F0, ρ, F, As, S, c1, ρ', S', R, ev, q⟩
  obtain ⟨⟨l, ρ1, S1⟩, e1, ev⟩ := Option.bind_eq_some_iff.mp ev
  refine ⟨H0, F0, ρ, F, As, S, l, ρ1, S1, R, e1, fun vs H1 F1' A1 p1 R1 rv => ?_⟩
  match l, rv, ev with
  | [d], rv, ev =>
    cases ev
    obtain ⟨v, r, rfl, r1, rfl⟩ := rv
    refine ⟨(show 1 ≤ 1000 by decide), fun a na => ⟨a, v, rfl, upd_same, fun dx ndx ne => ⟨rfl, dx, [(f, v)], upd_same, ?_, ?_, ?_⟩⟩⟩
    · rw [upd_ne ne, upd_same]
    · rw [upd_ne ne] at ndx
      exact ndx
    · rw [upd_ne ne] at ndx
      have eH : upd (del (upd (upd (upd H1 a (exo a (cl c) none)) dx (exd dx [(f, v)])) a (exo a (cl c) (some dx))) a) dx (.xd [(f, v)]) = upd H1 dx (.xd [(f, v)]) := by
        funext b
        by_cases hd : b = dx
        · rw [hd, upd_same, upd_same]
        · rw [upd_ne hd, upd_ne hd]
          by_cases hb' : b = a
          · rw [hb', del_same, na]
          · rw [del_ne hb', upd_ne hb', upd_ne hd, upd_ne hb']
      have ex : ∀ b o, H1 b = some o → upd H1 dx (.xd [(f, v)]) b = some o := fun b o z => (upd_ne (ne_of_none z ndx)).trans z
      have R2 := R1.ex ex
      rw [eH]
      refine q σ _ F1' A1 ((R.stp p1).trans (R1.stp (Stp.ext ex))) R2 _ _ ⟨rfl, dx, [(f, v)], rfl, upd_same, (R1.gs.fresh ndx).2, rfl, v, [], rfl, ?_, rfl⟩
      exact r1.fr (fun b o z _ => ex b o z) fun _ z => z
  | [], rv, ev => cases ev
  | _ :: _ :: _, rv, ev => cases ev
end
end Dv
end
section
set_option maxHeartbeats 4000000
namespace L2
open PySem PySem.Spec PyProof.Rows
theorem exq_ok {P : Program} {w : World} {H : Hp} {h : Heap} {a : Addr} {cls : Value} {d : Option Addr} {oe : Obj} {vs : Array Value} (e : h.get? a = some oe) (z : Zc cls d oe) (q : oe.data = .fields vs) : ObjOk P w H h a (exq a cls d) :=
  ⟨⟨oe, vs, e, z, q⟩, ⟨oe, e⟩, fun _ _ ⟨o, v, q, r⟩ k => ⟨o, v, k o q, r⟩⟩
theorem exq_at {P : Program} {w : World} {H : Hp} {h : Heap} {a : Addr} {cls : Value} {d : Option Addr} (x : HOk P w H h) (e : H a = some (exq a cls d)) : ∃ (oe : Obj) (vs : Array Value), h.get? a = some oe ∧ Zc cls d oe ∧ oe.data = .fields vs := (x a _ e).1
section
variable {X : Cx} {pins : List (Addr × Obj)} {σ : St} {H : Hp} {s : Shared} {a : Addr} {oe : Obj} {vs : Array Value} {cls : Value} {d : Option Addr}
/-- a pinned exception is taken into the abstract heap -/
theorem Inv.keepX (I : Inv X ((a, oe) :: pins) σ H s) (z : Zc cls d oe) (q : oe.data = .fields vs) (n0 : X.s_0.heap.get? a = none) (np : ∀ p ∈ X.pn ++ pins, p.1 ≠ a) : Inv X pins σ (upd H a (exq a cls d)) s := by
  obtain ⟨p1, p2, p3, p4, p5⟩ := I.pin (a, oe) (List.mem_append_right _ List.mem_cons_self)
  have nb : ∀ {b : Addr} {o : Obj}, X.s_0.heap.get? b = some o → b ≠ a := fun {b o} e z => by
    rw [z, n0] at e
    cases e
  refine ⟨I.ok, I.os, I.bare, ⟨I.base.keep, I.base.slot, fun b o e n hx => (upd_ne (nb e)).trans (I.base.free b o e n hx), I.base.there, fun b xs e => ?_, fun b o u e => ?_, fun b ps e => ?_⟩, I.loc, I.cell, (upd_ne (Ne.symm p3)).trans I.free, fun x c e => ?_, fun p hp => ?_, fun b o e => ?_, I.len⟩
  · have := I.base.tups b xs e
    exact (upd_ne (ne_of_none this p2)).trans this
  · have := I.base.frzs b o u e
    exact (upd_ne (ne_of_none this p2)).trans this
  · obtain ⟨more, h⟩ := I.base.tbls b ps e
    exact ⟨more, (upd_ne (ne_of_none h p2)).trans h⟩
  · obtain ⟨v, hc⟩ := I.cell x c e
    have na : c ≠ a := fun y => by
      obtain ⟨o, e1, e2⟩ := hc
      rw [y] at e1
      have e3 : oe = o := Option.some.inj (p1.symm.trans e1)
      exact p5 _ (e3 ▸ e2)
    exact (upd_ne na).trans (I.freeC x c e)
  · obtain ⟨y1, y2, y3⟩ := I.pin p (by
      rcases List.mem_append.mp hp with y | y
      · exact List.mem_append_left _ y
      · exact List.mem_append_right _ (List.mem_cons_of_mem _ y))
    exact ⟨y1, (upd_ne (np p hp)).trans y2, y3⟩
  · by_cases hb : b = a
    · subst hb
      rw [upd_same] at e
      cases e
      exact exq_ok p1 z q
    · rw [upd_ne hb] at e
      exact (I.hok b o e).stay (fun _ _ _ y => y) (fun c y => (upd_ne (ne_of_none y p2)).trans y) fun c xs y => (upd_ne (ne_of_none y p2)).trans y
/-- .. still pinned behind the suite -/
theorem Inv.pinX {pn' : List (Addr × Obj)} {q : Addr × Obj} (I : Inv (X.suite a (q :: (X.pn ++ pins))) pn' σ H s) (ok : X.Ok) : Inv X (q :: pins) σ H s :=
  ⟨ok, I.os, I.bare, I.base, I.loc, I.cell, I.free, I.freeC, fun p hp => I.pin p (List.mem_append_left _ (by
    rcases List.mem_append.mp hp with y | y
    · exact List.mem_cons_of_mem _ (List.mem_append_left _ y)
    · rcases List.mem_cons.mp y with y | y
      · rw [y]
        exact List.mem_cons_self
      · exact List.mem_cons_of_mem _ (List.mem_append_right _ y))), I.hok, I.len⟩
theorem fly_kept {h h' B : Heap} {l : List Env} {Z : Obj → Prop} (x : HandSPX.FlyingZ B l a Z h) (k : ∀ b o, h.get? b = some o → h'.get? b = some o) : HandSPX.FlyingZ B l a Z h' := by
  obtain ⟨f1, f2, f3, oe, vs, T, oT, ts, g1, g2, g3, g4, g5, g6, g7, g8, g9⟩ := x
  exact ⟨fun b o e => k b o (f1 b o e), f2, f3.of_keeps fun b o e _ => ⟨o, k b o e, rfl⟩, oe, vs, T, oT, ts, k _ _ g1, g2, g3, g4, g5, g6, k _ _ g7, g8, g9⟩
end
end L2
end
section
set_option maxHeartbeats 4000000
namespace L2
open PySem PySem.Spec PyProof.Rows
/-- what 'except (C, ..) as n: m = n' wishes of an exception: slot i is n's, slot j is m's -/
def wKeep (K : PySem.W.Frag) (cs : List Value) (i j : Nat) (D : Ends) : WX := fun cls d σ H =>
  PySem.W.exmAny K cls cs = some true ∧ ∀ a, H a = none → D.nx (((σ.set i (some (.ref a))).set j (some (.ref a))).set i none) (upd H a (exq a cls d))
/-- m = n -/
def tMove (i j : Nat) : TS := fun D σ H => ∃ v, σ[i]? = some (some v) ∧ D.nx (σ.set j (some v)) H
section
variable {X : Cx} {n m : Str} {i j : Nat} {els : List Expr} {cs : List Addr} {body : List Stmt} {b₀ : Stmt} {x1 : Nat} {np pos pos' : Pos} {tb : WX → TS}
/-- the classes that a clause names, read where an exception is handled: nothing is changed -/
def Reads (X : Cx) (els : List Expr) (cs : List Addr) : Prop := ∀ (a : Addr) (pn : List (Addr × Obj)) (σ : St) (H : Hp) (s : Shared) (pos : Pos) (Q : List Value → Shared → Prop) (E : Value → Shared → Prop), Inv (X.suite a pn) [] σ H s → Q (cs.map Value.ref) s → wpAny (model X.prog X.w) (X.suite a pn).A (spliced (backTo pos (starEach els X.env))) Q E s
theorem reads_nil : Reads X [] [] := fun _ _ _ _ _ _ _ _ _ q => Calls.spliced_nil q
theorem reads_cons {x : Str} {c : Addr} {p : Pos} (hg : Gl X x) (hm : X.mg x = some (.ref c)) (h : Reads X els cs) (hd : (x == ("__debug__" : Str)) = false := by decide) (hs : starEach (.Name x p :: els) X.env = (false, eval (.Name x p) X.env) :: starEach els X.env := by rfl) : Reads X (.Name x p :: els) (c :: cs) := fun a pn σ H s pos Q E I q => by
  rw [hs]
  show wpAny _ _ (spliced ((false, eval (.Name x p) X.env) :: backTo pos (starEach els X.env))) _ _ s
  exact Calls.spliced_cons (ld_glob (X := X.suite a pn) I hg hm (h a pn σ H s pos _ _ I q) hd)
theorem ps_try_keep (hs : X.stack = X.env :: X.outer) (hf : X.env.frame = some X.env.locals) (hx : X.ex = []) (hN : X.N.Nodup) (hi : X.N[i]? = some n) (hln : X.env.kindOf n = some .local)
    (hcs : Reads X els cs) (hz : cs.length ≤ 1000)
    (hm : ∀ (M : Model) (h : Heap) (tp e : Addr) (cls : Value) (b : Bool), X.K.In h → PySem.W.Looks M h (typeOf (.ref e)) cls → h.get? tp = some { cls := .type "tuple", data := .seq (cs.map Value.ref).toArray } → PySem.W.exmAny X.K cls (cs.map Value.ref) = some b → PySem.W.Looks M h (excMatches (.ref e) (.ref tp)) b)
    (hb : ∀ (W : WX) (pn : List (Addr × Obj)) (xe : Value → Shared → Prop), Takes (X.tr pn xe) W → PassesOwn (model X.prog X.w) X.A X.env xe → PSs (X.tr pn xe) body (tb W))
    (hsu : ∀ (a : Addr) (pn : List (Addr × Obj)), PSs (X.suite a pn) [b₀] (tMove i j)) :
    PS X (.Try body [.ExceptHandler (some (.Tuple els x1 np)) (some n) [b₀] pos'] [] [] pos) (fun D σ H => tb (wKeep X.K (cs.map Value.ref) i j D) D σ H) := by
  refine ⟨fun pins s σ H D I h => ?_⟩
  have ok := I.ok
  have fr0 : X.A.frames = some (X.env :: X.outer) := by rw [ok.frames, hs]
  have loc : Loc X.env.scope n := .inl hln
  refine wpAny_Try_except ?_
  refine wpAny_mono ((hb (wKeep X.K (cs.map Value.ref) i j D) (X.pn ++ pins) (fun e s₁ => wpAny (model X.prog X.w) X.A (noteFrame e X.env) (fun _ s₂ => wpAny (model X.prog X.w) X.A (setFlight e none) (fun _ s₃ =>
    wpAny (model X.prog X.w) X.A (handleBy e X.env [.ExceptHandler (some (.Tuple els x1 np)) (some n) [b₀] pos']) (SP X pins D) X.xe s₃) X.xe s₂) X.xe s₁) (fun u s' xx => ?_) PassesOwn.looking).run [] s σ H D (I.toTry _) h) (fun f s1 q1 => ?_) (fun e s1 he => he)
  · obtain ⟨a, B, sI, pins', σ', H', cls, d, rfl, J', nb, up, sky, na, os, ag, hyes, go⟩ := xx
    have J : Inv X pins σ' H' sI := J'.ofTry ok
    have sky' : Sky B (X.env :: X.outer) a (Zc cls d) X.env.locals s'.heap := by
      rw [← hs]
      exact sky
    show wpAny (model X.prog X.w) X.A (noteFrame (.ref a) X.env) _ _ _
    refine Sky.land Zc.steady fr0 hf sky' fun h3 fl3 up3 => ?_
    have J3 : Inv X pins σ' H' { s' with heap := h3 } := J.landed nb fl3.1 (up.trans up3) os ag
    obtain ⟨oe3, vs3, he3, hz3, hd3⟩ := fl3.there
    have nfr : a ∉ frs (X.env :: X.outer) := fun hm' => by
      obtain ⟨_, o', e', nf'⟩ := fl3.2.2.1.mem hm'
      rw [he3] at e'
      cases e'
      exact nf' _ hd3
    have nL : a ≠ X.env.locals := fun z => nfr (List.mem_filterMap.mpr ⟨X.env, List.mem_cons_self, by rw [hf, z]⟩)
    have nF : a ∉ X.fs := fun hm' => by
      obtain ⟨e, he, q⟩ := List.mem_filterMap.mp hm'
      exact nfr (List.mem_filterMap.mpr ⟨e, List.mem_cons_of_mem _ he, q⟩)
    have noI : sI.heap.get? a = none := by
      cases e : sI.heap.get? a with
      | none => rfl
      | some o =>
        have z := nb a o e (by rw [hs]; exact nfr)
        rw [fl3.2.1] at z
        cases z
    have no0 : X.s_0.heap.get? a = none := by
      cases e : X.s_0.heap.get? a with
      | none => rfl
      | some o =>
        obtain ⟨o', e'⟩ := J.base.there a o e (by rw [hx]; simp)
        rw [noI] at e'
        cases e'
    have npn : ∀ p ∈ X.pn ++ pins, p.1 ≠ a := fun p hp z => by
      have y := (J.pin p hp).1
      rw [z, noI] at y
      cases y
    have S3 := J3.suite he3 hd3 na nL nF
    refine wpAny_handleBy_cons (codeAny_handlers_test ?_) (by intro q; cases q)
    refine wpAny_Tuple_spliced (hcs a _ σ' H' _ np _ _ S3 ⟨by rw [List.length_map, sizeLine_eq]; omega, ?_⟩)
    have kp : ∀ b o, h3.get? b = some o → (h3.push { cls := .type "tuple", data := .seq (cs.map Value.ref).toArray }).get? b = some o := fun b o e => Heap.get?_push_of_some _ e
    have gt : (h3.push { cls := .type "tuple", data := .seq (cs.map Value.ref).toArray }).get? h3.objs.size = some { cls := .type "tuple", data := .seq (cs.map Value.ref).toArray } := Heap.get?_push_size _ rfl
    generalize h3.push { cls := .type "tuple", data := .seq (cs.map Value.ref).toArray } = h4 at kp gt
    have fl4 := fly_kept fl3 kp
    have up4 : sI.heap.UpToSlots h4 := (up.trans up3).trans (Heap.UpToSlots.of_keeps kp)
    have kin4 : X.K.In h4 := J3.kIn.keeps kp
    have lt : PySem.W.Looks (model X.prog X.w) h4 (typeOf (.ref a)) cls := fun A Q E s k q => wpAny_typeOf_ref (k _ _ (kp _ _ he3)) (by rw [hz3.1]; exact q)
    refine (hm _ h4 h3.objs.size a cls true kin4 lt gt hyes).here ?_
    refine codeAny_handlers_suite_as ?_
    refine HandSPX.lands_againZ (s := { s' with heap := h4 }) fl4 fun h5 fl5 up5 => ?_
    have J5 : Inv X pins σ' H' { s' with heap := h5 } := J.landed nb fl5.1 (up4.trans up5) os ag
    obtain ⟨oe5, vs5, he5, hz5, hd5⟩ := fl5.there
    have S5 := J5.suite he5 hd5 na nL nF
    refine store_ok (X := X.suite a ((a, oe5) :: (X.pn ++ pins))) (v := .ref a) S5 hN hi loc rfl (fun s6 S6 => ?_) (.inr hln)
    have hi' : i < σ'.length := by
      rw [J.len]
      exact (List.getElem?_eq_some_iff.mp hi).1
    refine wpAny_mono ((hsu a ((a, oe5) :: (X.pn ++ pins))).run [] s6 _ H' { nx := fun σ2 H2 => D.nx (σ2.set i none) (upd H2 a (exq a cls d)), rt := fun _ _ => False } S6 ⟨.ref a, by rw [List.getElem?_set_self hi'], go a na⟩) (fun f s7 q7 => ?_) (fun _ _ z => False.elim z)
    cases f with
    | next =>
      obtain ⟨σ7, H7, S7, q7⟩ := q7
      exact gone_ok (S7.pinX ok) hN hi hln fun s8 J8 => ⟨_, _, J8.keepX hz5 hd5 no0 npn, q7⟩
    | brk =>
      obtain ⟨_, _, _, z⟩ := q7
      exact z.elim
    | cont =>
      obtain ⟨_, _, _, z⟩ := q7
      exact z.elim
    | ret u =>
      obtain ⟨_, _, _, _, _, z⟩ := q7
      exact z.elim
  · cases f with
    | next =>
      obtain ⟨σ', H', J', q⟩ := q1
      exact wpAny_execs_nil ⟨σ', H', J'.ofTry ok, q⟩
    | brk =>
      obtain ⟨σ', H', J', q⟩ := q1
      exact ⟨σ', H', J'.ofTry ok, q⟩
    | cont =>
      obtain ⟨σ', H', J', q⟩ := q1
      exact ⟨σ', H', J'.ofTry ok, q⟩
    | ret u =>
      obtain ⟨v, σ', H', J', r, q⟩ := q1
      exact ⟨v, σ', H', J'.ofTry ok, r, q⟩
end
end L2
end
section
set_option maxHeartbeats 4000000
namespace L2
open PySem PySem.Spec PyProof.Rows
/-- what an own class must say, for its instances to be asked of their kinds and fields -/
structure XqC (K : PySem.W.Frag) (C : Addr) : Prop where
  cl : (PySem.W.clsIn K C).isSome = true
  ga : PySem.W.findIn K (.ref C) "__getattribute__" = some (some (.builtin "BaseException.__getattribute__"))
  gg : PySem.W.findIn K (.ref C) "__getattr__" = some none
  sb : PySem.W.subIn K (.ref C) (.type "BaseException") = some true
  ca : PySem.W.findIn K (.ref C) "__class__" = some (some (.builtin "object.__class__"))
  cn : PySem.W.specialIn K (.builtin "object.__class__") "__get__" = some (some (.builtin "getset_descriptor.__get__"))
  ct : PySem.W.takesIn K (.builtin "object.__class__") = some true
  cm : PySem.W.mroIn K C (.type "object") = some true
  hd : PySem.W.hasDictIn K C = true
/-- a caught exception of the class C, with the fields fs -/
def CgtX (H : Hp) (a C : Addr) (fs : List (Str × V)) : Prop := ∃ dd, H a = some (exq a (.ref C) (some dd)) ∧ H dd = some (.xd fs)
theorem CgtX.inst {X : Cx} {pins : List (Addr × Obj)} {σ : St} {H : Hp} {s : Shared} {a C : Addr} {fs : List (Str × V)} (h : CgtX H a C fs) (I : Inv X pins σ H s) :
    ∃ (oe od : Obj) (mA : Str → Option Value), PySem.W.InstAt s.heap a oe C (some od) ∧ (∀ f, RelO (fs.lookup f) (mA f)) ∧ ∀ n, PySem.W.lookIn n od = some (mA n) := by
  obtain ⟨dd, ea, ed⟩ := h
  obtain ⟨oe, vs, g1, g2, g3⟩ := exq_at I.hok ea
  obtain ⟨mA, hns, hr⟩ := (show ObjOk X.prog X.w H s.heap dd (.xd fs) from I.hok dd _ ed)
  obtain ⟨od, ho, hl⟩ := lookIn_ns hns
  exact ⟨oe, od, mA, ⟨g1, g2.1, by unfold PySem.W.notCls; rw [g3] <;> rfl, by rw [g2.2]; exact ho⟩, hr, hl⟩
def rIsX (K : PySem.W.Frag) : List V → Hp → VK → Prop := fun xs H Q => ∃ (a C : Addr) (fs : List (Str × V)) (c : V) (cv : Value) (b : Bool), xs = [.ref a, c] ∧ CgtX H a C fs ∧ XqC K C ∧ (∀ u, RelV c u → u = cv) ∧ PySem.W.kitOne K (.ref C) cv = some b ∧ Q (.bl b) H
theorem call_isX {X : Cx} : CallR X (.builtin "isinstance") (rIsX X.K) := by
  intro pins s σ H xs us Q I r h
  obtain ⟨a, C, fs, c, cv, b, rfl, g, T, hcv, e, q⟩ := h
  cases r with
  | cons rx rr =>
    cases rr with
    | cons rt rr =>
      cases rr
      cases rx
      have ec := hcv _ rt
      subst ec
      obtain ⟨oe, od, mA, J, _⟩ := g.inst I
      exact PySem.W.kia_one (PySem.W.kitx_exc T.cl T.ga T.gg T.sb T.ca T.cn T.ct T.cm) I.kIn J e (fun z => nomatch z) fun tk => ⟨.bl b, H, I.kept (t' := tk) fun _ _ z => z, rfl, q⟩
/-- e.f -/
def tXq (K : PySem.W.Frag) (f : Str) (te : TE) : TE := fun σ H Q => te σ H fun x H1 => ∃ (a C : Addr) (fs : List (Str × V)) (v : V), x = .ref a ∧ CgtX H1 a C fs ∧ XqC K C ∧ PySem.W.findIn K (.ref C) f = some none ∧ fs.lookup f = some v ∧ Q v H1
theorem pe_xq {X : Cx} {e : Expr} {te : TE} {pos : Pos} {n : Str} (he : PE X e te) (hb : attributeBase e n X.env (eval e X.env) = eval e X.env := by rfl) : PE X (.Attribute e n pos) (tXq X.K n te) := by
  refine ⟨fun pins s σ H Q I h => attr_of hb (thn (he.run pins s σ H _ I h) fun u s1 ⟨x, H1, I1, rx, a, C, fs, v, ex, g, T, hno, l, q⟩ => ?_)⟩
  subst ex
  obtain rfl : u = Value.ref a := rx
  obtain ⟨oe, od, mA, J, hr, hl⟩ := g.inst I1
  obtain ⟨u, hu, ru⟩ := RelO.some_of (v := v) (o := mA n) (by rw [← l]; exact hr n)
  exact HandSPX.exc_get I1.kIn J T.ga T.gg T.sb (PySem.W.findObj_own T.hd hno rfl (by rw [hl, hu])) (handed_of ru) ⟨v, H1, I1.tok _, ru, q⟩
end L2
end
section
set_option maxHeartbeats 4000000
namespace Dv
open PySem PySem.Spec PyProof.Rows L2
/-! ### where .ob 0 is a kept exception -/
def gX (K : PySem.W.Frag) (a dd C : Addr) (fs : List (Str × V)) : Gd Unit where
  K := K
  ad := fun _ => a
  Z := fun b => b = a ∨ b = dd
  Amb := fun _ H => H a = some (exq a (.ref C) (some dd)) ∧ H dd = some (.xd fs)
  frame := fun _ H H' h q => ⟨(q a (.inl rfl)).trans h.1, (q dd (.inr rfl)).trans h.2⟩
  there := fun _ H b h z => by
    rcases z with rfl | rfl
    · exact ⟨_, h.1⟩
    · exact ⟨_, h.2⟩
/-- of the class asked or not -/
def opIsX (b : Bool) : D → Option Rv
  | .ob _ => some (.im (.bl b))
  | _ => none
section
variable {X : Cx} {a dd C : Addr} {fs : List (Str × V)} {e : Expr} {pos : Pos} {f : SE Unit} {tx : Str} {p p2 : Pos} {b : Bool}
theorem isx_le {cv : Value} {c : V} (T : XqC X.K C) (hcv : ∀ u, RelV c u → u = cv) (hb : PySem.W.kitOne X.K (.ref C) cv = some b) : ∀ σ H Q, tE (gX X.K a dd C fs) (eOp1 (opIsX b) f) σ H Q → tE (gX X.K a dd C fs) f σ H fun v H1 => rIsX X.K [v, c] H1 Q := by
  rintro σ H Q ⟨H0, F0, ρ, F, As, S, rr, ρ', S', R, e, k⟩
  obtain ⟨⟨r1, ρ1, S1⟩, e1, e⟩ := Option.bind_eq_some_iff.mp e
  obtain ⟨r3, e3, e⟩ := Option.bind_eq_some_iff.mp e
  cases e
  refine ⟨H0, F0, ρ, F, As, S, r1, ρ1, S1, R, e1, fun v1 H1 F1 A1 p1 R1 h1 => ?_⟩
  have hr := h1.rb
  have e3 : opIsX b r1.d = some rr := e3
  cases hd : r1.d with
  | ob n =>
    rw [hd] at hr e3
    cases e3
    have hv : v1 = .ref a := hr
    subst hv
    exact ⟨a, C, fs, c, cv, b, rfl, ⟨dd, R1.gs.amb.1, R1.gs.amb.2⟩, T, hcv, hb, (R1.kn fun v H' F' A' p R' h => k v H' F' A' (p1.trans p) R' (h.back p1)).im rfl⟩
  | _ =>
    rw [hd] at e3
    cases e3
/-- isinstance(e, an own class) -/
theorem pd_isX {D : Addr} (T : XqC X.K C) (hb : PySem.W.kitOne X.K (.ref C) (.ref D) = some b) (hg : Gl X "isinstance") (hm : X.mg "isinstance" = none) (hg2 : Gl X tx) (hm2 : X.mg tx = some (.ref D)) (he : PE X e (tE (gX X.K a dd C fs) f))
    (hd : (tx == ("__debug__" : Str)) = false := by decide)
    (h1 : starEach [e, .Name tx p2] X.env = (false, eval e X.env) :: starEach [.Name tx p2] X.env := by rfl) (h2 : starEach [.Name tx p2] X.env = (false, eval (.Name tx p2) X.env) :: starEach [] X.env := by rfl) (h3 : (backTo pos (starEach [.Name tx p2] X.env)).any (·.1) = false := by rfl) :
    PE X (.Call (.Name "isinstance" p) [e, .Name tx p2] [] pos) (tE (gX X.K a dd C fs) (eOp1 (opIsX b) f)) := by
  refine PE.mono' (pe_callB call_isX hg hm boot_isinstance (pa_cons he (pa_cons (pe_glob hg2 hm2 (v := .ref D) rfl hd) pa_nil h2) h1) (he := h1) (hpl := h3)) ?_
  exact fun σ H Q q => isx_le T (c := .ref D) (cv := .ref D) (fun u h => h) hb σ H Q q
/-- isinstance(e, a built-in class) -/
theorem pd_isXB {T' : String} (T : XqC X.K C) (hb : PySem.W.kitOne X.K (.ref C) (.type T') = some b) (hg : Gl X "isinstance") (hm : X.mg "isinstance" = none) (hg2 : Gl X tx) (hm2 : X.mg tx = none) (hv2 : bootBuiltins tx = some (.type T')) (he : PE X e (tE (gX X.K a dd C fs) f))
    (hn : tx ≠ "__name__" := by decide) (hd : (tx == ("__debug__" : Str)) = false := by decide)
    (h1 : starEach [e, .Name tx p2] X.env = (false, eval e X.env) :: starEach [.Name tx p2] X.env := by rfl) (h2 : starEach [.Name tx p2] X.env = (false, eval (.Name tx p2) X.env) :: starEach [] X.env := by rfl) (h3 : (backTo pos (starEach [.Name tx p2] X.env)).any (·.1) = false := by rfl) :
    PE X (.Call (.Name "isinstance" p) [e, .Name tx p2] [] pos) (tE (gX X.K a dd C fs) (eOp1 (opIsX b) f)) := by
  refine PE.mono' (pe_callB call_isX hg hm boot_isinstance (pa_cons he (pa_cons (pe_bltn hg2 hm2 hv2 (v := .ty T') rfl hn hd) pa_nil h2) h1) (he := h1) (hpl := h3)) ?_
  exact fun σ H Q q => isx_le T (c := .ty T') (cv := .type T') (fun u h => h) hb σ H Q q
end
end Dv
end
section
set_option maxHeartbeats 4000000
namespace Dv
open PySem PySem.Spec PyProof.Rows L2
variable {Sg : Type}
/-! ### calls of a def that may raise -/
theorem FnX.call {X : Cx} {W : WX} {k : Nat} {f : Addr} {fd : FuncData} {ps ks : List Str} {sp : Sp} (F : FnX X.prog X.w X.K X.mg X.base k f fd ps sp) (tk : Takes X W) (room : Room k X.A) (gu : X.A.guards = some []) {pins : List (Addr × Obj)} {σ : L2.St} {H : Hp} {s : Shared} {Q : VK} {us ws : List Value} {vs : List V} {al : List Value}
    (I : Inv X pins σ H s) (bnd : BindsTo s fd ⟨us, ks.zip ws⟩ (ps.zip al)) (rel : Vals vs al) (want : sp vs H Q (fun c d H' => W c d σ H')) : wpAny (model X.prog X.w) X.A (call (.ref f) us (ks.zip ws)) (EP X pins σ Q) X.xe s := by
  apply wpAny_call
  apply codeAny_mono (F.go X.A X.stack s H _ al vs Q _ room gu I.env0 bnd rel want)
  intro r s2 hr
  match r, hr with
  | .ok (.ret u), hr => exact I.after hr
  | .ok .next, hr => exact False.elim hr
  | .ok .brk, hr => exact False.elim hr
  | .ok .cont, hr => exact False.elim hr
  | .error e, hr => exact tk e s2 (XE.of_call I (fun _ _ _ h => h) hr)
def tClX (n nk : Nat) (sp : Sp) (W : WX) (bdV : List V → List V → List V → Prop) (t tk : TA) : TE := fun σ H Q => t σ H fun vs H1 => tk σ H1 fun zs H2 => vs.length = n ∧ zs.length = nk ∧ ∀ vl, bdV vs zs vl → sp vl H2 Q fun c d H' => W c d σ H'
section
variable {X : Cx} {G : Gd Sg} {e : Expr} {es : List Expr} {pos : Pos} {k n np : Nat} {f : Addr} {fd : FuncData} {ps ks : List Str} {x : Str} {p : Pos} {bd : List D → List D → List D} {W : WX}
theorem pe_clX {t tk : TA} {kws : List Keyword} {sp : Sp} (Fn : FnX X.prog X.w X.K X.mg X.base k f fd ps sp) (tks : Takes X W) (room : Room k X.A) (gu : X.A.guards = some []) (hg : Gl X x) (hm : X.mg x = some (.ref f)) (hk : PySem.W.keepIn X.K (.ref f) = true) (bn : Bn X.K fd ps n ks bd)
    (ha : PA X (e :: es) t) (hkw : PK X kws tk) (hall : (backToKw pos (keywordEach kws X.env)).all (·.1.isSome) = true := by rfl) (hks : (backToKw pos (keywordEach kws X.env)).filterMap (·.1) = ks := by rfl)
    (hdb : (x == ("__debug__" : Str)) = false := by decide) (he : starEach (e :: es) X.env = (false, eval e X.env) :: starEach es X.env := by rfl)
    (hpl : ((backTo pos (starEach (e :: es) X.env)).any (·.1) || (backToKw pos (keywordEach kws X.env)).any (·.1.isNone)) = false := by rfl) :
    PE X (.Call (.Name x p) (e :: es) kws pos) (tClX n ks.length sp W (fun vs zs vl => vl.length = ps.length ∧ ∀ {Sg : Type} (G : Gd Sg) (H : Hp) (F : Addr → Prop) (ds es : List D), Rps G H F ds vs → Rps G H F es zs → Rps G H F (bd ds es) vl) t tk) := by
  constructor
  intro pins s σ H Q I h
  apply wpAny_Call_Name_kw
  apply ld_glob I hg hm _ hdb
  apply PySem.W.callWith_KW (h₀ := X.base) I.ok.mod.kin hk hall _ hpl he
  apply thn (ha.run pos pins s σ H _ I h)
  rintro us s1 ⟨vs, H1, I1, r, q⟩
  apply thn (hkw.run pos pins s1 σ H1 _ I1 q)
  rintro ws s2 ⟨zs, H2, I2, rz, l1, l2, q2⟩
  refine ⟨I2.kIn, ?_⟩
  rw [hks]
  obtain ⟨al, vl, b1, b2, b3, b4⟩ := bn.go s2 us ws vs zs I2.kIn (r.length.symm.trans l1) (rz.length.symm.trans l2) r rz
  exact Fn.call tks room gu I2 b1 b2 (q2 vl ⟨b3, b4⟩)
end
end Dv
end
section
set_option maxHeartbeats 4000000
/-! a hook over what the module's names reach and the interpreter's own table, with one more test -/
namespace He
open PySem PySem.Spec PyProof.Rows L2
def kY (g : Addr → Option Obj) (n : Nat) : PySem.W.Frag := frG g (cStatics :: asD g n)
def obsY (n : Nat) (fa : List Fa) (fn : List DefD) (ex : PySem.W.Frag → Bool) (g : Addr → Option Obj) : AlD × Bool := (obsD fa fn (kY g n), ex (kY g n))
def hookY (n : Nat) (fa : List Fa) (fn : List DefD) (ex : PySem.W.Frag → Bool) : PySem.W.Hook where
  α := AlD × Bool
  obs := fun s => obsY n fa fn ex s.heap.get?
  val := fun _ => (valD fn, true)
  says := fun _ h => ∃ K : PySem.W.Frag, K.In h ∧ SaysD fa fn K ∧ ex K = true
  of := fun _ _ e => ⟨_, frG_in, congrArg (fun z : AlD × Bool => z.1) e, congrArg (fun z : AlD × Bool => z.2) e⟩
  keeps := fun _ _ _ ⟨K, hK, c⟩ k => ⟨K, PySem.W.Frag.In.keeps hK k, c⟩
theorem obsY_eq {n : Nat} {fa : List Fa} {fn : List DefD} {ex : PySem.W.Frag → Bool} {g : Addr → Option Obj} {s : Shared} (h : ∀ a, g a = s.heap.get? a) : obsY n fa fn ex g = (hookY n fa fn ex).obs s := by
  have e : g = s.heap.get? := funext h
  rw [e] <;> rfl
/-- an own class over a built-in exception -/
def xcB (K : PySem.W.Frag) (C : Addr) (nw : String) (tl : List Value) : Bool := (match K.lookup C with
  | some ⟨.type "type", _, .cls cd, sl⟩ => (match cd.mro, sl.toList with
    | .ref C' :: bm, [_, _, _, _, some (.builtin n), _] => C' == C && n == nw && !cd.hasDel && cd.hasDict && PySem.W.excTail tl bm
    | _, _ => false)
  | _ => false) && (eqO (PySem.W.findIn K (.ref C) "__setattr__") (some (some (.builtin "object.__setattr__"))) && (decide (PySem.W.subIn K (.ref C) (.type "BaseException") = some true) && (decide (PySem.W.typeIn K (.ref C) = some (.type "type")) && PySem.W.keepIn K (.ref C))))
theorem xcB_ok {K : PySem.W.Frag} {C : Addr} {nw : String} {tl : List Value} (h : xcB K C nw tl = true) : XcC K C nw tl := by
  obtain ⟨q, h⟩ := ba h
  obtain ⟨h1, h⟩ := ba h
  obtain ⟨h2, h⟩ := ba h
  obtain ⟨h3, h4⟩ := ba h
  refine ⟨?_, eqO_ok h1, of_decide_eq_true h2, of_decide_eq_true h3, h4⟩
  split at q
  · rename_i dd cd sl ho
    split at q
    · rename_i C' bm k0 k1 k2 k3 n k5 hm hs
      simp only [Bool.and_eq_true, beq_iff_eq, Bool.not_eq_true'] at q
      obtain ⟨⟨⟨⟨rfl, rfl⟩, hdel⟩, hdict⟩, ht⟩ := q
      obtain ⟨nm, bs, mro, ns, qn, hd, sn, sub, ab, col, del⟩ := cd
      dsimp only at hm hdel hdict
      subst hm hdel hdict
      have hsl : sl = #[k0, k1, k2, k3, some (.builtin n), k5] := by
        obtain ⟨l⟩ := sl
        simp only at hs
        rw [hs]
      subst hsl
      exact ⟨nm, qn, ns, bs, bm, sn, sub, ab, col, dd, k0, k1, k2, k3, k5, ho, ht⟩
    · cases q
  · cases q
/-- its instances may be asked -/
def xqB (K : PySem.W.Frag) (C : Addr) : Bool := (PySem.W.clsIn K C).isSome && (eqO (PySem.W.findIn K (.ref C) "__getattribute__") (some (some (.builtin "BaseException.__getattribute__"))) && (eqO (PySem.W.findIn K (.ref C) "__getattr__") (some none) &&
  (decide (PySem.W.subIn K (.ref C) (.type "BaseException") = some true) && (eqO (PySem.W.findIn K (.ref C) "__class__") (some (some (.builtin "object.__class__"))) && (eqO (PySem.W.specialIn K (.builtin "object.__class__") "__get__") (some (some (.builtin "getset_descriptor.__get__"))) &&
  (decide (PySem.W.takesIn K (.builtin "object.__class__") = some true) && (decide (PySem.W.mroIn K C (.type "object") = some true) && PySem.W.hasDictIn K C)))))))
theorem xqB_ok {K : PySem.W.Frag} {C : Addr} (h : xqB K C = true) : XqC K C := by
  obtain ⟨h1, h⟩ := ba h
  obtain ⟨h2, h⟩ := ba h
  obtain ⟨h3, h⟩ := ba h
  obtain ⟨h4, h⟩ := ba h
  obtain ⟨h5, h⟩ := ba h
  obtain ⟨h6, h⟩ := ba h
  obtain ⟨h7, h⟩ := ba h
  obtain ⟨h8, h9⟩ := ba h
  exact ⟨h1, eqO_ok h2, eqO_ok h3, of_decide_eq_true h4, eqO_ok h5, eqO_ok h6, of_decide_eq_true h7, of_decide_eq_true h8, h9⟩
/-- an own __init__ with one field f: found, a function, no such name in the class -/
def xiB (K : PySem.W.Frag) (C : Addr) (f : Str) : Bool := eqO (PySem.W.findIn K (.ref C) "__init__") (some (some (.ref (ma K C "__init__")))) && (decide (PySem.W.typeIn K (.ref (ma K C "__init__")) = some (.type "function")) && eqO (PySem.W.findIn K (.ref C) f) (some none))
/-- L.__init__ is the built-in it -/
def xlB (K : PySem.W.Frag) (L : Addr) (it : String) : Bool := PySem.W.readsIn K L (.type "type") && (eqO (PySem.W.specialIn K (.ref L) "__getattribute__") (some (some (.builtin "type.__getattribute__"))) && (match PySem.W.findCls K (.ref L) (.type "type") "__init__" with
  | some (.val v) => decide (v = .builtin it)
  | _ => false))
theorem xlB_ok {K : PySem.W.Frag} {L : Addr} {it : String} (h : xlB K L it = true) : PySem.W.readsIn K L (.type "type") = true ∧ PySem.W.specialIn K (.ref L) "__getattribute__" = some (some (.builtin "type.__getattribute__")) ∧ PySem.W.findCls K (.ref L) (.type "type") "__init__" = some (.val (.builtin it)) := by
  obtain ⟨h1, h⟩ := ba h
  obtain ⟨h2, h3⟩ := ba h
  refine ⟨h1, eqO_ok h2, ?_⟩
  split at h3
  · rename_i v e
    rw [e, of_decide_eq_true h3]
  · cases h3
theorem xiB_ok {K : PySem.W.Frag} {C : Addr} {f : Str} (h : xiB K C f = true) : PySem.W.findIn K (.ref C) "__init__" = some (some (.ref (ma K C "__init__"))) ∧ PySem.W.typeIn K (.ref (ma K C "__init__")) = some (.type "function") ∧ PySem.W.findIn K (.ref C) f = some none := by
  obtain ⟨h1, h⟩ := ba h
  obtain ⟨h2, h3⟩ := ba h
  exact ⟨eqO_ok h1, of_decide_eq_true h2, eqO_ok h3⟩
/-- the module's name x is a tuple of these, and nothing else -/
def tupN (K : PySem.W.Frag) (x : Str) (vs : List Dv) : Bool := match K.lookup (ga K x) with
  | some ⟨.type c, none, .seq its _, _⟩ => decide (c = "tuple") && (decide (its.size ≤ sizeLine) && relAll (vs.map (Dv.v K)) its.toList)
  | _ => false
theorem tupN_kt {K : PySem.W.Frag} {x : Str} {vs : List Dv} (h : tupN K x vs = true) : _root_.Dv.KTup K (ga K x) (vs.map (Dv.v K)) := by
  unfold tupN at h
  split at h
  · rename_i c its n sl q
    obtain ⟨h1, h2⟩ := ba h
    obtain ⟨h3, h4⟩ := ba h2
    exact ⟨_, its, n, q, congrArg Value.type (of_decide_eq_true h1), rfl, of_decide_eq_true h3, relAll_ok h4, rfl⟩
  · cases h
end He
end
section
set_option maxHeartbeats 4000000
/-! as Hk1, with sys.modules in the written part -/
namespace He
open PySem PySem.Spec PyProof.Rows L2
def kZ (g : Addr → Option Obj) (n : Nat) : PySem.W.Frag := frG g (sysModules :: cStatics :: asD g n)
def obsZ (n : Nat) (fa : List Fa) (fn : List DefD) (ex : PySem.W.Frag → Bool) (g : Addr → Option Obj) : AlD × Bool := (obsD fa fn (kZ g n), ex (kZ g n))
def hookZ (n : Nat) (fa : List Fa) (fn : List DefD) (ex : PySem.W.Frag → Bool) : PySem.W.Hook where
  α := AlD × Bool
  obs := fun s => obsZ n fa fn ex s.heap.get?
  val := fun _ => (valD fn, true)
  says := fun _ h => ∃ K : PySem.W.Frag, K.In h ∧ SaysD fa fn K ∧ ex K = true
  of := fun _ _ e => ⟨_, frG_in, congrArg (fun z : AlD × Bool => z.1) e, congrArg (fun z : AlD × Bool => z.2) e⟩
  keeps := fun _ _ _ ⟨K, hK, c⟩ k => ⟨K, PySem.W.Frag.In.keeps hK k, c⟩
theorem obsZ_eq {n : Nat} {fa : List Fa} {fn : List DefD} {ex : PySem.W.Frag → Bool} {g : Addr → Option Obj} {s : Shared} (h : ∀ a, g a = s.heap.get? a) : obsZ n fa fn ex g = (hookZ n fa fn ex).obs s := by
  have e : g = s.heap.get? := funext h
  rw [e] <;> rfl
/-- a built-in class's __init__ -/
def xvB (K : PySem.W.Frag) (T it : String) : Bool := match PySem.W.findCls K (.type T) (.type "type") "__init__" with
  | some (.val v) => decide (v = .builtin it)
  | _ => false
theorem xvB_ok {K : PySem.W.Frag} {T it : String} (h : xvB K T it = true) : PySem.W.findCls K (.type T) (.type "type") "__init__" = some (.val (.builtin it)) := by
  unfold xvB at h
  split at h
  · rename_i v e
    rw [e, of_decide_eq_true h]
  · cases h
end He
end
section
set_option maxHeartbeats 4000000
/-! Wp: what a meaning comes to, backwards: W. f ρ S Q: f is defined at ρ, S, and Q holds of what it gives -/
namespace Dv
open PySem PySem.Spec PyProof.Rows L2
variable {Sg : Type}
structure WO {α : Type} (o : Option α) (Q : α → Prop) : Prop where
  ex : ∃ a, o = some a ∧ Q a
structure WE (f : SE Sg) (ρ : En) (S : Sg) (Q : Rv → En → Sg → Prop) : Prop where
  ex : ∃ r ρ' S', f ρ S = some (r, ρ', S') ∧ Q r ρ' S'
structure WT (f : ST Sg) (ρ : En) (S : Sg) (Q : Bool → En → Sg → Prop) : Prop where
  ex : ∃ r ρ' S', f ρ S = some (r, ρ', S') ∧ Q r ρ' S'
structure WA (f : SA Sg) (ρ : En) (S : Sg) (Q : List D → En → Sg → Prop) : Prop where
  ex : ∃ r ρ' S', f ρ S = some (r, ρ', S') ∧ Q r ρ' S'
structure WS (f : SS Sg) (ρ : En) (S : Sg) (Q : Ct → En → Sg → Prop) : Prop where
  ex : ∃ r ρ' S', f ρ S = some (r, ρ', S') ∧ Q r ρ' S'
structure WI (f : SO Sg) (ρ : En) (S : Sg) (Q : Option Int → En → Sg → Prop) : Prop where
  ex : ∃ r ρ' S', f ρ S = some (r, ρ', S') ∧ Q r ρ' S'
structure WF (m : FD Sg) (ds : List D) (S : Sg) (Q : Rv → Sg → Prop) : Prop where
  ex : ∃ r S', m ds S = some (r, S') ∧ Q r S'
/-- the turns of a comprehension -/
structure WC (t : TD) (c : ST Sg) (el : SE Sg) (own : List Nat) (l : List D) (ρ : En) (S : Sg) (Q : List D → En → Sg → Prop) : Prop where
  ex : ∃ r ρ' S', compD t c el own l ρ S = some (r, ρ', S') ∧ Q r ρ' S'
def kSeq (g : SS Sg) (Q : Ct → En → Sg → Prop) : Ct → En → Sg → Prop
  | .nx, ρ, S => WS g ρ S Q
  | .rt r, ρ, S => Q (.rt r) ρ S
  | .bk, ρ, S => Q .bk ρ S
  | .ct, ρ, S => Q .ct ρ S
def kFor (R : En → Sg → Prop) (Q : Ct → En → Sg → Prop) : Ct → En → Sg → Prop
  | .nx, ρ, S => R ρ S
  | .ct, ρ, S => R ρ S
  | .rt r, ρ, S => Q (.rt r) ρ S
  | .bk, ρ, S => Q .nx ρ S
def kRun (Q : Rv → Sg → Prop) : Ct → En → Sg → Prop
  | .nx, _, S => Q (.im .non) S
  | .rt r, _, S => WO (outR r) fun r' => Q r' S
  | .bk, _, _ => False
  | .ct, _, _ => False
section
variable {ρ : En} {S : Sg}
theorem wo_some {α : Type} {a : α} {Q : α → Prop} (h : Q a) : WO (some a) Q := ⟨a, rfl, h⟩
theorem wo_of {α : Type} {o : Option α} {a : α} {Q : α → Prop} (e : o = some a) (h : Q a) : WO o Q := ⟨a, e, h⟩
theorem WE.mono {f : SE Sg} {Q Q' : Rv → En → Sg → Prop} (h : WE f ρ S Q) (i : ∀ r ρ S, Q r ρ S → Q' r ρ S) : WE f ρ S Q' := by obtain ⟨r, ρ', S', e, q⟩ := h; exact ⟨r, ρ', S', e, i _ _ _ q⟩
theorem WS.mono {f : SS Sg} {Q Q' : Ct → En → Sg → Prop} (h : WS f ρ S Q) (i : ∀ r ρ S, Q r ρ S → Q' r ρ S) : WS f ρ S Q' := by obtain ⟨r, ρ', S', e, q⟩ := h; exact ⟨r, ρ', S', e, i _ _ _ q⟩
theorem WF.mono {m : FD Sg} {ds : List D} {Q Q' : Rv → Sg → Prop} (h : WF m ds S Q) (i : ∀ r S, Q r S → Q' r S) : WF m ds S Q' := by obtain ⟨r, S', e, q⟩ := h; exact ⟨r, S', e, i _ _ q⟩
theorem WF.of {m : FD Sg} {ds : List D} {r : Rv} {S' : Sg} {Q : Rv → Sg → Prop} (e : m ds S = some (r, S')) (h : Q r S') : WF m ds S Q := ⟨r, S', e, h⟩
/-! expressions -/
section
variable {Q : Rv → En → Sg → Prop} {i : Nat} {d : D} {f g h' : SE Sg} {op op' : D → D → Option Rv}
theorem we_C (h : Q (.im d) ρ S) : WE (eC d) ρ S Q := ⟨_, _, _, rfl, h⟩
theorem we_var (e : ρ[i]? = some (.im d)) (h : Q (.im d) ρ S) : WE (eVar i) ρ S Q := ⟨_, _, _, by unfold eVar; rw [e], h⟩
theorem we_varO (e : ρ[i]? = some (.ow d)) (h : Q (.im d) (ρ.set i (.im d)) S) : WE (eVar i) ρ S Q := ⟨_, _, _, by unfold eVar; rw [e], h⟩
theorem we_br (e : ρ[i]? = some (.im d)) (h : Q (.im d) ρ S) : WE (eBr i) ρ S Q := ⟨_, _, _, by unfold eBr; rw [e], h⟩
theorem we_brO (e : ρ[i]? = some (.ow d)) (h : Q (.br d) ρ S) : WE (eBr i) ρ S Q := ⟨_, _, _, by unfold eBr; rw [e], h⟩
theorem we_mv (e : ρ[i]? = some (.im d)) (h : Q (.im d) ρ S) : WE (eMv i) ρ S Q := ⟨_, _, _, by unfold eMv; rw [e], h⟩
theorem we_mvO (e : ρ[i]? = some (.ow d)) (h : Q (.nw d) (ρ.set i .non) S) : WE (eMv i) ρ S Q := ⟨_, _, _, by unfold eMv; rw [e], h⟩
theorem we_op1 {op : D → Option Rv} (h : WE f ρ S fun r ρ1 S1 => WO (op r.d) fun r' => Q r' ρ1 S1) : WE (eOp1 op f) ρ S Q := by
  obtain ⟨r, ρ1, S1, e, r', e', q⟩ := h
  exact ⟨r', ρ1, S1, by unfold eOp1; rw [e]; show (op r.d).bind _ = _; rw [e']; rfl, q⟩
theorem we_op2 (h : WE f ρ S fun r1 ρ1 S1 => WE g ρ1 S1 fun r2 ρ2 S2 => WO (op r1.d r2.d) fun r => Q r ρ2 S2) : WE (eOp2 op f g) ρ S Q := by
  obtain ⟨r, ρ1, S1, e, r2, ρ2, S2, e2, r', e', q⟩ := h
  exact ⟨r', ρ2, S2, by unfold eOp2; rw [e]; show (g ρ1 S1).bind _ = _; rw [e2]; show (op r.d r2.d).bind _ = _; rw [e']; rfl, q⟩
theorem we_opN {op : List D → Option Rv} {a : SA Sg} (h : WA a ρ S fun l ρ1 S1 => WO (op l) fun r => Q r ρ1 S1) : WE (eOpN op a) ρ S Q := by
  obtain ⟨r, ρ1, S1, e, r', e', q⟩ := h
  exact ⟨r', ρ1, S1, by unfold eOpN; rw [e]; show (op r).bind _ = _; rw [e']; rfl, q⟩
theorem wo_frz {d : D} {Q : D → Prop} (h : Q d) : WO (frz (.im d)) Q := ⟨d, rfl, h⟩
theorem wo_frzN {d : D} {Q : D → Prop} (h : Q d) : WO (frz (.nw d)) Q := ⟨d, rfl, h⟩
theorem wo_frzB {d : D} {Q : D → Prop} (p : pureD d = true) (h : Q d) : WO (frz (.br d)) Q := ⟨d, by show (if pureD d = true then _ else _) = _; rw [if_pos p], h⟩
section
variable {Q : List D → En → Sg → Prop} {a : SA Sg}
theorem wa_nil (h : Q [] ρ S) : WA aNil ρ S Q := ⟨_, _, _, rfl, h⟩
theorem wa_B (h : WE f ρ S fun r ρ1 S1 => WA a ρ1 S1 fun l ρ2 S2 => Q (r.d :: l) ρ2 S2) : WA (aB f a) ρ S Q := by
  obtain ⟨r, ρ1, S1, e, l, ρ2, S2, e2, q⟩ := h
  exact ⟨r.d :: l, ρ2, S2, by unfold aB; rw [e]; show (a ρ1 S1).bind _ = _; rw [e2]; rfl, q⟩
theorem wa_F (h : WE f ρ S fun r ρ1 S1 => WO (frz r) fun d => WA a ρ1 S1 fun l ρ2 S2 => Q (d :: l) ρ2 S2) : WA (aF f a) ρ S Q := by
  obtain ⟨r, ρ1, S1, e, d, e', l, ρ2, S2, e2, q⟩ := h
  exact ⟨d :: l, ρ2, S2, by unfold aF; rw [e]; show (frz r).bind _ = _; rw [e']; show (a ρ1 S1).bind _ = _; rw [e2]; rfl, q⟩
end
theorem small {l : List D} (h : Nat.ble l.length 1000 = true) : l.length ≤ sizeLine := Nat.le_trans (Nat.le_of_ble_eq_true h) (by decide)
theorem we_lst {a : SA Sg} (h : WA a ρ S fun l ρ1 S1 => Nat.ble l.length 1000 = true ∧ Q (.nw (.lst l)) ρ1 S1) : WE (eLst a) ρ S Q := by
  obtain ⟨r, ρ1, S1, e, hl, q⟩ := h
  exact ⟨_, ρ1, S1, by unfold eLst; rw [e]; show (if r.length ≤ sizeLine then _ else _) = _; rw [if_pos (small hl)], q⟩
theorem we_tup {a : SA Sg} (h : WA a ρ S fun l ρ1 S1 => Nat.ble l.length 1000 = true ∧ Q (.im (.tup false l)) ρ1 S1) : WE (eTup a) ρ S Q := by
  obtain ⟨r, ρ1, S1, e, hl, q⟩ := h
  exact ⟨_, ρ1, S1, by unfold eTup; rw [e]; show (if r.length ≤ sizeLine then _ else _) = _; rw [if_pos (small hl)], q⟩
theorem we_tupX {a : SA Sg} (h : WA a ρ S fun l ρ1 S1 => Nat.ble l.length 1000 = true ∧ Q (.im (.tup true l)) ρ1 S1) : WE (eTupX a) ρ S Q := by
  obtain ⟨r, ρ1, S1, e, hl, q⟩ := h
  exact ⟨_, ρ1, S1, by unfold eTupX; rw [e]; show (if r.length ≤ sizeLine then _ else _) = _; rw [if_pos (small hl)], q⟩
theorem we_dnew (h : Q (.nw (.dct [] [])) ρ S) : WE eDNew ρ S Q := ⟨_, _, _, rfl, h⟩
theorem we_disp {ks : List Str} {a : SA Sg} (h : WA a ρ S fun l ρ1 S1 => l.length = ks.length ∧ Q (.nw (.dct (ks.map .inr) l)) ρ1 S1) : WE (eDisp ks a) ρ S Q := by
  obtain ⟨r, ρ1, S1, e, hl, q⟩ := h
  exact ⟨_, ρ1, S1, by unfold eDisp; rw [e]; show (if r.length = ks.length then _ else _) = _; rw [if_pos hl], q⟩
theorem we_and (h : WE f ρ S fun r ρ1 S1 => ∃ b, r.d = .bl b ∧ (b = true → WE g ρ1 S1 Q) ∧ (b = false → Q (.im (.bl false)) ρ1 S1)) : WE (eAnd f g) ρ S Q := by
  obtain ⟨r, ρ1, S1, e, b, hb, q1, q2⟩ := h
  cases b with
  | true =>
    obtain ⟨r2, ρ2, S2, e2, q⟩ := q1 rfl
    exact ⟨r2, ρ2, S2, by unfold eAnd; rw [e]; show (match r.d with | .bl true => g ρ1 S1 | .bl false => _ | _ => none) = _; rw [hb]; exact e2, q⟩
  | false =>
    exact ⟨_, ρ1, S1, by unfold eAnd; rw [e]; show (match r.d with | .bl true => g ρ1 S1 | .bl false => some (Rv.im (.bl false), ρ1, S1) | _ => none) = _; rw [hb], q2 rfl⟩
theorem we_not (h : WE f ρ S fun r ρ1 S1 => ∃ b, r.d = .bl b ∧ Q (.im (.bl (!b))) ρ1 S1) : WE (eNot f) ρ S Q := by
  obtain ⟨r, ρ1, S1, e, b, hb, q⟩ := h
  exact ⟨_, ρ1, S1, by unfold eNot; rw [e]; show (match r.d with | .bl c => some (Rv.im (.bl (!c)), ρ1, S1) | _ => none) = _; rw [hb], q⟩
theorem we_if {t : ST Sg} (h : WT t ρ S fun b ρ1 S1 => (b = true → WE f ρ1 S1 Q) ∧ (b = false → WE g ρ1 S1 Q)) : WE (eIf t f g) ρ S Q := by
  obtain ⟨b, ρ1, S1, e, q1, q2⟩ := h
  cases b with
  | true =>
    obtain ⟨r2, ρ2, S2, e2, q⟩ := q1 rfl
    exact ⟨r2, ρ2, S2, by unfold eIf; rw [e]; exact e2, q⟩
  | false =>
    obtain ⟨r2, ρ2, S2, e2, q⟩ := q2 rfl
    exact ⟨r2, ρ2, S2, by unfold eIf; rw [e]; exact e2, q⟩
theorem we_chain (h : WE f ρ S fun r1 ρ1 S1 => WE g ρ1 S1 fun r2 ρ2 S2 => WO (op r1.d r2.d) fun r => ∃ b, r.d = .bl b ∧ (b = true → WE h' ρ2 S2 fun r3 ρ3 S3 => WO (op' r2.d r3.d) fun r' => Q r' ρ3 S3) ∧ (b = false → Q (.im (.bl false)) ρ2 S2)) : WE (eChain op op' f g h') ρ S Q := by
  obtain ⟨r1, ρ1, S1, e, r2, ρ2, S2, e2, r, er, b, hb, q1, q2⟩ := h
  cases b with
  | true =>
    obtain ⟨r3, ρ3, S3, e3, r', e', q⟩ := q1 rfl
    exact ⟨r', ρ3, S3, by
      unfold eChain; rw [e]; show (g ρ1 S1).bind _ = _; rw [e2]; show (op r1.d r2.d).bind _ = _; rw [er]
      show (match r.d with | .bl true => (h' ρ2 S2).bind _ | .bl false => _ | _ => none) = _
      rw [hb]; show (h' ρ2 S2).bind _ = _; rw [e3]; show (op' r2.d r3.d).bind _ = _; rw [e']; rfl, q⟩
  | false =>
    exact ⟨_, ρ2, S2, by
      unfold eChain; rw [e]; show (g ρ1 S1).bind _ = _; rw [e2]; show (op r1.d r2.d).bind _ = _; rw [er]
      show (match r.d with | .bl true => (h' ρ2 S2).bind _ | .bl false => some (Rv.im (.bl false), ρ2, S2) | _ => none) = _
      rw [hb], q2 rfl⟩
theorem we_call {n nk : Nat} {bd : List D → List D → List D} {m : FD Sg} {a b : SA Sg} (h : WA a ρ S fun l ρ1 S1 => WA b ρ1 S1 fun k ρ2 S2 => l.length = n ∧ k.length = nk ∧ WF m (bd l k) S2 fun r S3 => Q r ρ2 S3) : WE (eCall n nk bd m a b) ρ S Q := by
  obtain ⟨l, ρ1, S1, e, k, ρ2, S2, e2, h1, h2, r, S3, em, q⟩ := h
  exact ⟨r, ρ2, S3, by
    unfold eCall; rw [e]; show (b ρ1 S1).bind _ = _; rw [e2]
    show (if l.length = n ∧ k.length = nk then _ else _) = _
    rw [if_pos ⟨h1, h2⟩, em]; rfl, q⟩
theorem we_comp {a : SA Sg} {t : TD} {c : ST Sg} {own : List Nat} (h : WA a ρ S fun l ρ1 S1 => WC t c f own l (wipeE ρ1 own) S1 fun ys ρ3 S2 => ys.length ≤ sizeLine ∧ ρ3.length = ρ1.length ∧ Q (.nw (.lst ys)) (backE ρ1 ρ3 own) S2) : WE (eComp a t c f own) ρ S Q := by
  obtain ⟨l, ρ1, S1, e, ys, ρ3, S2, e2, h1, h2, q⟩ := h
  exact ⟨_, _, S2, by
    unfold eComp; rw [e]; show (compD t c f own l (wipeE ρ1 own) S1).bind _ = _; rw [e2]
    show (if ys.length ≤ sizeLine ∧ ρ3.length = ρ1.length then _ else _) = _
    rw [if_pos ⟨h1, h2⟩], q⟩
theorem we_cut {lo hi : SO Sg} (h : WE f ρ S fun r ρ1 S1 => WI lo ρ1 S1 fun o ρ2 S2 => WI hi ρ2 S2 fun o' ρ3 S3 => WO (opCut r.d o o') fun r' => Q r' ρ3 S3) : WE (eCut f lo hi) ρ S Q := by
  obtain ⟨r, ρ1, S1, e, o, ρ2, S2, e2, o', ρ3, S3, e3, r', e', q⟩ := h
  exact ⟨r', ρ3, S3, by unfold eCut; rw [e]; show (lo ρ1 S1).bind _ = _; rw [e2]; show (hi ρ2 S2).bind _ = _; rw [e3]; show (opCut r.d o o').bind _ = _; rw [e']; rfl, q⟩
theorem wi_none {Q : Option Int → En → Sg → Prop} (h : Q none ρ S) : WI oNone ρ S Q := ⟨_, _, _, rfl, h⟩
theorem wi_some {Q : Option Int → En → Sg → Prop} (h : WE f ρ S fun r ρ1 S1 => ∃ i, r.d = .int i ∧ Q (some i) ρ1 S1) : WI (oSome f) ρ S Q := by
  obtain ⟨r, ρ1, S1, e, i, hi, q⟩ := h
  exact ⟨_, ρ1, S1, by unfold oSome; rw [e]; show (match r.d with | .int i => some (some i, ρ1, S1) | _ => none) = _; rw [hi], q⟩
end
/-! tests -/
section
variable {Q : Bool → En → Sg → Prop} {t u : ST Sg} {f : SE Sg}
theorem wt_tst (h : WE f ρ S fun r ρ1 S1 => ∃ b, r.d = .bl b ∧ Q b ρ1 S1) : WT (tst f) ρ S Q := by
  obtain ⟨r, ρ1, S1, e, b, hb, q⟩ := h
  exact ⟨b, ρ1, S1, by unfold tst; rw [e]; show (match r.d with | .bl b => some (b, ρ1, S1) | _ => none) = _; rw [hb], q⟩
theorem wt_not (h : WT t ρ S fun b ρ1 S1 => Q (!b) ρ1 S1) : WT (tNot' t) ρ S Q := by
  obtain ⟨b, ρ1, S1, e, q⟩ := h
  exact ⟨_, ρ1, S1, by unfold tNot'; rw [e]; rfl, q⟩
theorem wt_and (h : WT t ρ S fun b ρ1 S1 => (b = true → WT u ρ1 S1 Q) ∧ (b = false → Q false ρ1 S1)) : WT (tAnd' t u) ρ S Q := by
  obtain ⟨b, ρ1, S1, e, q1, q2⟩ := h
  cases b with
  | true =>
    obtain ⟨b2, ρ2, S2, e2, q⟩ := q1 rfl
    exact ⟨b2, ρ2, S2, by unfold tAnd'; rw [e]; exact e2, q⟩
  | false => exact ⟨false, ρ1, S1, by unfold tAnd'; rw [e]; rfl, q2 rfl⟩
theorem wt_or (h : WT t ρ S fun b ρ1 S1 => (b = false → WT u ρ1 S1 Q) ∧ (b = true → Q true ρ1 S1)) : WT (tOr' t u) ρ S Q := by
  obtain ⟨b, ρ1, S1, e, q1, q2⟩ := h
  cases b with
  | false =>
    obtain ⟨b2, ρ2, S2, e2, q⟩ := q1 rfl
    exact ⟨b2, ρ2, S2, by unfold tOr'; rw [e]; exact e2, q⟩
  | true => exact ⟨true, ρ1, S1, by unfold tOr'; rw [e]; rfl, q2 rfl⟩
theorem wt_yes (h : Q true ρ S) : WT cYes ρ S Q := ⟨_, _, _, rfl, h⟩
end
/-! statements -/
section
variable {Q : Ct → En → Sg → Prop} {f g : SS Sg} {e : SE Sg} {i j : Nat} {d : D}
theorem ws_nx (h : Q .nx ρ S) : WS sNx ρ S Q := ⟨_, _, _, rfl, h⟩
theorem ws_seq (h : WS f ρ S (kSeq g Q)) : WS (sSeq f g) ρ S Q := by
  obtain ⟨c, ρ1, S1, e, q⟩ := h
  cases c with
  | nx =>
    obtain ⟨c2, ρ2, S2, e2, q⟩ := q
    exact ⟨c2, ρ2, S2, by unfold sSeq; rw [e]; exact e2, q⟩
  | rt r => exact ⟨.rt r, ρ1, S1, by unfold sSeq; rw [e]; rfl, q⟩
  | bk => exact ⟨.bk, ρ1, S1, by unfold sSeq; rw [e]; rfl, q⟩
  | ct => exact ⟨.ct, ρ1, S1, by unfold sSeq; rw [e]; rfl, q⟩
theorem ks_nx (h : WS g ρ S Q) : kSeq g Q .nx ρ S := h
theorem ks_rt {r : Rv} (h : Q (.rt r) ρ S) : kSeq g Q (.rt r) ρ S := h
theorem ws_set (h : WE e ρ S fun r ρ1 S1 => WO (slOf r) fun sl => Nat.ble (i + 1) ρ1.length = true ∧ Q .nx (ρ1.set i sl) S1) : WS (sSet i e) ρ S Q := by
  obtain ⟨r, ρ1, S1, e1, sl, es, hi, q⟩ := h
  have hi : i < ρ1.length := Nat.le_of_ble_eq_true hi
  exact ⟨_, _, S1, by unfold sSet; rw [e1]; show (slOf r).bind _ = _; rw [es]; show (if i < ρ1.length then _ else _) = _; rw [if_pos hi], q⟩
theorem wo_sl {Q : Sl → Prop} (h : Q (.im d)) : WO (slOf (.im d)) Q := ⟨_, rfl, h⟩
theorem wo_slN {Q : Sl → Prop} (h : Q (.ow d)) : WO (slOf (.nw d)) Q := ⟨_, rfl, h⟩
theorem wo_slB {Q : Sl → Prop} (p : pureD d = true) (h : Q (.im d)) : WO (slOf (.br d)) Q := ⟨_, by show (if pureD d = true then _ else _) = _; rw [if_pos p], h⟩
theorem ws_ret (h : WE e ρ S fun r ρ1 S1 => Q (.rt r) ρ1 S1) : WS (sRet e) ρ S Q := by
  obtain ⟨r, ρ1, S1, e1, q⟩ := h
  exact ⟨_, _, S1, by unfold sRet; rw [e1]; rfl, q⟩
theorem ws_if {t : ST Sg} (h : WT t ρ S fun b ρ1 S1 => (b = true → WS f ρ1 S1 Q) ∧ (b = false → WS g ρ1 S1 Q)) : WS (sIf t f g) ρ S Q := by
  obtain ⟨b, ρ1, S1, e, q1, q2⟩ := h
  cases b with
  | true =>
    obtain ⟨r2, ρ2, S2, e2, q⟩ := q1 rfl
    exact ⟨r2, ρ2, S2, by unfold sIf; rw [e]; exact e2, q⟩
  | false =>
    obtain ⟨r2, ρ2, S2, e2, q⟩ := q2 rfl
    exact ⟨r2, ρ2, S2, by unfold sIf; rw [e]; exact e2, q⟩
theorem ws_par {a : SA Sg} (h : WA a ρ S fun l ρ1 S1 => ∃ d d', l = [d, d'] ∧ Nat.ble (i + 1) ρ1.length = true ∧ Nat.ble (j + 1) ρ1.length = true ∧ Q .nx ((ρ1.set i (.im d)).set j (.im d')) S1) : WS (sPar i j a) ρ S Q := by
  obtain ⟨l, ρ1, S1, e, d, d', rfl, hi, hj, q⟩ := h
  have hi : i < ρ1.length := Nat.le_of_ble_eq_true hi
  have hj : j < ρ1.length := Nat.le_of_ble_eq_true hj
  exact ⟨_, _, S1, by unfold sPar; rw [e]; show (if i < ρ1.length ∧ j < ρ1.length then _ else _) = _; rw [if_pos ⟨hi, hj⟩], q⟩
theorem ws_frzO (e : ρ[i]? = some (.ow d)) (h : WS f (ρ.set i (.im d)) S Q) : WS (sFrz i f) ρ S Q := by
  obtain ⟨r2, ρ2, S2, e2, q⟩ := h
  exact ⟨r2, ρ2, S2, by unfold sFrz; rw [e]; exact e2, q⟩
theorem ws_for {a : SA Sg} {t : TD} (h : WA a ρ S fun l ρ1 S1 => WS (forD (sBody t f) l) ρ1 S1 Q) : WS (sFor a t f) ρ S Q := by
  obtain ⟨l, ρ1, S1, e, r2, ρ2, S2, e2, q⟩ := h
  exact ⟨r2, ρ2, S2, by unfold sFor; rw [e]; exact e2, q⟩
theorem wl_nil {b : D → SS Sg} (h : Q .nx ρ S) : WS (forD b []) ρ S Q := ⟨_, _, _, rfl, h⟩
theorem wl_cons {b : D → SS Sg} {l : List D} (h : WS (b d) ρ S (kFor (fun ρ1 S1 => WS (forD b l) ρ1 S1 Q) Q)) : WS (forD b (d :: l)) ρ S Q := by
  obtain ⟨c, ρ1, S1, e, q⟩ := h
  cases c with
  | nx =>
    obtain ⟨c2, ρ2, S2, e2, q⟩ := q
    exact ⟨c2, ρ2, S2, by show (b d ρ S).bind _ = _; rw [e]; exact e2, q⟩
  | ct =>
    obtain ⟨c2, ρ2, S2, e2, q⟩ := q
    exact ⟨c2, ρ2, S2, by show (b d ρ S).bind _ = _; rw [e]; exact e2, q⟩
  | rt r => exact ⟨.rt r, ρ1, S1, by show (b d ρ S).bind _ = _; rw [e]; rfl, q⟩
  | bk => exact ⟨.nx, ρ1, S1, by show (b d ρ S).bind _ = _; rw [e]; rfl, q⟩
theorem wl_body {t : TD} {ρ1 : En} (e : t d ρ = some ρ1) (h : WS f ρ1 S Q) : WS (sBody t f d) ρ S Q := by
  obtain ⟨r2, ρ2, S2, e2, q⟩ := h
  exact ⟨r2, ρ2, S2, by unfold sBody; rw [e]; exact e2, q⟩
/-- a loop by its invariant: of what is left, the slots, the state -/
theorem wl_inv {b : D → SS Sg} (J : List D → En → Sg → Prop) (step : ∀ d l ρ S, J (d :: l) ρ S → WS (b d) ρ S (kFor (J l) Q)) (fin : ∀ ρ S, J [] ρ S → Q .nx ρ S) : ∀ {l : List D} {ρ : En} {S : Sg}, J l ρ S → WS (forD b l) ρ S Q
  | [], ρ, S, h => wl_nil (fin ρ S h)
  | d :: l, ρ, S, h => wl_cons ((step d l ρ S h).mono fun c ρ1 S1 q => by
    cases c with
    | nx => exact wl_inv J step fin (l := l) q
    | ct => exact wl_inv J step fin (l := l) q
    | rt r => exact q
    | bk => exact q)
theorem kf_nx {R : En → Sg → Prop} (h : R ρ S) : kFor R Q .nx ρ S := h
theorem kf_ct {R : En → Sg → Prop} (h : R ρ S) : kFor R Q .ct ρ S := h
theorem kf_rt {R : En → Sg → Prop} {r : Rv} (h : Q (.rt r) ρ S) : kFor R Q (.rt r) ρ S := h
end
/-! comprehensions -/
section
variable {t : TD} {c : ST Sg} {el : SE Sg} {own : List Nat} {Q : List D → En → Sg → Prop} {d : D} {l : List D}
theorem wc_nil (h : Q [] ρ S) : WC t c el own [] ρ S Q := ⟨_, _, _, rfl, h⟩
theorem wc_cons {ρ1 : En} (e : t d ρ = some ρ1) (h : WT c ρ1 S fun b ρ2 S2 => (b = true → WE el ρ2 S2 fun r ρ3 S3 => WO (frz r) fun y => WC t c el own l (wipeE ρ3 own) S3 fun ys ρ4 S4 => Q (y :: ys) ρ4 S4) ∧ (b = false → WC t c el own l (wipeE ρ2 own) S2 Q)) : WC t c el own (d :: l) ρ S Q := by
  obtain ⟨b, ρ2, S2, e2, q1, q2⟩ := h
  cases b with
  | true =>
    obtain ⟨r, ρ3, S3, e3, y, ey, ys, ρ4, S4, e4, q⟩ := q1 rfl
    refine ⟨y :: ys, ρ4, S4, ?_, q⟩
    show (t d ρ).bind _ = _
    rw [e]; show (c ρ1 S).bind _ = _
    rw [e2]; show (el ρ2 S2).bind _ = _
    rw [e3]; show (frz r).bind _ = _
    rw [ey]; show (compD t c el own l (wipeE ρ3 own) S3).bind _ = _
    rw [e4]; rfl
  | false =>
    obtain ⟨ys, ρ4, S4, e4, q⟩ := q2 rfl
    refine ⟨ys, ρ4, S4, ?_, q⟩
    show (t d ρ).bind _ = _
    rw [e]; show (c ρ1 S).bind _ = _
    rw [e2]; exact e4
/-- by an invariant: of what is made, what is left, the slots, the state -/
theorem wc_inv (J : List D → List D → En → Sg → Prop) (step : ∀ ys d l ρ S, J ys (d :: l) ρ S → ∃ ρ1, t d ρ = some ρ1 ∧ WT c ρ1 S fun b ρ2 S2 => (b = true → WE el ρ2 S2 fun r ρ3 S3 => WO (frz r) fun y => J (ys ++ [y]) l (wipeE ρ3 own) S3) ∧ (b = false → J ys l (wipeE ρ2 own) S2)) :
    ∀ {l zs : List D} {ρ : En} {S : Sg} {Q : List D → En → Sg → Prop}, J zs l ρ S → (∀ ys ρ S, J (zs ++ ys) [] ρ S → Q ys ρ S) → WC t c el own l ρ S Q
  | [], zs, ρ, S, Q, h, fin => wc_nil (fin [] ρ S (by rw [List.append_nil]; exact h))
  | d :: l, zs, ρ, S, Q, h, fin => by
    obtain ⟨ρ1, e1, b, ρ2, S2, e2, q1, q2⟩ := step zs d l ρ S h
    refine wc_cons e1 ⟨b, ρ2, S2, e2, fun hb => ?_, fun hb => ?_⟩
    · obtain ⟨r, ρ3, S3, e3, y, ey, q⟩ := q1 hb
      refine ⟨r, ρ3, S3, e3, y, ey, ?_⟩
      exact wc_inv J step (l := l) (zs := zs ++ [y]) (Q := fun ys ρ4 S4 => Q (y :: ys) ρ4 S4) q (fun ys ρ S hh => fin (y :: ys) ρ S (by rw [List.append_assoc] at hh; exact hh))
    · exact wc_inv J step (l := l) (q2 hb) fin
end
/-! what is walked -/
section
variable {Q : List D → En → Sg → Prop} {f : SE Sg} {a : SA Sg} {i : Nat}
theorem wa_R1 (h : WA a ρ S fun l ρ1 S1 => ∃ j : Int, l = [.int j] ∧ (-(2 ^ 62) ≤ j ∧ j < 2 ^ 62) ∧ Q (rangeD 0 j.toNat) ρ1 S1) : WA (iR1 a) ρ S Q := by
  obtain ⟨l, ρ1, S1, e, j, rfl, hj, q⟩ := h
  exact ⟨_, ρ1, S1, by unfold iR1; rw [e]; show (if -(2 ^ 62) ≤ j ∧ j < 2 ^ 62 then _ else _) = _; rw [if_pos hj], q⟩
theorem wa_lst (h : WE f ρ S fun r ρ1 S1 => WO (frz r) fun d => ∃ l, d = .lst l ∧ Q l ρ1 S1) : WA (iLst f) ρ S Q := by
  obtain ⟨r, ρ1, S1, e, d, ed, l, rfl, q⟩ := h
  exact ⟨l, ρ1, S1, by unfold iLst; rw [e]; show (frz r).bind _ = _; rw [ed]; rfl, q⟩
theorem wa_str (h : WE f ρ S fun r ρ1 S1 => ∃ x, r.d = .str x ∧ Q (signsD x) ρ1 S1) : WA (iStrD f) ρ S Q := by
  obtain ⟨r, ρ1, S1, e, x, hx, q⟩ := h
  exact ⟨_, ρ1, S1, by unfold iStrD; rw [e]; show (match r.d with | .str x => some (signsD x, ρ1, S1) | _ => none) = _; rw [hx], q⟩
theorem wa_zipL (h : WA a ρ S fun l ρ1 S1 => ∃ u v, l = [.lst u, .lst v] ∧ Q (zipD u v) ρ1 S1) : WA (iZipLD a) ρ S Q := by
  obtain ⟨l, ρ1, S1, e, u, v, rfl, q⟩ := h
  exact ⟨_, ρ1, S1, by unfold iZipLD; rw [e]; rfl, q⟩
theorem wa_key {ks : List Key} {l : List D} (e : ρ[i]? = some (.im (.dct ks l))) (h : Q (ks.map kD) ρ S) : WA (iKey i) ρ S Q := ⟨_, _, _, by unfold iKey; rw [e], h⟩
end
/-! defs -/
theorem wf_run {n : Nat} {f : SS Sg} {ds : List D} {Q : Rv → Sg → Prop} (h : WS f (enOf n ds) S (kRun Q)) : WF (runB n f) ds S Q := by
  obtain ⟨c, ρ1, S1, e, q⟩ := h
  cases c with
  | nx => exact ⟨_, S1, by unfold runB; rw [e]; rfl, q⟩
  | rt r =>
    obtain ⟨r', er, q⟩ := q
    exact ⟨r', S1, by unfold runB; rw [e]; show (outR r).bind _ = _; rw [er]; rfl, q⟩
  | bk => exact q.elim
  | ct => exact q.elim
theorem kr_nx {Q : Rv → Sg → Prop} (h : Q (.im .non) S) : kRun Q .nx ρ S := h
theorem kr_im {Q : Rv → Sg → Prop} {d : D} (h : Q (.im d) S) : kRun Q (.rt (.im d)) ρ S := ⟨_, rfl, h⟩
theorem kr_nw {Q : Rv → Sg → Prop} {d : D} (h : Q (.nw d) S) : kRun Q (.rt (.nw d)) ρ S := ⟨_, rfl, h⟩
theorem kr_br {Q : Rv → Sg → Prop} {d : D} (p : pureD d = true) (h : Q (.im d) S) : kRun Q (.rt (.br d)) ρ S := ⟨.im d, by show (if pureD d = true then _ else _) = _; rw [if_pos p], h⟩
end
end Dv
end
section
set_option maxHeartbeats 4000000
namespace Dv
open PySem PySem.Spec PyProof.Rows L2
variable {Sg : Type} {Q : Rv → Prop} {i j : Int} {d e : D} {l m : List D} {x y : Str}
theorem d_im (d : D) : (Rv.im d).d = d := rfl
theorem d_nw (d : D) : (Rv.nw d).d = d := rfl
theorem d_br (d : D) : (Rv.br d).d = d := rfl
theorem wo_add (h : Q (.im (.int (i + j)))) : WO (opAdd (.int i) (.int j)) Q := ⟨_, rfl, h⟩
theorem wo_sub (h : Q (.im (.int (i - j)))) : WO (opSub (.int i) (.int j)) Q := ⟨_, rfl, h⟩
theorem wo_neg (h : Q (.im (.int (-i)))) : WO (opNeg (.int i)) Q := ⟨_, rfl, h⟩
theorem wo_cmp {p : Int → Int → Bool} (h : Q (.im (.bl (p i j)))) : WO (opCmp p (.int i) (.int j)) Q := ⟨_, rfl, h⟩
theorem wo_mod (hj : 0 < j) (h : Q (.im (.int (i % j)))) : WO (opMod (.int i) (.int j)) Q := ⟨_, by show (if cPos i j = true then _ else _) = _; rw [if_pos (show cPos i j = true from decide_eq_true hj)], h⟩
theorem wo_div (hj : 0 < j) (hk : j < 1073741824) (h : Q (.im (.int (i / j)))) : WO (opDiv (.int i) (.int j)) Q := ⟨_, by show (if cDiv i j = true then _ else _) = _; rw [if_pos (show cDiv i j = true from Bool.and_eq_true_iff.mpr ⟨decide_eq_true hj, decide_eq_true hk⟩)], h⟩
theorem wo_mul (hc : cMul i j = true) (h : Q (.im (.int (i * j)))) : WO (opMulX (.int i) (.int j)) Q := ⟨_, by show (if cMul i j = true then _ else _) = _; rw [if_pos hc], h⟩
theorem wo_pow (hc : cPow i j = true) (h : Q (.im (.int (i ^ j.toNat)))) : WO (opPow (.int i) (.int j)) Q := ⟨_, by show (if cPow i j = true then _ else _) = _; rw [if_pos hc], h⟩
theorem wo_addL (hl : l.length + m.length ≤ 1000) (h : Q (.nw (.lst (l ++ m)))) : WO (opAdd (.lst l) (.lst m)) Q := ⟨_, by show (if l.length + m.length ≤ sizeLine then _ else _) = _; rw [if_pos (Nat.le_trans hl (by decide))], h⟩
theorem wo_addS (hl : x.length + y.length ≤ 1000) (h : Q (.im (.str (x ++ y)))) : WO (opAdd (.str x) (.str y)) Q := ⟨_, by show (if x.length + y.length ≤ sizeLine then _ else _) = _; rw [if_pos (Nat.le_trans hl (by decide))], h⟩
theorem wo_len (h : Q (.im (.int l.length))) : WO (opLen [.lst l]) Q := ⟨_, rfl, h⟩
theorem wo_lenT {c : Bool} (h : Q (.im (.int l.length))) : WO (opLen [.tup c l]) Q := ⟨_, rfl, h⟩
theorem wo_lenS (hl : x.length ≤ 1000) (h : Q (.im (.int x.length))) : WO (opLen [.str x]) Q := ⟨_, by show (if x.length ≤ sizeLine then _ else _) = _; rw [if_pos (Nat.le_trans hl (by decide))], h⟩
theorem at_nat {α : Type} {l : List α} {k : Nat} {d : α} (e : l[k]? = some d) : atI l (k : Int) = some d := by
  obtain ⟨hk, _⟩ := List.getElem?_eq_some_iff.mp e
  unfold atI ixN
  rw [if_pos (by omega), if_pos (by omega)]
  show l[((k : Int)).toNat]? = some d
  rw [Int.toNat_natCast, e]
theorem wo_ix {k : Nat} (e : l[k]? = some d) (h : Q (.im d)) : WO (opIx (.lst l) (.int (k : Int))) Q := by
  refine ⟨.im d, ?_, h⟩
  show (atI l (k : Int)).bind _ = _
  rw [at_nat e]
  rfl
/-- one of them -/
theorem wo_ixm {v : Int} (h0 : 0 ≤ v) (h1 : v < l.length) (h : ∀ d ∈ l, Q (.im d)) : WO (opIx (.lst l) (.int v)) Q := by
  obtain ⟨k, rfl⟩ := Int.eq_ofNat_of_zero_le h0
  have hk : k < l.length := by omega
  exact wo_ix (List.getElem?_eq_getElem hk) (h _ (List.getElem_mem hk))
theorem wo_ixS {v : Int} (hl : x.length ≤ 1000) (h0 : 0 ≤ v) (h1 : v < x.cps.toList.length) (h : ∀ c ∈ x.cps.toList, Q (.im (.str ⟨#[c]⟩))) : WO (opIx (.str x) (.int v)) Q := by
  obtain ⟨k, rfl⟩ := Int.eq_ofNat_of_zero_le h0
  have hk : k < x.cps.toList.length := by omega
  refine ⟨_, ?_, h _ (List.getElem_mem hk)⟩
  show (if x.length ≤ sizeLine then (atI x.cps.toList (k : Int)).bind _ else none) = _
  rw [if_pos (Nat.le_trans hl (by decide)), at_nat (List.getElem?_eq_getElem hk)]
  rfl
theorem wo_min (h : Q (.im (.int (if j < i then j else i)))) : WO (opMin [.int i, .int j]) Q := ⟨_, rfl, h⟩
theorem wo_max (h : Q (.im (.int (if j > i then j else i)))) : WO (opMax [.int i, .int j]) Q := ⟨_, rfl, h⟩
theorem wo_eqI {n : Bool} (h : Q (.im (.bl (xor n (decide (i = j)))))) : WO (eqD n (.int i) (.int j)) Q := ⟨_, rfl, h⟩
theorem wo_eqS {n : Bool} (h : Q (.im (.bl (xor n (decide (x = y)))))) : WO (eqD n (.str x) (.str y)) Q := ⟨_, rfl, h⟩
theorem wo_same {n : Bool} (h : Q (.im (.bl (!n)))) : WO (eqD n (.str x) (.str x)) Q := ⟨_, by show some (Rv.im (.bl (xor n (decide (x = x))))) = _; rw [decide_eq_true rfl, Bool.xor_true], h⟩
end Dv
end
section
set_option maxHeartbeats 4000000
namespace Dv
open PySem PySem.Spec PyProof.Rows L2
variable {Sg : Type} {Q : Rv → Prop} {l : List D} {x y : Str}
/-! ### texts -/
theorem joinL_nil : ∀ cs : List Nat, TL.joinL [] (cs.map fun c => [c]) = cs
  | [] => rfl
  | [_] => rfl
  | c :: d :: r => by
    show [c] ++ ([] ++ TL.joinL [] ((d :: r).map fun c => [c])) = _
    rw [joinL_nil (d :: r)]
    rfl
theorem join_signs (cs : List Nat) : (Txt.join "" (cs.map fun c => ⟨#[c]⟩)).cps.toList = cs := by
  rw [TL.join_eq]
  have := TL.tl_join "" (cs.map fun c => ⟨#[c]⟩)
  rw [List.map_map] at this
  have e : (TL.tl ("" : Str)) = [] := by decide +kernel
  rw [e] at this
  exact this.trans (joinL_nil cs)
theorem strs_map : ∀ xs : List Str, strsD (xs.map D.str) = some xs
  | [] => rfl
  | x :: xs => by
    show (strsD (xs.map D.str)).bind _ = _
    rw [strs_map xs]
    rfl
theorem sum_one : ∀ l : List Nat, ((l.map fun c => (⟨#[c]⟩ : Str)).map (·.length)).sum = l.length
  | [] => rfl
  | a :: l => by
    rw [List.map_cons, List.map_cons, List.sum_cons, sum_one l, List.length_cons]
    have : (⟨#[a]⟩ : Str).length = 1 := rfl
    omega
theorem len_cps (x : Str) : x.length = x.cps.toList.length := Array.length_toList.symm
theorem wo_joinC {cs : List Nat} (hl : cs.length ≤ 1000) (h : ∀ x : Str, x.cps.toList = cs → Q (.im (.str x))) : WO (opJoin (.str "") (.lst (cs.map fun c => .str ⟨#[c]⟩))) Q := by
  refine ⟨_, ?_, h _ (join_signs cs)⟩
  have em : (cs.map fun c => D.str ⟨#[c]⟩) = (cs.map fun c => (⟨#[c]⟩ : Str)).map D.str := by rw [List.map_map]; rfl
  show (strsD (cs.map fun c => D.str ⟨#[c]⟩)).bind (fun xs => if (xs.map (·.length)).sum + xs.length * ("" : Str).length ≤ 16777216 then some (Rv.im (.str (Txt.join "" xs))) else none) = _
  rw [em, strs_map]
  show (if ((cs.map fun c => (⟨#[c]⟩ : Str)).map (·.length)).sum + (cs.map fun c => (⟨#[c]⟩ : Str)).length * ("" : Str).length ≤ 16777216 then _ else _) = _
  rw [if_pos]
  rw [sum_one, List.length_map]
  have : ("" : Str).length = 0 := by decide +kernel
  rw [this]
  omega
theorem wo_cutS {lo hi : Option Int} (hl : x.length ≤ 1000) (h : ∀ y : Str, y.length ≤ x.length → (∀ c ∈ y.cps.toList, c ∈ x.cps.toList) → Q (.im (.str y))) : WO (opCut (.str x) lo hi) Q := by
  refine ⟨_, ?_, h (cutS x lo hi) ?_ ?_⟩
  · show (if x.length ≤ sizeLine then _ else _) = _
    rw [if_pos (Nat.le_trans hl (by decide))]
  · rw [len_cps, len_cps]
    unfold cutS
    simp only [List.length_take, List.length_drop]
    omega
  · intro c hc
    unfold cutS at hc
    exact List.mem_of_mem_drop (List.mem_of_mem_take hc)
theorem app_cps (x y : Str) : (x ++ y).cps.toList = x.cps.toList ++ y.cps.toList := Array.toList_append
theorem app_len (x y : Str) : (x ++ y).length = x.length + y.length := by
  rw [len_cps, app_cps, List.length_append, len_cps, len_cps]
theorem fold_rep_mem (a : Array Nat) : ∀ (k : Nat) (acc : Array Nat) (c : Nat), c ∈ ((List.replicate k a).foldl (· ++ ·) acc).toList → c ∈ acc.toList ∨ c ∈ a.toList
  | 0, acc, c, h => .inl h
  | k + 1, acc, c, h => by
    rw [List.replicate_succ, List.foldl_cons] at h
    rcases fold_rep_mem a k _ c h with h | h
    · rw [Array.toList_append] at h
      exact List.mem_append.mp h
    · exact .inr h
theorem wo_mulS {n : Int} (hl : x.length ≤ 1000) (h0 : 0 ≤ n) (h1 : n ≤ 1000) (h : ∀ y : Str, y.length ≤ n.toNat * x.length → (∀ c ∈ y.cps.toList, c ∈ x.cps.toList) → Q (.im (.str y))) : WO (opMulS (.str x) (.int n)) Q := by
  refine ⟨_, ?_, h (repS x n) ?_ ?_⟩
  · show (if x.length ≤ 1000 ∧ 0 ≤ n ∧ n ≤ 1000 then _ else _) = _
    rw [if_pos ⟨hl, h0, h1⟩]
  · unfold repS
    by_cases q : n < 1
    · rw [if_pos q]
      exact Nat.zero_le _
    · rw [if_neg q]
      split
      · have : 1 ≤ n.toNat := by omega
        exact Nat.le_mul_of_pos_left _ this
      · show Array.size _ ≤ _
        rw [fold_rep]
        show 0 + n.toNat * x.cps.size ≤ n.toNat * x.length
        rw [Nat.zero_add]
        exact Nat.le_refl _
  · intro c hc
    unfold repS at hc
    split at hc
    · cases hc
    · split at hc
      · exact hc
      · rcases fold_rep_mem _ _ _ c hc with h | h
        · cases h
        · exact h
/-! ### what is shown -/
theorem reprY_lst {ps : List PyData} (hp : toPys l = some ps) (hk : okR (.list ps) = true) : opReprY [.lst l] = some (.im (.str (PyData.list ps).shown)) := by
  show (toPy (.lst l)).bind (fun p => if okR p = true then some (Rv.im (.str p.shown)) else none) = _
  rw [toPy_lst hp]
  show (if okR (.list ps) = true then _ else _) = _
  rw [if_pos hk]
theorem wo_reprB (bs : List Bool) (hb : bs.length ≤ 1000) (hl : l = bs.map D.bl) (h : Q (.im (.str (PyData.list (bs.map PyData.bool)).shown))) : WO (opReprY [.lst l]) Q := by
  subst hl
  have h1 : toPys (bs.map D.bl) = some (bs.map PyData.bool) := toPys_map fun _ _ => rfl
  have h2 : ShwA 0 ((0 + 1) * (bs.map PyData.bool).length) (bs.map PyData.bool) := ShwA.all fun p hp => by
    obtain ⟨i, hi, rfl⟩ := List.mem_map.mp hp
    exact Shw.bool i
  rw [List.length_map] at h2
  exact ⟨_, reprY_lst h1 (h2.list.okR (by decide) (by omega)), h⟩
theorem wo_reprI (is : List Int) (hb : is.length ≤ 1000) (hi : ∀ i ∈ is, i.natAbs < 10 ^ 12) (hl : l = is.map D.int) (h : Q (.im (.str (PyData.list (is.map PyData.int)).shown))) : WO (opReprY [.lst l]) Q := by
  subst hl
  have h1 : toPys (is.map D.int) = some (is.map PyData.int) := toPys_map fun _ _ => rfl
  have h2 : ShwA 0 ((40 + 1) * (is.map PyData.int).length) (is.map PyData.int) := ShwA.all fun p hp => by
    obtain ⟨i, hm, rfl⟩ := List.mem_map.mp hp
    exact Shw.int (hi i hm)
  rw [List.length_map] at h2
  exact ⟨_, reprY_lst h1 (h2.list.okR (by decide) (by omega)), h⟩
end Dv
end
section
set_option maxHeartbeats 4000000
namespace Dv
open PySem PySem.Spec PyProof.Rows L2
variable {Sg : Type}
/-- a comprehension whose turns change nothing: y of those for which p -/
theorem wc_fm {t : TD} {c : ST Sg} {el : SE Sg} {own : List Nat} {ρ : En} {S : Sg} (p : D → Bool) (y : D → D) : ∀ {l : List D} {Q : List D → En → Sg → Prop}, (∀ d ∈ l, ∃ ρ1, t d ρ = some ρ1 ∧ WT c ρ1 S fun b ρ2 S2 => b = p d ∧ S2 = S ∧ (b = true → WE el ρ2 S2 fun r ρ3 S3 => frz r = some (y d) ∧ wipeE ρ3 own = ρ ∧ S3 = S) ∧ (b = false → wipeE ρ2 own = ρ)) →
    Q ((l.filter p).map y) ρ S → WC t c el own l ρ S Q
  | [], Q, _, h => wc_nil h
  | d :: l, Q, hd, h => by
    obtain ⟨ρ1, e1, b, ρ2, S2, e2, hb, rfl, h1, h2⟩ := hd d List.mem_cons_self
    refine wc_cons e1 ⟨b, ρ2, S2, e2, fun q => ?_, fun q => ?_⟩
    · obtain ⟨r, ρ3, S3, e3, h3, h4, rfl⟩ := h1 q
      refine ⟨r, ρ3, S3, e3, y d, h3, ?_⟩
      rw [h4]
      refine wc_fm p y (fun d' hd' => hd d' (List.mem_cons_of_mem _ hd')) ?_
      rw [List.filter_cons_of_pos (by rw [← hb, q]), List.map_cons] at h
      exact h
    · rw [h2 q]
      refine wc_fm p y (fun d' hd' => hd d' (List.mem_cons_of_mem _ hd')) ?_
      rw [List.filter_cons_of_neg (by rw [← hb, q]; exact Bool.false_ne_true)] at h
      exact h
theorem bls_map {α : Type} (f : α → Bool) : ∀ l : List α, blsD (l.map fun a => .bl (f a)) = some (l.map f)
  | [] => rfl
  | a :: l => by
    show (blsD (l.map fun a => .bl (f a))).bind _ = _
    rw [bls_map f l]
    rfl
theorem wo_all {α : Type} {f : α → Bool} {l : List α} {Q : Rv → Prop} (h : Q (.im (.bl (l.all f)))) : WO (opAll [.lst (l.map fun a => .bl (f a))]) Q := by
  refine ⟨_, ?_, h⟩
  show (blsD (l.map fun a => .bl (f a))).bind _ = _
  rw [bls_map]
  show some (Rv.im (.bl ((l.map f).all id))) = _
  rw [List.all_map]
  rfl
theorem wo_isi {T : String} {d : D} {t : String} {Q : Rv → Prop} (b : Bool) (e : tyD d = some t) (eb : isTy t T = b) (h : Q (.im (.bl b))) : WO (opIsI T d) Q := by
  refine ⟨_, ?_, h⟩
  show (tyD d).bind _ = _
  rw [e, ← eb]
  rfl
theorem eqv_nil (ps : List PyData) : PyData.eqv (.list ps) (.list []) = ps.isEmpty := by
  cases ps <;> rfl
theorem lay_strs : ∀ xs : List Str, (∀ x ∈ xs, PyData.strOk x = true) → PyData.canLayAll0 (xs.map PyData.str) = true ∧ PyData.depthAll (xs.map PyData.str) = 0
  | [], _ => ⟨rfl, rfl⟩
  | x :: xs, h => by
    obtain ⟨h1, h2⟩ := lay_strs xs fun y hy => h y (List.mem_cons_of_mem _ hy)
    constructor
    · show (PyData.strOk x && PyData.canLayAll0 (xs.map PyData.str)) = true
      rw [h x List.mem_cons_self, h1]; rfl
    · show max (PyData.depth (.str x)) (PyData.depthAll (xs.map PyData.str)) = 0
      rw [h2]; rfl
theorem wo_eqNil {n : Bool} {xs : List Str} {Q : Rv → Prop} (hx : ∀ x ∈ xs, PyData.strOk x = true) (h : Q (.im (.bl (xor n xs.isEmpty)))) : WO (eqD n (.lst (xs.map D.str)) (.lst [])) Q := by
  refine ⟨_, ?_, h⟩
  have h1 : toPys (xs.map D.str) = some (xs.map PyData.str) := toPys_map fun _ _ => rfl
  obtain ⟨h2, h3⟩ := lay_strs xs hx
  have s1 : SeqAt.shaped (.list (xs.map PyData.str)) = true := by
    show (PyData.canLayAll0 (xs.map PyData.str) && decide (PyData.depthAll (xs.map PyData.str) + 1 ≤ 64)) = true
    rw [h2, h3]; rfl
  show (toPy (.lst (xs.map D.str))).bind (fun p => (toPy (.lst [])).bind fun q => if SeqAt.shaped p = true ∧ SeqAt.shaped q = true then some (Rv.im (.bl (xor n (PyData.eqv p q)))) else none) = _
  rw [toPy_lst h1]
  show (if SeqAt.shaped (.list (xs.map PyData.str)) = true ∧ SeqAt.shaped (.list []) = true then some (Rv.im (.bl (xor n (PyData.eqv (.list (xs.map PyData.str)) (.list []))))) else none) = _
  rw [if_pos ⟨s1, rfl⟩, eqv_nil]
  cases xs <;> rfl
end Dv
end
section
set_option maxHeartbeats 4000000
namespace Dv
open PySem PySem.Spec PyProof.Rows L2
variable {Sg : Type}
/-! what may raise -/
structure WY (f : SX Sg) (ρ : En) (S : Sg) (Q : Ct ⊕ Xd → En → Sg → Prop) : Prop where
  ex : ∃ r ρ' S', f ρ S = some (r, ρ', S') ∧ Q r ρ' S'
structure WG (m : FX Sg) (ds : List D) (S : Sg) (Q : Rv ⊕ Xd → Sg → Prop) : Prop where
  ex : ∃ r S', m ds S = some (r, S') ∧ Q r S'
def kSeqX (g : SX Sg) (Q : Ct ⊕ Xd → En → Sg → Prop) : Ct ⊕ Xd → En → Sg → Prop
  | .inl .nx, ρ, S => WY g ρ S Q
  | .inl (.rt r), ρ, S => Q (.inl (.rt r)) ρ S
  | .inl .bk, ρ, S => Q (.inl .bk) ρ S
  | .inl .ct, ρ, S => Q (.inl .ct) ρ S
  | .inr x, ρ, S => Q (.inr x) ρ S
def kRunX (Q : Rv ⊕ Xd → Sg → Prop) : Ct ⊕ Xd → En → Sg → Prop
  | .inl .nx, _, S => Q (.inl (.im .non)) S
  | .inl (.rt r), _, S => WO (outR r) fun r' => Q (.inl r') S
  | .inl .bk, _, _ => False
  | .inl .ct, _, _ => False
  | .inr x, _, S => Q (.inr x) S
section
variable {ρ : En} {S : Sg} {Q : Ct ⊕ Xd → En → Sg → Prop} {f g : SX Sg}
theorem wy_up {h : SS Sg} (q : WS h ρ S fun c ρ1 S1 => Q (.inl c) ρ1 S1) : WY (xUp h) ρ S Q := by
  obtain ⟨c, ρ1, S1, e, q⟩ := q
  exact ⟨_, ρ1, S1, by unfold xUp; rw [e]; rfl, q⟩
theorem wy_seq (h : WY f ρ S (kSeqX g Q)) : WY (xSeq f g) ρ S Q := by
  obtain ⟨c, ρ1, S1, e, q⟩ := h
  match c, e, q with
  | .inl .nx, e, q =>
    obtain ⟨c2, ρ2, S2, e2, q⟩ := q
    exact ⟨c2, ρ2, S2, by unfold xSeq; rw [e]; exact e2, q⟩
  | .inl (.rt r), e, q => exact ⟨_, ρ1, S1, by unfold xSeq; rw [e]; rfl, q⟩
  | .inl .bk, e, q => exact ⟨_, ρ1, S1, by unfold xSeq; rw [e]; rfl, q⟩
  | .inl .ct, e, q => exact ⟨_, ρ1, S1, by unfold xSeq; rw [e]; rfl, q⟩
  | .inr x, e, q => exact ⟨_, ρ1, S1, by unfold xSeq; rw [e]; rfl, q⟩
theorem kx_nx (h : WY g ρ S Q) : kSeqX g Q (.inl .nx) ρ S := h
theorem kx_rt {r : Rv} (h : Q (.inl (.rt r)) ρ S) : kSeqX g Q (.inl (.rt r)) ρ S := h
theorem kx_x {x : Xd} (h : Q (.inr x) ρ S) : kSeqX g Q (.inr x) ρ S := h
theorem wy_if {t : ST Sg} (h : WT t ρ S fun b ρ1 S1 => (b = true → WY f ρ1 S1 Q) ∧ (b = false → WY g ρ1 S1 Q)) : WY (xIf t f g) ρ S Q := by
  obtain ⟨b, ρ1, S1, e, q1, q2⟩ := h
  cases b with
  | true =>
    obtain ⟨r2, ρ2, S2, e2, q⟩ := q1 rfl
    exact ⟨r2, ρ2, S2, by unfold xIf; rw [e]; exact e2, q⟩
  | false =>
    obtain ⟨r2, ρ2, S2, e2, q⟩ := q2 rfl
    exact ⟨r2, ρ2, S2, by unfold xIf; rw [e]; exact e2, q⟩
theorem wy_raise {c n : Str} {a : SA Sg} (h : WA a ρ S fun l ρ1 S1 => ∃ d, l = [d] ∧ Q (.inr ⟨c, [(n, d)]⟩) ρ1 S1) : WY (xRaise c n a) ρ S Q := by
  obtain ⟨l, ρ1, S1, e, d, rfl, q⟩ := h
  exact ⟨_, ρ1, S1, by unfold xRaise; rw [e]; rfl, q⟩
end
theorem wg_run {S : Sg} {n : Nat} {f : SX Sg} {ds : List D} {Q : Rv ⊕ Xd → Sg → Prop} (h : WY f (enOf n ds) S (kRunX Q)) : WG (runX n f) ds S Q := by
  obtain ⟨c, ρ1, S1, e, q⟩ := h
  match c, e, q with
  | .inl .nx, e, q => exact ⟨_, S1, by unfold runX; rw [e]; rfl, q⟩
  | .inl (.rt r), e, q =>
    obtain ⟨r', er, q⟩ := q
    exact ⟨_, S1, by unfold runX; rw [e]; show (outR r).bind _ = _; rw [er]; rfl, q⟩
  | .inl .bk, e, q => exact q.elim
  | .inl .ct, e, q => exact q.elim
  | .inr x, e, q => exact ⟨_, S1, by unfold runX; rw [e]; rfl, q⟩
theorem kg_im {ρ : En} {S : Sg} {Q : Rv ⊕ Xd → Sg → Prop} {d : D} (h : Q (.inl (.im d)) S) : kRunX Q (.inl (.rt (.im d))) ρ S := ⟨_, rfl, h⟩
theorem kg_nw {ρ : En} {S : Sg} {Q : Rv ⊕ Xd → Sg → Prop} {d : D} (h : Q (.inl (.nw d)) S) : kRunX Q (.inl (.rt (.nw d))) ρ S := ⟨_, rfl, h⟩
theorem kg_x {ρ : En} {S : Sg} {Q : Rv ⊕ Xd → Sg → Prop} {x : Xd} (h : Q (.inr x) S) : kRunX Q (.inr x) ρ S := h
theorem wf_norm {S : Sg} {m : FX Sg} {ds : List D} {Q : Rv → Sg → Prop} (h : WG m ds S fun r S' => ∃ r', r = .inl r' ∧ Q r' S') : WF (normX m) ds S Q := by
  obtain ⟨r, S', e, r', rfl, q⟩ := h
  exact ⟨r', S', by unfold normX; rw [e]; rfl, q⟩
/-! texts among texts -/
theorem wo_inS {n : Bool} {c : Bool} {x : Str} {xs : List Str} {Q : Rv → Prop} (h : Q (.im (.bl (xor n (decide (x ∈ xs)))))) : WO (opIn n (.str x) (.tup c (xs.map D.str))) Q := by
  refine ⟨_, ?_, h⟩
  show (strsD (xs.map D.str)).bind _ = _
  rw [strs_map]
  rfl
end Dv
end
section
set_option maxHeartbeats 4000000
namespace Dv
open PySem PySem.Spec PyProof.Rows L2
variable {Sg : Type}
theorem ws_dput {ρ : En} {S : Sg} {Q : Ct → En → Sg → Prop} {i : Nat} {g h : SE Sg} (ks : List Key) (l : List D) (w : WE h ρ S fun p ρ1 S1 => WO (frz p) fun d => ρ1[i]? = some (.ow (.dct ks l)) ∧ WE g ρ1 S1 fun q ρ2 S2 => ρ2 = ρ1 ∧ WO (keyD q.d) fun k => Nat.ble (l.length + 1) 1000 = true ∧ ∃ ks' l', putD ks l k d = (ks', l') ∧ Q .nx (ρ2.set i (.ow (.dct ks' l'))) S2) : WS (Dv.sDPut i g h) ρ S Q := by
  obtain ⟨p, ρ1, S1, e1, d, ed, e2, q, ρ2, S2, e3, rfl, k, ek, hl, ks', l', ep, w⟩ := w
  have hl : l.length < sizeLine := Nat.lt_of_lt_of_le (Nat.le_of_ble_eq_true hl) (by decide)
  refine ⟨.nx, _, S2, ?_, w⟩
  unfold Dv.sDPut
  rw [e1]
  show (frz p).bind _ = _
  rw [ed]
  show (match ρ2[i]? with | some (.ow (.dct _ _)) => _ | _ => none) = _
  rw [e2]
  show (g ρ2 S1).bind _ = _
  rw [e3]
  show (match ρ2[i]? with | some (.ow (.dct ks l)) => (keyD q.d).bind _ | _ => none) = _
  rw [e2]
  show (keyD q.d).bind _ = _
  rw [ek]
  show (if l.length < sizeLine then _ else _) = _
  rw [if_pos hl, ep]
theorem wo_eqSb {n : Bool} {x y : Str} {Q : Rv → Prop} (b : Bool) (e : xor n (decide (x = y)) = b) (h : Q (.im (.bl b))) : WO (eqD n (.str x) (.str y)) Q := ⟨_, by show some (Rv.im (.bl (xor n (decide (x = y))))) = _; rw [e], h⟩
theorem wo_inSb {n c : Bool} {x : Str} {xs : List Str} {Q : Rv → Prop} (b : Bool) (e : xor n (decide (x ∈ xs)) = b) (h : Q (.im (.bl b))) : WO (opIn n (.str x) (.tup c (xs.map D.str))) Q := wo_inS (by rw [e]; exact h)
theorem wo_dget {ks : List Key} {l : List D} {kd d : D} {k : Key} {Q : Rv → Prop} (e1 : keyD kd = some k) (e2 : lkK ks l k = some d) (h : Q (.im d)) : WO (opDGet (.dct ks l) kd) Q := ⟨_, by show (keyD kd).bind _ = _; rw [e1]; show (lkK ks l k).bind _ = _; rw [e2]; rfl, h⟩
theorem wo_mul2 {d : D} {Q : Rv → Prop} (h : Q (.nw (.lst [d, d]))) : WO (opMulX (.lst [d]) (.int 2)) Q := by
  refine ⟨_, ?_, h⟩
  show (if -(2 ^ 63) ≤ (2 : Int) ∧ (2 : Int) < 2 ^ 63 ∧ [d].length * (2 : Int).toNat ≤ sizeLine then some (Rv.nw (.lst (List.replicate (2 : Int).toNat [d]).flatten)) else none) = _
  rw [if_pos ⟨by decide, by decide, (by decide : 2 ≤ sizeLine)⟩]
  rfl
/-- x if x < y else y -/
theorem we_ifLt {ρ : En} {S : Sg} {Q : Rv → En → Sg → Prop} {i j u v : Nat} {a b : Int} {d e : D} (ha : ρ[i]? = some (.im (.int a))) (hb : ρ[j]? = some (.im (.int b))) (hu : ρ[u]? = some (.im d)) (hv : ρ[v]? = some (.im e)) (h : Q (.im (if a < b then d else e)) ρ S) :
    WE (eIf (tst (eOp2 (opCmp fun i j => decide (i < j)) (eBr i) (eBr j))) (eVar u) (eVar v)) ρ S Q := by
  refine we_if (wt_tst (we_op2 (we_br ha (we_br hb (wo_cmp ⟨_, rfl, fun hc => ?_, fun hc => ?_⟩)))))
  · rw [if_pos (of_decide_eq_true hc)] at h
    exact we_var hu h
  · rw [if_neg (of_decide_eq_false hc)] at h
    exact we_var hv h
theorem wf_run' {S : Sg} {n : Nat} {f : SS Sg} {ds : List D} {Q : Rv → Sg → Prop} (ρ : En) (e : enOf n ds = ρ) (h : WS f ρ S (kRun Q)) : WF (runB n f) ds S Q := wf_run (by rw [e]; exact h)
end Dv
end
section
set_option maxHeartbeats 4000000
/-! exceptions that are made and kept as values -/
namespace L2
open PySem PySem.Spec PyProof.Rows
section
variable {X : Cx} {pins : List (Addr × Obj)} {σ : St} {H : Hp} {s : Shared} {a C d : Addr} {fs : List (Str × V)}
theorem exo_exd_ne {P : Program} {w : World} {h : Heap} (hok : HOk P w H h) (ea : H a = some (exo a C (some d))) (ed : H d = some (exd d fs)) : d ≠ a := fun z => by
  obtain ⟨t0, hoe⟩ := exo_at hok ea
  obtain ⟨mA, hns, rel⟩ := exd_at hok ed
  obtain ⟨o, es, ep, e1, e2, _⟩ := hns
  rw [z, hoe] at e1
  have z2 := Option.some.inj e1
  subst z2
  cases e2
/-- what is being made is let be -/
theorem Inv.soft (I : Inv X pins σ H s) (ea : H a = some (exo a C (some d))) (ed : H d = some (exd d fs)) : Inv X pins σ (upd (upd H a (exq a (.ref C) (some d))) d (.xd fs)) s := by
  have hda := exo_exd_ne I.hok ea ed
  obtain ⟨t0, hoe⟩ := exo_at I.hok ea
  obtain ⟨mA, hns, rel⟩ := exd_at I.hok ed
  have J := I.write (t' := s.toks) (h' := s.heap) (x := a) (e := a) (o := exq a (.ref C) (some d)) (by rw [ea]; exact True.intro) (.inl rfl) (fun _ _ _ q => q) ⟨_, hoe⟩ (exq_ok hoe ⟨rfl, rfl⟩ rfl)
  have ed' : upd H a (exq a (.ref C) (some d)) d = some (exd d fs) := by rw [upd_ne hda]; exact ed
  obtain ⟨od, _, _, ho, _⟩ := hns
  exact J.write (t' := s.toks) (h' := s.heap) (x := d) (e := d) (o := .xd fs) (by rw [ed']; exact True.intro) (.inl rfl) (fun _ _ _ q => q) ⟨_, ho⟩ (show ObjOk _ _ _ _ _ (.xd fs) from exd_at I.hok ed)
theorem Inv.soft0 (I : Inv X pins σ H s) (ea : H a = some (exo a C none)) : Inv X pins σ (upd H a (exq a (.ref C) none)) s := by
  obtain ⟨t0, hoe⟩ := exo_at I.hok ea
  exact I.write (t' := s.toks) (h' := s.heap) (x := a) (e := a) (o := exq a (.ref C) none) (by rw [ea]; exact True.intro) (.inl rfl) (fun _ _ _ q => q) ⟨_, hoe⟩ (exq_ok hoe ⟨rfl, rfl⟩ rfl)
end
/-- C(e, ..): what was made stays -/
def tMkV (C : Addr) (sp : Sp) (dvs : List V) (ta : TA) : TE := fun σ H Q => ta σ H fun vs H1 => vs.length ≤ 1000 ∧ ∀ a, H1 a = none → sp (.ref a :: (vs ++ dvs)) (upd H1 a (exo a C none))
  (fun v H2 => v = .non ∧ ∃ (d : Addr) (fs : List (Str × V)), H2 a = some (exo a C (some d)) ∧ H2 d = some (exd d fs) ∧ Q (.ref a) (upd (upd H2 a (exq a (.ref C) (some d))) d (.xd fs))) (fun _ _ _ => False)
section
variable {X : Cx} {e : Expr} {es : List Expr} {ta : TA} {p pos : Pos} {B nw it : String} {tl : List Value} {C : Addr} {x : Str}
theorem pe_mkx {fI : Addr} {k : Nat} {fd : FuncData} {ps : List Str} {sp : Sp} {ds : List Value} {dvs : List V} (W : XBs B nw it tl) (T : XcC X.K C nw tl) (iC : PySem.W.findIn X.K (.ref C) "__init__" = some (some (.ref fI))) (tI : PySem.W.typeIn X.K (.ref fI) = some (.type "function"))
    (F1 : FnOk X.prog X.w X.K X.mg X.base CX0 k fI fd ps sp) (hr : Room (k + 1) X.A) (hb : Binds X.K fd ps ds) (hd : Vals dvs ds) (hg : Gl X x) (hm : X.mg x = some (.ref C)) (ha : PA X (e :: es) ta)
    (hdb : (x == ("__debug__" : Str)) = false := by decide) (he : starEach (e :: es) X.env = (false, eval e X.env) :: starEach es X.env := by rfl) (hpl : (backTo pos (starEach es X.env)).any (·.1) = false := by rfl) :
    PE X (.Call (.Name x p) (e :: es) [] pos) (tMkV C sp dvs ta) := by
  refine ⟨fun pins s σ H Q I h => ?_⟩
  obtain ⟨c1, c2, c3, c4, bm, c5, c6, c7, c8, c9, k0, k1, k2, k3, k5, lc, bt⟩ := T.cls
  refine wpAny_Call_Name_kw (ld_glob I hg hm ?_ hdb)
  refine PySem.W.callWith_K (h₀ := X.base) I.ok.mod.kin T.kC (thn (ha.run pos pins s σ H _ I h) fun us s1 ⟨vs, H1, I1, r1, hz, q1⟩ => ⟨I1.kIn, ?_⟩) he hpl
  show wpAny _ _ (call (.ref C) us) _ _ _
  obtain ⟨hp, g, dr, tk, os⟩ := s1
  have z1 : hp.objs.size ≤ hp.objs.size + 1 := Nat.le_succ _
  have hq := q1 (hp.objs.size + 1) (I1.hok.fresh z1)
  have kk : ∀ b o, hp.get? b = some o → ((hp.push (PySem.W.kdv_tup us)).push (PySem.HandSPX.excO C hp.objs.size)).get? b = some o := fun b o e => Heap.get?_push_of_some _ (Heap.get?_push_of_some _ e)
  have gg : ((hp.push (PySem.W.kdv_tup us)).push (PySem.HandSPX.excO C hp.objs.size)).get? (hp.objs.size + 1) = some (PySem.HandSPX.excO C hp.objs.size) := by heap_get
  have I2 := I1.laid (t' := tk) (a := hp.objs.size + 1) (o := exo (hp.objs.size + 1) C none) (h' := (hp.push (PySem.W.kdv_tup us)).push (PySem.HandSPX.excO C hp.objs.size)) kk z1 (exo_ok gg)
  have r2 : Vals (V.ref (hp.objs.size + 1) :: (vs ++ dvs)) (Value.ref (hp.objs.size + 1) :: (us ++ ds)) := .cons rfl (r1.append hd)
  have hl : (Value.ref (hp.objs.size + 1) :: us ++ ds).length = ps.length := (r2.length.symm.trans (F1.len _ _ _ _ hq))
  have hus : us.length ≤ sizeLine := by
    rw [← Paired.length r1, sizeLine_eq]
    omega
  refine wpAny_call (PySem.HandSPX.call_own W.fc (fun Y => PySem.W.excTail_contains Y bm bt) (I1.kIn _ _ lc) (PySem.W.looks_findIn I1.kIn iC) (fun self => PySem.W.bind_fn I1.kIn self tI) hus
    (codeAny_mono (F1.run _ X.stack _ _ ⟨Value.ref (hp.objs.size + 1) :: us, []⟩ (Value.ref (hp.objs.size + 1) :: (us ++ ds)) _ _ (fun _ _ _ => False) (hr.make C us []) (I2.env0.make C us []) (hb _ (Value.ref (hp.objs.size + 1) :: us) I2.kIn hl) r2 hq) fun r s' hq' => ?_))
  cases r with
  | error er => exact pass0 (X := X) pins σ _ _ er s' I2 hq'
  | ok fl =>
    cases fl with
    | ret u =>
      obtain ⟨v, H2, m1, m2, m3, m4, rv, ev, d, fs, ea, ed, q2⟩ := hq'
      subst ev
      obtain ⟨h2, g2, d2, t2, os'⟩ := s'
      have J : Inv X pins σ H2 ⟨h2, g2, d2, t2, os'⟩ := I2.call' (ch := []) m1 m3 m4 m2 (fun b z => absurd z (by simp))
      exact ⟨rv, .ref (hp.objs.size + 1), _, J.soft ea ed, rfl, q2⟩
    | _ => exact False.elim hq'
end
end L2
namespace L2
open PySem PySem.Spec PyProof.Rows
/-- C('m'), C without an own __init__: what was made stays -/
def tMk0 (C : Addr) : TE := fun σ H Q => ∀ a, H a = none → Q (.ref a) (upd H a (exq a (.ref C) none))
section
variable {X : Cx} {C : Addr} {bmB : List Value} {B newId initId : String}
theorem pe_mk0 {x m : Str} {j : Nat} {p p2 pos : Pos} (F : ExcBaseFacts B newId initId bmB) (q : PySem.W.excIn X.K C bmB newId = true) (gC : X.mg x = some (.ref C)) (kC : PySem.W.keepIn X.K (.ref C) = true) (hg : Gl X x)
    (hdb : (x == ("__debug__" : Str)) = false := by decide) : PE X (.Call (.Name x p) [.Constant (.str m) j p2] [] pos) (tMk0 C) := by
  refine ⟨fun pins s σ H Q I h => ?_⟩
  refine wpAny_Call_Name_kw (ld_glob I hg gC ?_ hdb)
  have ha : PA X [.Constant (.str m) j p2] (tCons (tC (.str m)) tNil) := pa_cons pe_str pa_nil
  refine PySem.W.callWith_K (h₀ := X.base) I.ok.mod.kin kC (thn (ha.run pos pins s σ H (fun vs H1 => vs = [V.str m] ∧ H = H1) I ⟨rfl, rfl⟩) fun us s1 hh => ?_)
  obtain ⟨vs, H1, I1, r1, ev, eH⟩ := hh
  subst ev
  rw [← eH] at I1
  refine ⟨I1.kIn, ?_⟩
  cases r1 with
  | cons ru rn =>
    rename_i u us'
    cases rn
    show wpAny _ _ (call (.ref C) [u]) _ _ _
    obtain ⟨bm, N, nm, qn, bs, hdct, sn, sub, ab, col, dd, k0, k1, k2, k3, k5, mN, hC, hN, hni, T⟩ := exc_obj I1.kIn q
    refine wpAny_call_exc_subT F T hC hN hni (fun h' e hm => ?_) (by show 1 ≤ sizeLine; rw [sizeLine_eq]; omega)
    obtain ⟨t, he, _, _⟩ := hm.there
    have na := I1.hok.gone hm.new
    exact ⟨.ref e, _, I1.laidN (o := exq e (.ref C) none) hm.keeps hm.new na (exq_ok he ⟨rfl, rfl⟩ rfl), rfl, h e na⟩
end
end L2
end
section
set_option maxHeartbeats 4000000
/-! exceptions as data -/
namespace Dv
open PySem PySem.Spec PyProof.Rows L2
variable {Sg : Type}
/-- own classes over the mro of ValueError -/
theorem tail_refsVE : ∀ l : List Value, PySem.W.excTail PySem.HandSPX.veTail l = true → PySem.HandSPX.refsVE l = true := by
  intro l
  induction l with
  | nil => intro e; exact absurd e (by decide)
  | cons a r ih =>
    intro e
    rcases PySem.W.excTail_cases (a :: r) e with ⟨c, r', q, h⟩ | q
    · obtain ⟨rfl, rfl⟩ := List.cons.inj q
      exact ih h
    · rw [q]; rfl
theorem oex_of {K : PySem.W.Frag} {C : Addr} (T : XcC K C "ValueError.__new__" PySem.HandSPX.veTail) : OexC K C := by
  obtain ⟨c1, c2, c3, c4, bm, c5, c6, c7, c8, c9, k0, k1, k2, k3, k5, lc, bt⟩ := T.cls
  exact ⟨⟨c1, c2, c3, c4, bm, c5, c6, c7, c8, c9, k0, k1, k2, k3, k5, lc, tail_refsVE bm bt⟩, T.sa, T.exC, T.tyC, T.kC⟩
/-! ### def __init__(self, y, z): L.__init__(self, "..") ; self.f = y ; self.g = z -/
def spI2 (C : Addr) (f g : Str) : Sp := fun vs H Q _ => ∃ a y z, vs = [.ref a, y, z] ∧ H a = some (exo a C none) ∧ ∀ dx, H dx = none → dx ≠ a → Q .non (upd (upd (upd H dx (exd dx [(f, y)])) a (exo a C (some dx))) dx (exd dx [(g, z), (f, y)]))
section
variable {P : Program} {w : World} {K : PySem.W.Frag} {mg : Str → Option Value} {base : Heap} {x qual self y z f g msg : Str} {params : Arguments} {body : List Stmt} {scope : Scope} {fI C : Addr} {fd : FuncData} {k : Nat} {nw : String} {tl : List Value}
theorem init_fn2 (T : XcC K C nw tl) (T2 : OexC K C) (F : FunD K x qual params body scope [] [] fI fd) (S : FnScope [self, y, z] [self, y, z] scope) (nf : PySem.W.findIn K (.ref C) f = some none) (ng : PySem.W.findIn K (.ref C) g = some none)
    (hX : ∀ (X : Cx) (cdv : Value) (A : Around) (outer : List Env) (s : Shared) (H : Hp) (E : XK), X = cxOf CX0 P w K mg base [self, y, z] qual scope fI cdv A outer s H E →
      PSs X body (tSeq (tDrop (tXin K nw tl (tCons (tVar 0) (tCons (tC (.str msg)) tNil)))) (tSeq (tXst K nw tl f (tVar 0) (tVar 1)) (tOst K g (tVar 0) (tVar 2))))) :
    FnOk P w K mg base CX0 (k + 1) fI fd [self, y, z] (spI2 C f g) := by
  refine FunD.ok F S (fun vs H Q E h => ?_) fun cdv A outer s H vs Q E hr h => ⟨_, hX _ cdv A outer s H E rfl, ?_⟩
  · obtain ⟨a, v, v2, rfl, _⟩ := h
    rfl
  · obtain ⟨a, v, v2, rfl, ea, q⟩ := h
    refine ⟨.ref a, rfl, a, C, [.str msg], rfl, (show 1 ≤ 1000 by decide), T, ea, v, rfl, .ref a, rfl, a, C, rfl, T, nf, ea, fun dx n ne => ?_⟩
    refine ⟨v2, rfl, .ref a, rfl, a, C, rfl, T2, ng, .inr ⟨dx, [(f, v)], ?_, ?_, (show 1 ≤ 900 by decide), q dx n ne⟩⟩
    · rw [upd_same]
    · rw [upd_ne ne, upd_same]
end
/-! ### C(e, ..) -/
def eMk (c : Str) (ns : List Str) (g : SA Sg) : SE Sg := fun ρ S => (g ρ S).bind fun p => if p.1.length = ns.length then some (.im (.exc c ns.reverse p.1.reverse), p.2.1, p.2.2) else none
section
variable {X : Cx} {G : Gd Sg} {e e2 : Expr} {p pos : Pos} {x c f g self y z : Str} {fI : Addr} {fd : FuncData} {k : Nat} {B nw it : String} {tl : List Value} {ga : SA Sg}
theorem pd_mk1 (Wb : XBs B nw it tl) (T : XcC X.K (G.cl c) nw tl) (iC : PySem.W.findIn X.K (.ref (G.cl c)) "__init__" = some (some (.ref fI))) (tI : PySem.W.typeIn X.K (.ref fI) = some (.type "function"))
    (F1 : FnOk X.prog X.w X.K X.mg X.base CX0 k fI fd [self, y] (spI (G.cl c) f)) (hr : Room (k + 1) X.A) (hb : Binds X.K fd [self, y] []) (hg : Gl X x) (hm : X.mg x = some (.ref (G.cl c))) (ha : PA X [e] (tAF G ga))
    (hdb : (x == ("__debug__" : Str)) = false := by decide) (he : starEach [e] X.env = (false, eval e X.env) :: starEach [] X.env := by rfl) (hpl : (backTo pos (starEach [] X.env)).any (·.1) = false := by rfl) :
    PE X (.Call (.Name x p) [e] [] pos) (tE G (eMk c [f] ga)) := by
  refine PE.mono' (pe_mkx Wb T iC tI F1 hr hb .nil hg hm ha hdb he hpl) ?_
  rintro σ H Q ⟨H0, F0, ρ, F, As, S, c1, ρ', S', R, ev, q⟩
  obtain ⟨⟨l, ρ1, S1⟩, e1, ev⟩ := Option.bind_eq_some_iff.mp ev
  refine ⟨H0, F0, ρ, F, As, S, l, ρ1, S1, R, e1, fun vs H1 F1' A1 p1 R1 rv => ?_⟩
  match l, rv, ev with
  | [d], rv, ev =>
    cases ev
    obtain ⟨v, r, rfl, r1, rfl⟩ := rv
    refine ⟨(show 1 ≤ 1000 by decide), fun a na => ⟨a, v, rfl, upd_same, fun dx ndx ne => ⟨rfl, dx, [(f, v)], upd_same, ?_, ?_⟩⟩⟩
    · rw [upd_ne ne, upd_same]
    · rw [upd_ne ne] at ndx
      have eH : upd (upd (upd (upd (upd H1 a (exo a (G.cl c) none)) dx (exd dx [(f, v)])) a (exo a (G.cl c) (some dx))) a (exq a (.ref (G.cl c)) (some dx))) dx (.xd [(f, v)]) = upd (upd H1 a (exq a (.ref (G.cl c)) (some dx))) dx (.xd [(f, v)]) := by
        funext b
        by_cases hd : b = dx
        · rw [hd, upd_same, upd_same]
        · rw [upd_ne hd, upd_ne hd]
          by_cases hb' : b = a
          · rw [hb', upd_same, upd_same]
          · rw [upd_ne hb', upd_ne hb', upd_ne hb', upd_ne hd, upd_ne hb']
      have ex : Ext H1 (upd (upd H1 a (exq a (.ref (G.cl c)) (some dx))) dx (.xd [(f, v)])) := fun b o z => (upd_ne (ne_of_none z ndx)).trans ((upd_ne (ne_of_none z na)).trans z)
      show Q _ _
      rw [eH]
      refine q _ _ F1' A1 (p1.trans (Stp.ext ex)) (R1.ex ex) ⟨a, some dx, [(f, v)], rfl, ?_, (R1.gs.fresh na).2, .inr ⟨dx, rfl, upd_same, (R1.gs.fresh ndx).2⟩, rfl, v, [], rfl, r1.fr (fun b o z _ => ex b o z) fun _ z => z, rfl⟩
      rw [upd_ne (Ne.symm ne), upd_same]
  | [], rv, ev => cases ev
  | _ :: _ :: _, rv, ev => cases ev
theorem pd_mk2 (Wb : XBs B nw it tl) (T : XcC X.K (G.cl c) nw tl) (iC : PySem.W.findIn X.K (.ref (G.cl c)) "__init__" = some (some (.ref fI))) (tI : PySem.W.typeIn X.K (.ref fI) = some (.type "function"))
    (F1 : FnOk X.prog X.w X.K X.mg X.base CX0 k fI fd [self, y, z] (spI2 (G.cl c) f g)) (hr : Room (k + 1) X.A) (hb : Binds X.K fd [self, y, z] []) (hg : Gl X x) (hm : X.mg x = some (.ref (G.cl c))) (ha : PA X [e, e2] (tAF G ga))
    (hdb : (x == ("__debug__" : Str)) = false := by decide) (he : starEach [e, e2] X.env = (false, eval e X.env) :: starEach [e2] X.env := by rfl) (hpl : (backTo pos (starEach [e2] X.env)).any (·.1) = false := by rfl) :
    PE X (.Call (.Name x p) [e, e2] [] pos) (tE G (eMk c [f, g] ga)) := by
  refine PE.mono' (pe_mkx Wb T iC tI F1 hr hb .nil hg hm ha hdb he hpl) ?_
  rintro σ H Q ⟨H0, F0, ρ, F, As, S, c1, ρ', S', R, ev, q⟩
  obtain ⟨⟨l, ρ1, S1⟩, e1, ev⟩ := Option.bind_eq_some_iff.mp ev
  refine ⟨H0, F0, ρ, F, As, S, l, ρ1, S1, R, e1, fun vs H1 F1' A1 p1 R1 rv => ?_⟩
  match l, rv, ev with
  | [d, d2], rv, ev =>
    cases ev
    obtain ⟨v, r, rfl, r1, v2, r', rfl, r2, rfl⟩ := rv
    refine ⟨(show 2 ≤ 1000 by decide), fun a na => ⟨a, v, v2, rfl, upd_same, fun dx ndx ne => ⟨rfl, dx, [(g, v2), (f, v)], ?_, upd_same, ?_⟩⟩⟩
    · rw [upd_ne (Ne.symm ne), upd_same]
    · rw [upd_ne ne] at ndx
      have eH : upd (upd (upd (upd (upd (upd H1 a (exo a (G.cl c) none)) dx (exd dx [(f, v)])) a (exo a (G.cl c) (some dx))) dx (exd dx [(g, v2), (f, v)])) a (exq a (.ref (G.cl c)) (some dx))) dx (.xd [(g, v2), (f, v)]) = upd (upd H1 a (exq a (.ref (G.cl c)) (some dx))) dx (.xd [(g, v2), (f, v)]) := by
        funext b
        by_cases hd : b = dx
        · rw [hd, upd_same, upd_same]
        · rw [upd_ne hd, upd_ne hd]
          by_cases hb' : b = a
          · rw [hb', upd_same, upd_same]
          · rw [upd_ne hb', upd_ne hb', upd_ne hd, upd_ne hb', upd_ne hd, upd_ne hb']
      have ex : Ext H1 (upd (upd H1 a (exq a (.ref (G.cl c)) (some dx))) dx (.xd [(g, v2), (f, v)])) := fun b o z => (upd_ne (ne_of_none z ndx)).trans ((upd_ne (ne_of_none z na)).trans z)
      show Q _ _
      rw [eH]
      refine q _ _ F1' A1 (p1.trans (Stp.ext ex)) (R1.ex ex) ⟨a, some dx, [(g, v2), (f, v)], rfl, ?_, (R1.gs.fresh na).2, .inr ⟨dx, rfl, upd_same, (R1.gs.fresh ndx).2⟩, rfl, v2, [v], rfl, r2.fr (fun b o z _ => ex b o z) fun _ z => z, v, [], rfl, r1.fr (fun b o z _ => ex b o z) fun _ z => z, rfl⟩
      rw [upd_ne (Ne.symm ne), upd_same]
  | [], rv, ev => cases ev
  | [_], rv, ev => cases ev
  | _ :: _ :: _ :: _, rv, ev => cases ev
/-- C('m') -/
def eMk0 (c : Str) : SE Sg := fun ρ S => some (.im (.exc c [] []), ρ, S)
theorem pd_mk0 {m : Str} {j : Nat} {p2 : Pos} {bmB : List Value} {newId initId : String} (F : ExcBaseFacts B newId initId bmB) (q : PySem.W.excIn X.K (G.cl c) bmB newId = true) (hm : X.mg x = some (.ref (G.cl c))) (kC : PySem.W.keepIn X.K (.ref (G.cl c)) = true) (hg : Gl X x)
    (hdb : (x == ("__debug__" : Str)) = false := by decide) : PE X (.Call (.Name x p) [.Constant (.str m) j p2] [] pos) (tE G (eMk0 c)) := by
  refine PE.mono' (pe_mk0 F q hm kC hg hdb) ?_
  rintro σ H Q ⟨H0, F0, ρ, F, As, S, c1, ρ', S', R, ev, k⟩
  cases ev
  intro a na
  have ex : Ext H (upd H a (exq a (.ref (G.cl c)) none)) := Ext.upd na
  exact k _ _ F As (Stp.ext ex) (R.ex ex) ⟨a, none, [], rfl, upd_same, (R.gs.fresh na).2, .inl ⟨rfl, rfl⟩, rfl, rfl⟩
/-! ### e.f, isinstance(e, C) -/
def lkS : List Str → List D → Str → Option D
  | n :: ns, d :: l, f => if f = n then some d else lkS ns l f
  | _, _, _ => none
theorem lkS_ok {H : Hp} {F : Addr → Prop} : ∀ {fv : List (Str × V)} {ns : List Str} {l : List D} {f : Str} {d : D}, fv.map (·.1) = ns → Rps G H F l (fv.map (·.2)) → lkS ns l f = some d → ∃ v, fv.lookup f = some v ∧ Rp G H F d v
  | [], ns, l, f, d, e, r, h => by
    subst e
    cases l <;> cases h
  | p :: fv, ns, l, f, d, e, r, h => by
    subst e
    cases l with
    | nil => cases h
    | cons d0 l =>
      obtain ⟨v, r', ev, r1, r2⟩ := r
      obtain ⟨rfl, rfl⟩ := List.cons.inj ev
      have h : (if f = p.1 then some d0 else lkS (fv.map (·.1)) l f) = some d := h
      by_cases hf : f = p.1
      · rw [if_pos hf] at h; cases h
        refine ⟨p.2, ?_, r1⟩
        rw [hf]
        obtain ⟨p1, p2⟩ := p
        simp
      · rw [if_neg hf] at h
        obtain ⟨v, h1, h2⟩ := lkS_ok rfl r2 h
        refine ⟨v, ?_, h2⟩
        obtain ⟨p1, p2⟩ := p
        rw [List.lookup_cons]
        have : (f == p1) = false := by simpa using hf
        rw [this]
        exact h1
def opFld (okF : Str → Str → Bool) (f : Str) : D → Option Rv
  | .exc c ns l => if okF c f = true then (lkS ns l f).map .im else none
  | _ => none
theorem Rb.exc {H : Hp} {F : Addr → Prop} {c : Str} {ns : List Str} {l : List D} {v : V} (h : Rb G H F (.exc c ns l) v) : ∃ a od fv, v = .ref a ∧ H a = some (exq a (.ref (G.cl c)) od) ∧ ¬ G.Z a ∧ XdF G H od fv ∧ fv.map (·.1) = ns ∧ Rps G H F l (fv.map (·.2)) := h
theorem pd_fld {okF : Str → Str → Bool} {n : Str} {fe : SE Sg} (hq : ∀ c, okF c n = true → XqC X.K (G.cl c) ∧ PySem.W.findIn X.K (.ref (G.cl c)) n = some none) (he : PE X e (tE G fe)) (hb : attributeBase e n X.env (eval e X.env) = eval e X.env := by rfl) :
    PE X (.Attribute e n pos) (tE G (eOp1 (opFld okF n) fe)) := by
  refine PE.mono' (pe_xq he hb) ?_
  rintro σ H Q ⟨H0, F0, ρ, F, As, S, rr, ρ', S', R, e, k⟩
  obtain ⟨⟨r1, ρ1, S1⟩, e1, e⟩ := Option.bind_eq_some_iff.mp e
  obtain ⟨r3, e3, e⟩ := Option.bind_eq_some_iff.mp e
  cases e
  refine ⟨H0, F0, ρ, F, As, S, r1, ρ1, S1, R, e1, fun v1 H1 F1 A1 p1 R1 h1 => ?_⟩
  have hr := h1.rb
  have e3 : opFld okF n r1.d = some rr := e3
  cases hd : r1.d with
  | exc c ns l =>
    rw [hd] at hr e3
    have e3 : (if okF c n = true then (lkS ns l n).map Rv.im else none) = some rr := e3
    by_cases ok : okF c n = true
    · rw [if_pos ok] at e3
      obtain ⟨d, e4, e5⟩ := Option.map_eq_some_iff.mp e3
      cases e5
      obtain ⟨q1, q2⟩ := hq c ok
      obtain ⟨a, od, fv, rfl, ha, z, x, k1, k2⟩ := hr.exc
      obtain ⟨v, lv, hv⟩ := lkS_ok k1 k2 e4
      rcases x with ⟨_, ef⟩ | ⟨dd, rfl, hdd, _⟩
      · subst ef
        cases lv
      · exact ⟨a, G.cl c, fv, v, rfl, ⟨dd, ha, hdd⟩, q1, q2, lv, k v H1 F1 A1 p1 R1 hv⟩
    · rw [if_neg ok] at e3; cases e3
  | _ => rw [hd] at e3; cases e3
end
end Dv
end
section
set_option maxHeartbeats 4000000
namespace L2
open PySem PySem.Spec PyProof.Rows
def CgtY (H : Hp) (a C : Addr) (od : Option Addr) : Prop := H a = some (exq a (.ref C) od) ∧ ∀ dd, od = some dd → ∃ fs, H dd = some (.xd fs)
theorem CgtY.inst {X : Cx} {pins : List (Addr × Obj)} {σ : St} {H : Hp} {s : Shared} {a C : Addr} {od : Option Addr} (h : CgtY H a C od) (I : Inv X pins σ H s) : ∃ (oe : Obj) (o2 : Option Obj), PySem.W.InstAt s.heap a oe C o2 := by
  obtain ⟨ea, ed⟩ := h
  obtain ⟨oe, vs, g1, g2, g3⟩ := exq_at I.hok ea
  have nc : PySem.W.notCls oe = true := by unfold PySem.W.notCls; rw [g3] <;> rfl
  cases od with
  | none => exact ⟨oe, none, g1, g2.1, nc, by rw [g2.2] <;> trivial⟩
  | some dd =>
    obtain ⟨fs, e⟩ := ed dd rfl
    obtain ⟨mA, hns, hr⟩ := (show ObjOk X.prog X.w H s.heap dd (.xd fs) from I.hok dd _ e)
    obtain ⟨od, ho, hl⟩ := lookIn_ns hns
    exact ⟨oe, some od, g1, g2.1, nc, by rw [g2.2]; exact ho⟩
def rIsQ (K : PySem.W.Frag) : List V → Hp → VK → Prop := fun xs H Q => ∃ (a C : Addr) (od : Option Addr) (c : V) (cv : Value) (b : Bool), xs = [.ref a, c] ∧ CgtY H a C od ∧ XqC K C ∧ (∀ u, RelV c u → u = cv) ∧ PySem.W.kitOne K (.ref C) cv = some b ∧ Q (.bl b) H
theorem call_isQ {X : Cx} : CallR X (.builtin "isinstance") (rIsQ X.K) := by
  intro pins s σ H xs us Q I r h
  obtain ⟨a, C, od, c, cv, b, rfl, g, T, hcv, e, q⟩ := h
  cases r with
  | cons rx rr =>
    cases rr with
    | cons rt rr =>
      cases rr
      cases rx
      have ec := hcv _ rt
      subst ec
      obtain ⟨oe, o2, J⟩ := g.inst I
      exact PySem.W.kia_one (PySem.W.kitx_exc T.cl T.ga T.gg T.sb T.ca T.cn T.ct T.cm) I.kIn J e (fun z => nomatch z) fun tk => ⟨.bl b, H, I.kept (t' := tk) fun _ _ z => z, rfl, q⟩
end L2
namespace Dv
open PySem PySem.Spec PyProof.Rows L2
variable {Sg : Type}
def opIsE (tb : Str → Option Bool) : D → Option Rv
  | .exc c _ _ => (tb c).map fun b => .im (.bl b)
  | _ => none
section
variable {X : Cx} {G : Gd Sg} {e : Expr} {pos : Pos} {f : SE Sg} {tx : Str} {p p2 : Pos} {tb : Str → Option Bool}
theorem isE_le {cv : Value} {c : V} (hcv : ∀ u, RelV c u → u = cv) (hq : ∀ w b, tb w = some b → XqC X.K (G.cl w) ∧ PySem.W.kitOne X.K (.ref (G.cl w)) cv = some b) : ∀ σ H Q, tE G (eOp1 (opIsE tb) f) σ H Q → tE G f σ H fun v H1 => rIsQ X.K [v, c] H1 Q := by
  rintro σ H Q ⟨H0, F0, ρ, F, As, S, rr, ρ', S', R, e, k⟩
  obtain ⟨⟨r1, ρ1, S1⟩, e1, e⟩ := Option.bind_eq_some_iff.mp e
  obtain ⟨r3, e3, e⟩ := Option.bind_eq_some_iff.mp e
  cases e
  refine ⟨H0, F0, ρ, F, As, S, r1, ρ1, S1, R, e1, fun v1 H1 F1 A1 p1 R1 h1 => ?_⟩
  have hr := h1.rb
  have e3 : opIsE tb r1.d = some rr := e3
  cases hd : r1.d with
  | exc w ns l =>
    rw [hd] at hr e3
    obtain ⟨b, e4, e5⟩ := Option.map_eq_some_iff.mp (show (tb w).map (fun b => Rv.im (.bl b)) = some rr from e3)
    cases e5
    obtain ⟨q1, q2⟩ := hq w b e4
    obtain ⟨a, od, fv, rfl, ha, z, x, k1, k2⟩ := hr.exc
    refine ⟨a, G.cl w, od, c, cv, b, rfl, ⟨ha, fun dd ed => ?_⟩, q1, hcv, q2, (R1.kn fun v H' F' A' p R' h => k v H' F' A' (p1.trans p) R' (h.back p1)).im rfl⟩
    rcases x with ⟨x, _⟩ | ⟨d2, x, hx, _⟩
    · rw [x] at ed; cases ed
    · rw [x] at ed; cases ed
      exact ⟨fv, hx⟩
  | _ => rw [hd] at e3; cases e3
theorem pd_isE {D : Addr} (hq : ∀ w b, tb w = some b → XqC X.K (G.cl w) ∧ PySem.W.kitOne X.K (.ref (G.cl w)) (.ref D) = some b) (hg : Gl X "isinstance") (hm : X.mg "isinstance" = none) (hg2 : Gl X tx) (hm2 : X.mg tx = some (.ref D)) (he : PE X e (tE G f))
    (hd : (tx == ("__debug__" : Str)) = false := by decide)
    (h1 : starEach [e, .Name tx p2] X.env = (false, eval e X.env) :: starEach [.Name tx p2] X.env := by rfl) (h2 : starEach [.Name tx p2] X.env = (false, eval (.Name tx p2) X.env) :: starEach [] X.env := by rfl) (h3 : (backTo pos (starEach [.Name tx p2] X.env)).any (·.1) = false := by rfl) :
    PE X (.Call (.Name "isinstance" p) [e, .Name tx p2] [] pos) (tE G (eOp1 (opIsE tb) f)) := by
  refine PE.mono' (pe_callB call_isQ hg hm boot_isinstance (pa_cons he (pa_cons (pe_glob hg2 hm2 (v := .ref D) rfl hd) pa_nil h2) h1) (he := h1) (hpl := h3)) ?_
  exact fun σ H Q q => isE_le (c := .ref D) (cv := .ref D) (fun u h => h) hq σ H Q q
theorem pd_isEB {T' : String} (hq : ∀ w b, tb w = some b → XqC X.K (G.cl w) ∧ PySem.W.kitOne X.K (.ref (G.cl w)) (.type T') = some b) (hg : Gl X "isinstance") (hm : X.mg "isinstance" = none) (hg2 : Gl X tx) (hm2 : X.mg tx = none) (hv2 : bootBuiltins tx = some (.type T')) (he : PE X e (tE G f))
    (hn : tx ≠ "__name__" := by decide) (hd : (tx == ("__debug__" : Str)) = false := by decide)
    (h1 : starEach [e, .Name tx p2] X.env = (false, eval e X.env) :: starEach [.Name tx p2] X.env := by rfl) (h2 : starEach [.Name tx p2] X.env = (false, eval (.Name tx p2) X.env) :: starEach [] X.env := by rfl) (h3 : (backTo pos (starEach [.Name tx p2] X.env)).any (·.1) = false := by rfl) :
    PE X (.Call (.Name "isinstance" p) [e, .Name tx p2] [] pos) (tE G (eOp1 (opIsE tb) f)) := by
  refine PE.mono' (pe_callB call_isQ hg hm boot_isinstance (pa_cons he (pa_cons (pe_bltn hg2 hm2 hv2 (v := .ty T') rfl hn hd) pa_nil h2) h1) (he := h1) (hpl := h3)) ?_
  exact fun σ H Q q => isE_le (c := .ty T') (cv := .type T') (fun u h => h) hq σ H Q q
end
end Dv
end
section
set_option maxHeartbeats 4000000
/-! lists that two names call: for a while ambient objects -/
namespace Dv
open PySem PySem.Spec PyProof.Rows L2
variable {Sg : Type}
abbrev S2L (Sg : Type) := Sg × Option (List Str) × Option (List Str)
def AmbL (H : Hp) (o : Option Addr) (l : Option (List Str)) : Prop := match o, l with
  | some a, some xs => H a = some (.lst (xs.map V.str))
  | none, none => True
  | _, _ => False
theorem AmbL.fr {H H' : Hp} {o : Option Addr} {l : Option (List Str)} (h : AmbL H o l) (e : ∀ a, o = some a → H' a = H a) : AmbL H' o l := by
  cases o with
  | none => cases l <;> exact h
  | some a =>
    cases l with
    | none => exact h
    | some xs => exact (e a rfl).trans h
theorem AmbL.there {H : Hp} {a : Addr} {o : Option Addr} {l : Option (List Str)} (h : AmbL H o l) (e : o = some a) : ∃ xs, l = some xs ∧ H a = some (.lst (xs.map V.str)) := by
  subst e
  cases l with
  | none => exact False.elim h
  | some xs => exact ⟨xs, rfl, h⟩
def gA (G : Gd Sg) (cl : Str → Addr) (o1 o2 : Option Addr) : Gd (S2L Sg) where
  K := G.K
  ad := fun n => if n = 1 then o1.getD 0 else if n = 2 then o2.getD 0 else G.ad n
  Z := fun a => G.Z a ∨ o1 = some a ∨ o2 = some a
  Amb := fun s H => G.Amb s.1 H ∧ AmbL H o1 s.2.1 ∧ AmbL H o2 s.2.2
  frame := fun s H H' h e => ⟨G.frame s.1 H H' h.1 fun a z => e a (.inl z), h.2.1.fr fun a q => e a (.inr (.inl q)), h.2.2.fr fun a q => e a (.inr (.inr q))⟩
  there := fun s H a h z => by
    rcases z with z | z | z
    · exact G.there s.1 H a h.1 z
    · obtain ⟨xs, _, e⟩ := h.2.1.there z
      exact ⟨_, e⟩
    · obtain ⟨xs, _, e⟩ := h.2.2.there z
      exact ⟨_, e⟩
  cl := cl
mutual
def cvD : D → Bool
  | .non => true | .bl _ => true | .int _ => true | .str _ => true
  | .tup x l => !x && cvDs l
  | .lst l => cvDs l
  | .dct _ l => cvDs l
  | .scr _ => true
  | .ob n => n == 0
  | _ => false
def cvDs : List D → Bool
  | [] => true
  | d :: l => cvD d && cvDs l
end
section
variable {G : Gd Sg} {cl : Str → Addr} {o1 o2 : Option Addr} {H : Hp} {F : Addr → Prop}
mutual
theorem Rp.cv (hF : ∀ a, F a → ¬ (o1 = some a ∨ o2 = some a)) (hl : ∀ a, (o1 = some a ∨ o2 = some a) → ∃ vs, H a = some (.lst vs)) : ∀ {d : D} {v : V}, cvD d = true → Rp G H F d v → Rp (gA G cl o1 o2) H F d v
  | .non, _, _, h => h
  | .bl _, _, _, h => h
  | .int _, _, _, h => h
  | .str _, _, _, h => h
  | .tup true l, _, p, h => nomatch p
  | .tup false l, _, p, h => by
    obtain ⟨a, vs, e, s, z, r⟩ := h
    refine ⟨a, vs, e, s, fun q => q.elim z fun q => ?_, Rps.cv hF hl (show cvDs l = true from p) r⟩
    obtain ⟨us, hu⟩ := hl a q
    have := s.2.2 rfl
    rw [hu] at this
    cases this
  | .lst l, _, p, h => by
    obtain ⟨a, vs, e, s, f, z, r⟩ := h
    exact ⟨a, vs, e, s, f, fun q => q.elim z (hF a f), Rps.cv hF hl p r⟩
  | .dct ks l, _, p, h => by
    obtain ⟨a, kvs, e, s, z, k, r⟩ := h
    refine ⟨a, kvs, e, s, fun q => q.elim z fun q => ?_, k, Rps.cv hF hl p r⟩
    rcases s with ⟨_, f⟩ | ⟨o, s⟩
    · exact hF a f q
    · obtain ⟨us, hu⟩ := hl a q
      rw [hu] at s
      cases s
  | .scr ns, _, _, h => by
    obtain ⟨a, e, s⟩ := h
    refine ⟨a, e, ?_⟩
    rcases s with ⟨o, h, z⟩ | s
    · refine .inl ⟨o, h, fun q => q.elim z fun q => ?_⟩
      obtain ⟨us, hu⟩ := hl a q
      rw [hu] at h
      cases h
    · exact .inr s
  | .ob 0, _, _, h => h
  | .ob (n + 1), _, p, h => nomatch p
  | .dtt _ _, _, p, _ => nomatch p
  | .exc _ _ _, _, p, _ => nomatch p
theorem Rps.cv (hF : ∀ a, F a → ¬ (o1 = some a ∨ o2 = some a)) (hl : ∀ a, (o1 = some a ∨ o2 = some a) → ∃ vs, H a = some (.lst vs)) : ∀ {l : List D} {vs : List V}, cvDs l = true → Rps G H F l vs → Rps (gA G cl o1 o2) H F l vs
  | [], _, _, h => h
  | d :: l, _, p, h => by
    obtain ⟨p1, p2⟩ := Bool.and_eq_true_iff.mp (show (cvD d && cvDs l) = true from p)
    obtain ⟨v, r, e, h1, h2⟩ := h
    exact ⟨v, r, e, Rp.cv hF hl p1 h1, Rps.cv hF hl p2 h2⟩
end
end
def cvSl (n : Option Nat) : Sl → Sl
  | .im d => if cvD d = true then .im d else .non
  | .ow (.lst _) => match n with
    | some n => .im (.ob n)
    | none => .non
  | _ => .non
def cvE (i j : Nat) (ρ : En) : En := ρ.mapIdx fun k sl => cvSl (if k = i then some 1 else if k = j then some 2 else none) sl
def stL (ρ : En) (i : Nat) : Option (Option (List Str)) := match ρ[i]? with
  | some (.ow (.lst l)) => (strsD l).map some
  | _ => some none
def offSl : Sl → Sl
  | .im (.ob 0) => .im (.ob 0)
  | _ => .non
def offE (ρ : En) : En := ρ.map offSl
/-- the lists of the slots i and j are set free, for a while -/
def sSw (i j : Nat) (f2 : SS (S2L Sg)) : SS Sg := fun ρ S => (stL ρ i).bind fun l1 => (stL ρ j).bind fun l2 => (f2 (cvE i j ρ) (S, l1, l2)).bind fun q => match q.1 with
  | .nx => some (.nx, offE q.2.1, q.2.2.1)
  | .rt (.im (.bl b)) => some (.rt (.im (.bl b)), offE q.2.1, q.2.2.1)
  | _ => none
section
variable {G : Gd Sg} {cl : Str → Addr} {H H0 : Hp} {F F0 : Addr → Prop} {ρ : En} {σ : L2.St} {As : Nat → Option Addr} {S : Sg} {i j : Nat}
/-- whose list it is -/
def lstO (ρ : En) (As : Nat → Option Addr) (i : Nat) : Option Addr := match ρ[i]? with
  | some (.ow (.lst _)) => As i
  | _ => none
theorem lstO_as {a : Addr} (h : lstO ρ As i = some a) : As i = some a := by
  unfold lstO at h
  split at h
  · exact h
  · cases h
theorem stL_ok (R : Rel G H0 F0 ρ σ H F As S) {l : Option (List Str)} (h : stL ρ i = some l) : AmbL H (lstO ρ As i) l := by
  unfold stL at h
  unfold lstO
  cases q : ρ[i]? with
  | none => rw [q] at h; cases h; exact True.intro
  | some sl =>
    rw [q] at h
    cases sl with
    | non => cases h; exact True.intro
    | im d => cases h; exact True.intro
    | ow d =>
      cases d with
      | lst l0 =>
        obtain ⟨xs, e1, e2⟩ := Option.map_eq_some_iff.mp (show (strsD l0).map some = some l from h)
        subst e2
        obtain ⟨w, e2, a, ea, e3, vs, hv, r⟩ := R.slot i _ q
        have := r.strs' e1
        subst this
        show AmbL H (As i) (some xs)
        rw [ea]
        exact hv
      | _ => cases h; exact True.intro
theorem lstO_slot (R : Rel G H0 F0 ρ σ H F As S) {l0 : List D} (q : ρ[i]? = some (.ow (.lst l0))) : ∃ a, lstO ρ As i = some a ∧ σ[i]? = some (some (.ref a)) := by
  obtain ⟨w, e2, a, ea, e3, _⟩ := R.slot i _ q
  refine ⟨a, ?_, by rw [e2, e3]⟩
  unfold lstO
  rw [q]
  exact ea
theorem sw_le (hij : i ≠ j) {f2 : SS (S2L Sg)} : ∀ D σ H, tSs G (sSw i j f2) D σ H → ∃ o1 o2, (∀ a, o1 = some a → ¬ G.Z a) ∧ (∀ a, o2 = some a → ¬ G.Z a) ∧ (∀ a, o1 = some a → o2 ≠ some a) ∧ tSs (gA G cl o1 o2) f2 D σ H := by
  rintro D σ H ⟨H0, F0, ρ, F, As, S, c, ρ', S', R, e, k⟩
  obtain ⟨l1, e1, e⟩ := Option.bind_eq_some_iff.mp e
  obtain ⟨l2, e2, e⟩ := Option.bind_eq_some_iff.mp e
  obtain ⟨⟨c2, ρ2, S2, m1, m2⟩, e3, e⟩ := Option.bind_eq_some_iff.mp e
  have a1 := stL_ok R e1
  have a2 := stL_ok R e2
  have own : ∀ a, (lstO ρ As i = some a ∨ lstO ρ As j = some a) → ∃ n, As n = some a := fun a q => q.elim (fun q => ⟨i, lstO_as q⟩) fun q => ⟨j, lstO_as q⟩
  have hF : ∀ a, F a → ¬ (lstO ρ As i = some a ∨ lstO ρ As j = some a) := fun a f q => by
    obtain ⟨n, q⟩ := own a q
    exact (R.nF n a q).1 f
  have hl : ∀ a, (lstO ρ As i = some a ∨ lstO ρ As j = some a) → ∃ vs, H a = some (.lst vs) := fun a q => by
    rcases q with q | q
    · obtain ⟨xs, _, h⟩ := a1.there q
      exact ⟨_, h⟩
    · obtain ⟨xs, _, h⟩ := a2.there q
      exact ⟨_, h⟩
  have hz : ∀ a, (lstO ρ As i = some a ∨ lstO ρ As j = some a) → ¬ G.Z a := fun a q => by
    obtain ⟨n, q⟩ := own a q
    exact (R.nF n a q).2
  have R2 : Rel (gA G cl (lstO ρ As i) (lstO ρ As j)) H0 F0 (cvE i j ρ) σ H F (fun _ => none) (S, l1, l2) := by
    refine ⟨⟨R.gs.trk, fun a q z => z.elim (R.gs.nZ a q) (hF a q), R.gs.amb, a1, a2⟩, ?_, fun n sl' en => ?_, fun _ _ => rfl, fun _ _ _ q => (nomatch q), fun _ _ q => (nomatch q), fun _ _ q => (nomatch q), fun a o e z => R.base a o e fun q => z (.inl q), R.bF⟩
    · unfold cvE
      rw [List.length_mapIdx]
      exact R.len
    · unfold cvE at en
      rw [List.getElem?_mapIdx] at en
      obtain ⟨sl, q, eq⟩ := Option.map_eq_some_iff.mp en
      obtain ⟨w, ew, hs⟩ := R.slot n sl q
      refine ⟨w, ew, ?_⟩
      subst eq
      cases sl with
      | non => exact rfl
      | im d =>
        show SlotOk _ _ _ _ (if cvD d = true then Sl.im d else Sl.non) w
        by_cases cd : cvD d = true
        · rw [if_pos cd]
          obtain ⟨_, v, ev, hv⟩ := hs
          exact ⟨rfl, v, ev, hv.cv hF hl cd⟩
        · rw [if_neg cd]
          exact rfl
      | ow d =>
        cases d with
        | lst l0 =>
          by_cases hi : n = i
          · subst hi
            obtain ⟨a, ha, hs2⟩ := lstO_slot R q
            rw [if_pos rfl]
            refine ⟨rfl, .ref a, ?_, ?_⟩
            · rw [ew] at hs2
              exact Option.some.inj hs2
            · show V.ref a = V.ref ((lstO ρ As n).getD 0)
              rw [ha]
              rfl
          · by_cases hj : n = j
            · subst hj
              obtain ⟨a, ha, hs2⟩ := lstO_slot R q
              rw [if_neg hi, if_pos rfl]
              refine ⟨rfl, .ref a, ?_, ?_⟩
              · rw [ew] at hs2
                exact Option.some.inj hs2
              · show V.ref a = V.ref ((lstO ρ As n).getD 0)
                rw [ha]
                rfl
            · rw [if_neg hi, if_neg hj]
              exact rfl
        | _ => exact rfl
  refine ⟨lstO ρ As i, lstO ρ As j, fun a q => hz a (.inl q), fun a q => hz a (.inr q), fun a q1 q2 => hij (R.inj i j a (lstO_as q1) (lstO_as q2)), H0, F0, cvE i j ρ, F, fun _ => none, (S, l1, l2), c2, ρ2, (S2, m1, m2), R2, e3, fun σ' H' F' As' p R' => ?_⟩
  have back : Sts G H H' F F' As (fun _ => none) := by
    refine ⟨fun a o e z n => p.fr a o e (fun q => q.elim z fun q => ?_) (fun _ q => nomatch q), p.fF, fun a q z => ?_, fun _ _ q => nomatch q⟩
    · obtain ⟨m, q⟩ := own a q
      exact n m q
    · rcases p.gF a q (R'.gs.nZ a q) with h | h | ⟨_, h⟩
      · exact .inl h
      · exact .inr (.inl h)
      · cases h
  have R3 : Rel G H0 F0 (offE ρ2) σ' H' F' (fun _ => none) S2 := by
    refine ⟨⟨R'.gs.trk, fun a q z => R'.gs.nZ a q (.inl z), R'.gs.amb.1⟩, by unfold offE; rw [List.length_map]; exact R'.len, fun n sl' en => ?_, fun _ _ => rfl, fun _ _ _ q => (nomatch q), fun _ _ q => (nomatch q), fun _ _ q => (nomatch q), fun a o e z => R'.base a o e fun q => q.elim z fun q => ?_, R'.bF⟩
    · unfold offE at en
      rw [List.getElem?_map] at en
      obtain ⟨sl, q, eq⟩ := Option.map_eq_some_iff.mp en
      obtain ⟨w, ew, hs⟩ := R'.slot n sl q
      refine ⟨w, ew, ?_⟩
      subst eq
      unfold offSl
      split
      · obtain ⟨_, v, ev, hv⟩ := hs
        exact ⟨rfl, v, ev, hv⟩
      · exact rfl
    · obtain ⟨m, q⟩ := own a q
      rw [R.new m a q] at e
      cases e
  have kk := k σ' H' F' (fun _ => none) back
  match c2, e with
  | .nx, e =>
    cases e
    exact kk R3
  | .rt (.im (.bl b)), e =>
    cases e
    exact fun v hv => kk R3 v hv
  | .rt (.im .non), e => cases e
  | .rt (.im (.int _)), e => cases e
  | .rt (.im (.str _)), e => cases e
  | .rt (.im (.tup _ _)), e => cases e
  | .rt (.im (.lst _)), e => cases e
  | .rt (.im (.dct _ _)), e => cases e
  | .rt (.im (.ob _)), e => cases e
  | .rt (.im (.scr _)), e => cases e
  | .rt (.im (.dtt _ _)), e => cases e
  | .rt (.im (.exc _ _ _)), e => cases e
  | .rt (.nw _), e => cases e
  | .rt (.br _), e => cases e
  | .bk, e => cases e
  | .ct, e => cases e
/-- .. ahead of statements -/
theorem ss_sw {X : Cx} {rest : List Stmt} (hij : i ≠ j) {f2 : SS (S2L Sg)} (h : ∀ o1 o2, (∀ a, o1 = some a → ¬ G.Z a) → (∀ a, o2 = some a → ¬ G.Z a) → (∀ a, o1 = some a → o2 ≠ some a) → PSs X rest (tSs (gA G cl o1 o2) f2)) : PSs X rest (tSs G (sSw i j f2)) :=
  ⟨fun pins s σ H D I q => by
    obtain ⟨o1, o2, h1, h2, h3, q⟩ := sw_le (cl := cl) hij D σ H q
    exact (h o1 o2 h1 h2 h3).run pins s σ H D I q⟩
/-- a dict of a slot is frozen -/
def sFrzD (i : Nat) (f : SS Sg) : SS Sg := fun ρ S => match ρ[i]? with
  | some (.ow (.dct _ _)) => sFrz i f ρ S
  | _ => f ρ S
theorem frzd_le {f : SS Sg} : ∀ D σ H, tSs G (sFrzD i f) D σ H → tSs G f D σ H := by
  rintro D σ H ⟨H0, F0, ρ, F, As, S, c, ρ', S', R, e, k⟩
  unfold sFrzD at e
  split at e
  · exact frz_le (i := i) D σ H ⟨H0, F0, ρ, F, As, S, c, ρ', S', R, e, k⟩
  · exact ⟨H0, F0, ρ, F, As, S, c, ρ', S', R, e, k⟩
theorem ss_frzD {X : Cx} {rest : List Stmt} {f : SS Sg} (h : PSs X rest (tSs G f)) : PSs X rest (tSs G (sFrzD i f)) := PSs.mono' h frzd_le
end
end Dv
end
section
set_option maxHeartbeats 4000000
/-! what is shown of lists with dicts; what is done to a list that two names call -/
namespace Dv
open PySem PySem.Spec PyProof.Rows L2
variable {Sg : Type}
def keyPy : Key → PyData
  | .inl i => .int i
  | .inr s => .str s
mutual
inductive Dq (K : PySem.W.Frag) (H : Hp) : V → PyData → Prop
  | non : Dq K H .non .none
  | bl (b : Bool) : Dq K H (.bl b) (.bool b)
  | int (i : Int) : Dq K H (.int i) (.int i)
  | str (x : Str) : Dq K H (.str x) (.str x)
  | lst {a : Addr} {xs : List V} {ds : List PyData} : H a = some (.lst xs) → DqAll K H xs ds → Dq K H (.ref a) (.list ds)
  | tup {a : Addr} {xs : List V} {ds : List PyData} : SqT K H a xs → DqAll K H xs ds → Dq K H (.ref a) (.tuple ds)
  | dct {a : Addr} {kvs : List (Key × V)} {ds : List PyData} : Rd H a (.dK kvs) → DqAll K H (kvs.map (·.2)) ds → Dq K H (.ref a) (.dict ((kvs.map fun p => keyPy p.1).zip ds))
inductive DqAll (K : PySem.W.Frag) (H : Hp) : List V → List PyData → Prop
  | nil : DqAll K H [] []
  | cons {v : V} {vs : List V} {d : PyData} {ds : List PyData} : Dq K H v d → DqAll K H vs ds → DqAll K H (v :: vs) (d :: ds)
end
theorem DqAll.length {K : PySem.W.Frag} {H : Hp} : ∀ {vs : List V} {ds : List PyData}, DqAll K H vs ds → vs.length = ds.length
  | _, _, .nil => rfl
  | _, _, .cons _ h => by rw [List.length_cons, List.length_cons, DqAll.length h]
section
variable {X : Cx} {pins : List (Addr × Obj)} {σ : L2.St} {H : Hp} {s : Shared}
theorem pairs_vals {P : Program} {w : World} : ∀ {es : List DictEntry} {vs : List (Key × Value)} {kvs : List (Key × V)}, Pairs (mixKind P w) es vs → KV kvs vs → Vals (kvs.map (·.2)) (es.map (·.val))
  | [], _, _, h, k => by
    cases h
    cases k
    exact .nil
  | e :: es, _, _, h, k => by
    cases h with
    | cons h1 h2 h3 =>
      cases k with
      | cons k1 k2 =>
        rw [List.map_cons, List.map_cons]
        refine .cons ?_ (pairs_vals h3 k2)
        rw [h2]
        exact k1.2
theorem pairs_keys {P : Program} {w : World} {h : Heap} : ∀ {es : List DictEntry} {vs : List (Key × Value)} {kvs : List (Key × V)}, Pairs (mixKind P w) es vs → KV kvs vs → ReadsAll h (es.map (·.key)) (kvs.map fun p => keyPy p.1) []
  | [], _, _, hh, k => by
    cases hh
    cases k
    exact .nil
  | e :: es, _, _, hh, k => by
    cases hh with
    | cons h1 h2 h3 =>
      cases k with
      | cons k1 k2 =>
        rw [List.map_cons, List.map_cons]
        refine ReadsAll.cons (as := []) (bs := []) ?_ (pairs_keys h3 k2)
        rw [k1.1]
        rcases keyIs_shape h1 with ⟨i, t, e1, e2⟩ | ⟨x, t, e1, e2⟩
        · rw [e1, e2]
          exact Reads.int i t
        · rw [e1, e2]
          exact Reads.str x t
theorem zip_fst {α β : Type} : ∀ {a : List α} {b : List β}, a.length = b.length → (a.zip b).map (·.1) = a
  | [], [], _ => rfl
  | x :: a, y :: b, h => by
    rw [List.zip_cons_cons, List.map_cons, zip_fst (by simpa using h)]
theorem zip_snd {α β : Type} : ∀ {a : List α} {b : List β}, a.length = b.length → (a.zip b).map (·.2) = b
  | [], [], _ => rfl
  | x :: a, y :: b, h => by
    rw [List.zip_cons_cons, List.map_cons, zip_snd (by simpa using h)]
mutual
theorem Dq.reads (I : Inv X pins σ H s) (sm : H sysModules = none) : ∀ {d : PyData} {v : V} {u : Value}, Dq X.K H v d → RelV v u → ∃ as, Reads s.heap u d as ∧ sysModules ∉ as
  | _, _, _, .non, r => by cases r; exact ⟨_, Reads.none, List.not_mem_nil⟩
  | _, _, _, .bl b, r => by cases r; exact ⟨_, Reads.bool b, List.not_mem_nil⟩
  | _, _, _, .int i, r => by obtain ⟨t, rfl⟩ := r; exact ⟨_, Reads.int i t, List.not_mem_nil⟩
  | _, _, _, .str x, r => by obtain ⟨t, rfl⟩ := r; exact ⟨_, Reads.str x t, List.not_mem_nil⟩
  | _, _, _, .lst (a := a) hs ha, r => by
    cases r
    obtain ⟨_, its, n, rv, ho⟩ := (show ObjOk X.prog X.w H s.heap a (.lst _) from I.hok a _ hs)
    obtain ⟨as, hr, nm⟩ := Dq.readsAll I sm ha rv
    refine ⟨_, Reads.list ho rfl rfl (by simpa using hr), fun q => ?_⟩
    rcases List.mem_cons.mp q with q | q
    · rw [← q, sm] at hs; cases hs
    · exact nm q
  | _, _, _, .tup hs ha, r => by
    cases r
    obtain ⟨its, rv, ⟨o, ho, hc, n, hd⟩, _⟩ := I.tuple hs
    obtain ⟨as, hr, nm⟩ := Dq.readsAll I sm ha rv
    exact ⟨_, Reads.tuple ho hc hd hr, nm⟩
  | _, _, _, .dct (a := a) hs ha, r => by
    cases r
    obtain ⟨_, hm, vs, hv, o, es, ep, ho, hx, hdt, _, hp, _⟩ := dk_rd I.hok hs
    obtain ⟨bs, hr, nm⟩ := Dq.readsAll I sm ha (pairs_vals hp hv)
    have hl := DqAll.length ha
    rw [List.length_map] at hl
    have hl' : (List.map (fun p : Key × V => keyPy p.1) _).length = _ := (List.length_map ..).trans hl
    refine ⟨_, Reads.dict (as := []) (bs := bs) ho hx.1 hdt (by rw [zip_fst hl']; exact pairs_keys hp hv) (by rw [zip_snd hl']; exact hr), fun q => ?_⟩
    rcases List.mem_cons.mp (show sysModules ∈ a :: ([] ++ bs) from q) with q | q
    · rw [← q] at hm; simp at hm
    · exact nm q
theorem Dq.readsAll (I : Inv X pins σ H s) (sm : H sysModules = none) : ∀ {ds : List PyData} {vs : List V} {us : List Value}, DqAll X.K H vs ds → Vals vs us → ∃ as, ReadsAll s.heap us ds as ∧ sysModules ∉ as
  | _, _, _, .nil, r => by cases r; exact ⟨_, ReadsAll.nil, List.not_mem_nil⟩
  | _, _, _, .cons h1 h2, r => by
    cases r with
    | cons r1 r2 =>
      obtain ⟨as, q1, n1⟩ := Dq.reads I sm h1 r1
      obtain ⟨bs, q2, n2⟩ := Dq.readsAll I sm h2 r2
      exact ⟨_, ReadsAll.cons q1 q2, fun q => (List.mem_append.mp q).elim n1 n2⟩
end
def okR' (p : PyData) : Bool := p.showable && decide (p.depth ≤ 60) && decide (p.shown.length ≤ sizeLine)
def rReprQ (K : PySem.W.Frag) : List V → Hp → VK → Prop := fun xs H Q => ∃ a p, xs = [.ref a] ∧ Dq K H (.ref a) p ∧ okR' p = true ∧ Q (.str p.shown) H
theorem call_reprQ {n : Nat} (sm : (X.K.lookup sysModules).isSome = true) (room : Room n X.A) (gu : X.A.guards = some []) : CallR X (.builtin "repr") (rReprQ X.K) := by
  intro pins s σ H xs us Q I r h
  obtain ⟨a, p, rfl, hd, ok, q⟩ := h
  obtain ⟨o, ho⟩ := Option.isSome_iff_exists.mp sm
  have sn : H sysModules = none := (I.bs _ o (I.ok.mod.kin _ o ho)).2
  cases r with
  | cons r1 r2 =>
    cases r2
    cases r1
    obtain ⟨h1, h4⟩ := Bool.and_eq_true_iff.mp ok
    obtain ⟨h1, h3⟩ := Bool.and_eq_true_iff.mp h1
    obtain ⟨as, rd, nm⟩ := Dq.reads I sn hd (show RelV (.ref a) (.ref a) from rfl)
    have hu := room.un
    have h3' := of_decide_eq_true h3
    exact repr_of_reads' rd h1 (fun _ => nm) gu (by omega) (fun _ _ e => e) (fun h' u tk hk => ⟨.str p.shown, H, I.kept hk, ⟨u, rfl⟩, q⟩) (of_decide_eq_true h4)
end
/-! ### data over such a ground -/
mutual
def toPyA (l1 l2 : Option (List Str)) : D → Option PyData
  | .non => some .none
  | .bl b => some (.bool b)
  | .int i => some (.int i)
  | .str x => some (.str x)
  | .tup _ l => (toPysA l1 l2 l).bind fun ps => some (.tuple ps)
  | .lst l => (toPysA l1 l2 l).bind fun ps => some (.list ps)
  | .dct ks l => (toPysA l1 l2 l).bind fun ps => some (.dict ((ks.map keyPy).zip ps))
  | .ob 1 => l1.map fun xs => .list (xs.map .str)
  | .ob 2 => l2.map fun xs => .list (xs.map .str)
  | _ => none
def toPysA (l1 l2 : Option (List Str)) : List D → Option (List PyData)
  | [] => some []
  | d :: l => (toPyA l1 l2 d).bind fun p => (toPysA l1 l2 l).bind fun ps => some (p :: ps)
end
theorem dq_strs {K : PySem.W.Frag} {H : Hp} : ∀ xs : List Str, DqAll K H (xs.map V.str) (xs.map PyData.str)
  | [] => .nil
  | x :: xs => .cons (.str x) (dq_strs xs)
theorem dkF_rd {H : Hp} {F : Addr → Prop} {a : Addr} {kvs : List (Key × V)} (h : DkF H F a kvs) : Rd H a (.dK kvs) := h.rd
section
variable {X : Cx} {G : Gd Sg} {cl : Str → Addr} {o1 o2 : Option Addr} {H : Hp} {F : Addr → Prop} {S : S2L Sg}
mutual
theorem Rp.dq (hK : G.K = X.K) (am : (gA G cl o1 o2).Amb S H) : ∀ {d : D} {v : V} {p : PyData}, Rp (gA G cl o1 o2) H F d v → toPyA S.2.1 S.2.2 d = some p → Dq X.K H v p
  | .non, _, _, h, e => by cases e; cases h; exact .non
  | .bl b, _, _, h, e => by cases e; cases h; exact .bl b
  | .int b, _, _, h, e => by cases e; cases h; exact .int b
  | .str b, _, _, h, e => by cases e; cases h; exact .str b
  | .tup _ l, _, _, h, e => by
    obtain ⟨ps, e1, e2⟩ := Option.bind_eq_some_iff.mp (show (toPysA S.2.1 S.2.2 l).bind (fun ps => some (PyData.tuple ps)) = some _ from e)
    cases e2
    obtain ⟨a, vs, rfl, ⟨s, _⟩, z, r⟩ := h
    exact .tup (hK ▸ s) (Rps.dq hK am r e1)
  | .lst l, _, _, h, e => by
    obtain ⟨ps, e1, e2⟩ := Option.bind_eq_some_iff.mp (show (toPysA S.2.1 S.2.2 l).bind (fun ps => some (PyData.list ps)) = some _ from e)
    cases e2
    obtain ⟨a, vs, rfl, s, _, z, r⟩ := h
    exact .lst s (Rps.dq hK am r e1)
  | .dct ks l, _, _, h, e => by
    obtain ⟨ps, e1, e2⟩ := Option.bind_eq_some_iff.mp (show (toPysA S.2.1 S.2.2 l).bind (fun ps => some (PyData.dict ((ks.map keyPy).zip ps))) = some _ from e)
    cases e2
    obtain ⟨a, kvs, rfl, s, z, k, r⟩ := h
    have := Dq.dct (K := X.K) s.rd (Rps.dq hK am r e1)
    rw [← k, List.map_map]
    exact this
  | .ob 0, _, _, _, e => by cases e
  | .ob 1, v, _, h, e => by
    obtain ⟨xs, e1, e2⟩ := Option.map_eq_some_iff.mp (show S.2.1.map (fun xs => PyData.list (xs.map .str)) = some _ from e)
    subst e2
    have h : v = .ref (o1.getD 0) := h
    have am1 := am.2.1
    rw [e1] at am1
    cases o1 with
    | none => exact False.elim am1
    | some a =>
      subst h
      exact .lst (show H a = _ from am1) (dq_strs xs)
  | .ob 2, v, _, h, e => by
    obtain ⟨xs, e1, e2⟩ := Option.map_eq_some_iff.mp (show S.2.2.map (fun xs => PyData.list (xs.map .str)) = some _ from e)
    subst e2
    have h : v = .ref (o2.getD 0) := h
    have am1 := am.2.2
    rw [e1] at am1
    cases o2 with
    | none => exact False.elim am1
    | some a =>
      subst h
      exact .lst (show H a = _ from am1) (dq_strs xs)
  | .ob (n + 3), _, _, _, e => by cases e
  | .scr _, _, _, _, e => by cases e
  | .dtt _ _, _, _, _, e => by cases e
  | .exc _ _ _, _, _, _, e => by cases e
theorem Rps.dq (hK : G.K = X.K) (am : (gA G cl o1 o2).Amb S H) : ∀ {l : List D} {vs : List V} {ps : List PyData}, Rps (gA G cl o1 o2) H F l vs → toPysA S.2.1 S.2.2 l = some ps → DqAll X.K H vs ps
  | [], _, _, h, e => by
    cases e
    rw [show _ = [] from h]
    exact .nil
  | d :: l, _, _, h, e => by
    obtain ⟨p, e1, e2⟩ := Option.bind_eq_some_iff.mp (show (toPyA S.2.1 S.2.2 d).bind (fun p => (toPysA S.2.1 S.2.2 l).bind fun ps => some (p :: ps)) = some _ from e)
    obtain ⟨ps, e3, e4⟩ := Option.bind_eq_some_iff.mp e2
    cases e4
    obtain ⟨v, r, rfl, h1, h2⟩ := h
    exact .cons (Rp.dq hK am h1 e1) (Rps.dq hK am h2 e3)
end
end
/-- repr of a list -/
def eReprA (f : SE (S2L Sg)) : SE (S2L Sg) := fun ρ S => (f ρ S).bind fun p => match p.1.d with
  | .lst l => (toPysA p.2.2.2.1 p.2.2.2.2 l).bind fun ps => if okR' (.list ps) = true then some (.im (.str (PyData.shown (.list ps))), p.2) else none
  | _ => none
section
variable {X : Cx} {G : Gd Sg} {cl : Str → Addr} {o1 o2 : Option Addr} {e : Expr} {pos : Pos} {f : SE (S2L Sg)} {p p2 : Pos}
theorem pd_reprA {n : Nat} (hK : G.K = X.K) (sm : (X.K.lookup sysModules).isSome = true) (room : Room n X.A) (gu : X.A.guards = some []) (hg : Gl X "repr") (hm : X.mg "repr" = none) (he : PE X e (tE (gA G cl o1 o2) f))
    (h1 : starEach [e] X.env = (false, eval e X.env) :: starEach [] X.env := by rfl) (h3 : (backTo pos (starEach [] X.env)).any (·.1) = false := by rfl) :
    PE X (.Call (.Name "repr" p) [e] [] pos) (tE (gA G cl o1 o2) (eReprA f)) := by
  refine PE.mono' (pe_callB (call_reprQ sm room gu) hg hm boot_repr (pa_cons he pa_nil h1) (he := h1) (hpl := h3)) ?_
  rintro σ H Q ⟨H0, F0, ρ, F, As, S, rr, ρ', S', R, e, k⟩
  obtain ⟨⟨r1, ρ1, S1⟩, e1, e⟩ := Option.bind_eq_some_iff.mp e
  refine ⟨H0, F0, ρ, F, As, S, r1, ρ1, S1, R, e1, fun v1 H1 F1 A1 p1 R1 h1 => ?_⟩
  have hr := h1.rb
  dsimp only at e
  cases hd : r1.d with
  | lst l =>
    rw [hd] at hr e
    obtain ⟨ps, e4, e5⟩ := Option.bind_eq_some_iff.mp (show (toPysA S1.2.1 S1.2.2 l).bind (fun ps => if okR' (.list ps) = true then some (Rv.im (.str (PyData.shown (.list ps))), (ρ1, S1)) else none) = some (rr, ρ', S') from e)
    by_cases ok : okR' (.list ps) = true
    · rw [if_pos ok] at e5; cases e5
      obtain ⟨a, vs, rfl, s, z, r⟩ := hr
      refine ⟨a, .list ps, rfl, .lst s (r.dq hK R1.gs.amb e4), ok, ?_⟩
      exact (R1.kn fun v H' F' A' p R' h => k v H' F' A' (p1.trans p) R' (h.back p1)).im rfl
    · rw [if_neg ok] at e5; cases e5
  | _ => rw [hd] at e; cases e
/-- isinstance(e, list) -/
def eIsLA (f : SE (S2L Sg)) : SE (S2L Sg) := fun ρ S => (f ρ S).bind fun p => match p.1.d with
  | .ob 1 => p.2.2.2.1.bind fun _ => some (.im (.bl true), p.2)
  | .ob 2 => p.2.2.2.2.bind fun _ => some (.im (.bl true), p.2)
  | d => (opIsI "list" d).bind fun r => some (r, p.2)
theorem pd_isLA (hK : G.K = X.K) (hg : Gl X "isinstance") (hm : X.mg "isinstance" = none) (hg2 : Gl X "list") (hm2 : X.mg "list" = none) (he : PE X e (tE (gA G cl o1 o2) f))
    (h1 : starEach [e, .Name "list" p2] X.env = (false, eval e X.env) :: starEach [.Name "list" p2] X.env := by rfl) (h2 : starEach [.Name "list" p2] X.env = (false, eval (.Name "list" p2) X.env) :: starEach [] X.env := by rfl) (h3 : (backTo pos (starEach [.Name "list" p2] X.env)).any (·.1) = false := by rfl) :
    PE X (.Call (.Name "isinstance" p) [e, .Name "list" p2] [] pos) (tE (gA G cl o1 o2) (eIsLA f)) := by
  refine PE.mono' (pe_callB call_isi hg hm boot_isinstance (pa_cons he (pa_cons (pe_bltn hg2 hm2 boot_list (v := .ty "list") rfl (by decide) (by decide)) pa_nil h2) h1) (he := h1) (hpl := h3)) ?_
  rintro σ H Q ⟨H0, F0, ρ, F, As, S, rr, ρ', S', R, e, k⟩
  obtain ⟨⟨r1, ρ1, S1⟩, e1, e⟩ := Option.bind_eq_some_iff.mp e
  refine ⟨H0, F0, ρ, F, As, S, r1, ρ1, S1, R, e1, fun v1 H1 F1 A1 p1 R1 h1 => ?_⟩
  have hr := h1.rb
  have kk : (rr, ρ', S') = (rr, ρ1, S1) → KN (gA G cl o1 o2) H1 F1 rr Q := fun e' => by
    cases e'
    exact R1.kn fun v H' F' A' p R' h => k v H' F' A' (p1.trans p) R' (h.back p1)
  have ob : ∀ (o : Option Addr) (l : Option (List Str)), AmbL H1 o l → v1 = .ref (o.getD 0) → (l.bind fun _ => some (Rv.im (.bl true), (ρ1, S1))) = some (rr, ρ', S') → rIsi X.K [v1, V.ty "list"] H1 Q := by
    intro o l am hv e
    obtain ⟨xs, e1, e⟩ := Option.bind_eq_some_iff.mp e
    subst e1
    cases e
    cases o with
    | none => exact False.elim am
    | some a =>
      subst hv
      exact ⟨.ref a, .ty "list", _, _, _, rfl, .ty "list", .base (.lst (show H1 a = _ from am)), kit_ty (kitB_all "list" (by decide) "list" (by decide)), (kk rfl).im rfl⟩
  have gen : ∀ d, r1.d = d → ((opIsI "list" d).bind fun r => some (r, (ρ1, S1))) = some (rr, ρ', S') → rIsi X.K [v1, V.ty "list"] H1 Q := by
    intro d hd e
    obtain ⟨r3, e3, e⟩ := Option.bind_eq_some_iff.mp e
    obtain ⟨t, et, e3⟩ := Option.bind_eq_some_iff.mp e3
    cases e3
    cases e
    rw [hd] at hr
    exact ⟨v1, .ty "list", _, _, _, rfl, .ty "list", hK ▸ (show TyX G.K H1 v1 (.type t) from Rb.tyX (G := gA G cl o1 o2) hr et), kit_ty (kitB_all t (tyD_mem et) "list" (by decide)), (kk rfl).im rfl⟩
  dsimp only at e
  cases hd : r1.d with
  | ob n =>
    rw [hd] at hr e
    match n, hr, e with
    | 0, hr, e => cases e
    | 1, hr, e => exact ob o1 _ R1.gs.amb.2.1 hr e
    | 2, hr, e => exact ob o2 _ R1.gs.amb.2.2 hr e
    | n + 3, hr, e => cases e
  | _ => rw [hd] at e; exact gen _ hd e
/-- x.append('m') -/
def sAppA (i : Nat) (m : Str) : SS (S2L Sg) := fun ρ S => match ρ[i]? with
  | some (.im (.ob 1)) => S.2.1.bind fun xs => if xs.length < sizeLine then some (.nx, ρ, (S.1, some (xs ++ [m]), S.2.2)) else none
  | _ => none
theorem ds_appA {i : Nat} {x m : Str} {apos cpos p' p3 : Pos} {j : Nat} (hK : G.K = X.K) (z1 : ∀ a, o1 = some a → ¬ G.Z a) (d12 : ∀ a, o1 = some a → o2 ≠ some a) (hN : X.N[i]? = some x) (hv : Vis X.env.scope x)
    (hbase : attributeBase (.Name x p') "append" X.env (eval (.Name x p') X.env) = eval (.Name x p') X.env := by rfl)
    (hline : (apos.endLine == cpos.line) = true := by rfl) (hs : swapsWith (.Call (.Attribute (.Name x p') "append" apos) [.Constant (.str m) j p3] [] cpos) none pos.line X.env = pure false := by rfl)
    (hd : (x == ("__debug__" : Str)) = false := by decide) (hcd : (x == ("__classdict__" : Str)) = false := by decide) :
    PS X (.Expr (.Call (.Attribute (.Name x p') "append" apos) [.Constant (.str m) j p3] [] cpos) pos) (tSs (gA G cl o1 o2) (sAppA i m)) := by
  refine PS.mono' (ps_expr (pe_bm F.plainAttrs_list F.slot_list_append F.type_list_append mt_append (pe_var hN hv hd hcd) (pa_cons pe_str pa_nil rfl) hbase rfl hline rfl rfl) hs) ?_
  rintro D σ H ⟨H0, F0, ρ, F, As, S, c, ρ', S', R, e, k⟩
  unfold sAppA at e
  cases q : ρ[i]? with
  | none => rw [q] at e; cases e
  | some sl =>
    rw [q] at e
    match sl, e, q with
    | .im (.ob 1), e, q =>
      obtain ⟨xs, e1, e⟩ := Option.bind_eq_some_iff.mp (show S.2.1.bind (fun xs => if xs.length < sizeLine then some (Ct.nx, ρ, (S.1, some (xs ++ [m]), S.2.2)) else none) = some (c, ρ', S') from e)
      by_cases hz : xs.length < sizeLine
      · rw [if_pos hz] at e; cases e
        obtain ⟨w, e2, ea, v, e3, hv⟩ := R.slot i _ q
        subst e3
        have hv : v = .ref (o1.getD 0) := hv
        have am := R.gs.amb
        have am1 := am.2.1
        rw [e1] at am1
        cases o1 with
        | none => exact False.elim am1
        | some a =>
          subst hv
          have am1 : H a = some (.lst (xs.map V.str)) := am1
          have nz := z1 a rfl
          have n2 := d12 a rfl
          obtain ⟨R2, p2⟩ := R.ambient (H' := upd H a (.lst ((xs ++ [m]).map V.str))) (S' := (S.1, some (xs ++ [m]), S.2.2)) (fun b z => upd_ne fun q => z (.inr (.inl (by rw [q])))) ⟨G.frame S.1 H _ am.1 fun b z => upd_ne fun q => nz (q ▸ z), upd_same, am.2.2.fr fun b q => upd_ne fun r => n2 (r ▸ q)⟩
          refine ⟨.ref a, e2, .inl ⟨rfl, _, .inl (.inl am1)⟩, a, _, .str m, rfl, rfl, am1, by rw [List.length_map]; exact hz, ?_⟩
          have := k σ _ F As (R.stp p2) R2
          rw [List.map_append] at this
          exact this
      · rw [if_neg hz] at e; cases e
end
end Dv
end
section
set_option maxHeartbeats 4000000
namespace Dv
open PySem PySem.Spec PyProof.Rows L2
variable {Sg : Type}
/-! ### a call of what gives a new list -/
def newR : Rv → Option Rv
  | .im (.lst l) => if puresD l = true then some (.nw (.lst l)) else none
  | .im d => if pureD d = true then some (.im d) else (match d with
    | .dct ks l => some (.im (.dct ks l))
    | _ => none)
  | _ => none
def eCallN (n nk : Nat) (bd : List D → List D → List D) (m : FD Sg) (f g : SA Sg) : SE Sg := fun ρ S => (f ρ S).bind fun p => (g p.2.1 p.2.2).bind fun q =>
  if (p.1.length = n ∧ q.1.length = nk) ∧ (puresD p.1 = true ∧ puresD q.1 = true) then (m (bd p.1 q.1) q.2.2).bind fun r => (newR r.1).bind fun r' => some (r', q.2.1, r.2) else none
section
variable {X : Cx} {G : Gd Sg} {e : Expr} {es : List Expr} {pos : Pos} {k n np : Nat} {f : Addr} {fd : FuncData} {ps ks : List Str} {x : Str} {p : Pos} {bd : List D → List D → List D} {m : FD Sg} {kws : List Keyword} {fe ge : SA Sg}
theorem callN_le {bdV : List V → List V → List V → Prop} (hb : ∀ (vs zs vl : List V), bdV vs zs vl → vl.length = np ∧ ∀ (H : Hp) (F : Addr → Prop) (ds es : List D), Rps G H F ds vs → Rps G H F es zs → Rps G H F (bd ds es) vl) :
    ∀ σ H Q, tE G (eCallN n ks.length bd m fe ge) σ H Q → tCl n ks.length (spF G np m) bdV (tAF G fe) (tAF G ge) σ H Q := by
  rintro σ H Q ⟨H0, F0, ρ, F, As, S, r, ρ', S', R, e, kk⟩
  obtain ⟨⟨ds, ρ1, S1⟩, e1, e⟩ := Option.bind_eq_some_iff.mp e
  obtain ⟨⟨es, ρ2, S2⟩, e2, e⟩ := Option.bind_eq_some_iff.mp e
  dsimp only at e
  by_cases hl : (ds.length = n ∧ es.length = ks.length) ∧ (puresD ds = true ∧ puresD es = true)
  · rw [if_pos hl] at e
    obtain ⟨⟨r3, S3⟩, e3, e⟩ := Option.bind_eq_some_iff.mp e
    obtain ⟨r4, e4, e⟩ := Option.bind_eq_some_iff.mp e
    cases e
    obtain ⟨⟨hl1, hl2⟩, hp1, hp2⟩ := hl
    refine ⟨H0, F0, ρ, F, As, S, ds, ρ1, S1, R, e1, fun vs H1 F1 A1 p1 R1 h1 => ?_⟩
    refine ⟨H0, F0, ρ1, F1, A1, S1, es, _, S2, R1, e2, fun zs H2 F2 A2 p2 R2 h2 => ⟨by rw [h1.length]; exact hl1, by rw [h2.length]; exact hl2, fun vl hv => ?_⟩⟩
    obtain ⟨l1, hb1⟩ := hb vs zs vl hv
    have g2 : Gs G H2 (fun _ => False) S2 := ⟨fun a q => q.elim, fun a q => q.elim, R2.gs.amb⟩
    refine ⟨fun _ => False, S2, bd ds es, _, _, l1, g2, hb1 H2 _ ds es ((h1.fr p2.fr p2.fF).pure hp1) (h2.pure hp2), e3, fun v H' F' fr fF gF gs h => ?_⟩
    have new : ∀ a, F' a → H2 a = none := fun a q => (gF a q (gs.nZ a q)).resolve_left id
    have g3 : Gs G H' (fun a => F2 a ∨ F' a) S3 := ⟨fun a q => by
      rcases q with q | q
      · obtain ⟨o, ho⟩ := R2.gs.trk a q
        exact ⟨o, fr a o ho (R2.gs.nZ a q)⟩
      · exact gs.trk a q, fun a q => q.elim (R2.gs.nZ a) (gs.nZ a), gs.amb⟩
    have g4 : Gs G H' F2 S3 := ⟨fun a q => by
      obtain ⟨o, ho⟩ := R2.gs.trk a q
      exact ⟨o, fr a o ho (R2.gs.nZ a q)⟩, R2.gs.nZ, gs.amb⟩
    have imm : ∀ d, r3 = .im d → r = .im d → Q v H' := fun d e5 e6 => by
      subst e5 e6
      obtain ⟨p3, R3, h3⟩ := R2.called fr (fun _ q => .inl q) (fun a q _ => q.elim .inl fun q => .inr (new a q)) g3 (r := .im d) (Rp.fr Fr.refl (fun _ q => .inr q) h)
      exact kk v H' _ A2 ((p1.trans p2).trans p3) R3 (h3.back (p1.trans p2))
    match r3, e4, h, imm with
    | .im (.lst l), e4, h, imm =>
      have e4 : (if puresD l = true then some (Rv.nw (.lst l)) else none) = some r := e4
      by_cases hp : puresD l = true
      · rw [if_pos hp] at e4; cases e4
        obtain ⟨a, us, rfl, s, fa, z, rr⟩ := h
        have na := new a fa
        obtain ⟨p3, R3, h3⟩ := R2.called fr (fun _ q => q) (fun a q _ => .inl q) g4 (r := .nw (.lst l)) ⟨a, rfl, ⟨us, s, rr.pure hp⟩, (R2.gs.fresh na).1, z, na⟩
        exact kk _ H' _ A2 ((p1.trans p2).trans p3) R3 (h3.back (p1.trans p2))
      · rw [if_neg hp] at e4; cases e4
    | .im .non, e4, h, imm => cases e4; exact imm _ rfl rfl
    | .im (.bl _), e4, h, imm => cases e4; exact imm _ rfl rfl
    | .im (.int _), e4, h, imm => cases e4; exact imm _ rfl rfl
    | .im (.str _), e4, h, imm => cases e4; exact imm _ rfl rfl
    | .im (.ob _), e4, h, imm => cases e4; exact imm _ rfl rfl
    | .im (.scr _), e4, h, imm => cases e4; exact imm _ rfl rfl
    | .im (.dct _ _), e4, h, imm => cases e4; exact imm _ rfl rfl
    | .im (.dtt _ _), e4, h, imm => cases e4
    | .im (.tup x l), e4, h, imm =>
      have e4 : (if pureD (.tup x l) = true then some (Rv.im (.tup x l)) else none) = some r := e4
      by_cases hp : pureD (.tup x l) = true
      · rw [if_pos hp] at e4; cases e4; exact imm _ rfl rfl
      · rw [if_neg hp] at e4; cases e4
    | .im (.exc c ns l), e4, h, imm =>
      have e4 : (if pureD (.exc c ns l) = true then some (Rv.im (.exc c ns l)) else none) = some r := e4
      by_cases hp : pureD (.exc c ns l) = true
      · rw [if_pos hp] at e4; cases e4; exact imm _ rfl rfl
      · rw [if_neg hp] at e4; cases e4
    | .nw _, e4, h, imm => cases e4
    | .br _, e4, h, imm => cases e4
  · rw [if_neg hl] at e; cases e
theorem pd_callN (Fn : FnG X.prog X.w X.K X.mg X.base k f fd ps (spF G np m)) (hnp : ps.length = np) (room : Room k X.A) (gu : X.A.guards = some []) (hg : Gl X x) (hm : X.mg x = some (.ref f)) (hk : PySem.W.keepIn X.K (.ref f) = true) (bn : Bn X.K fd ps n ks bd)
    (ha : PA X (e :: es) (tAF G fe)) (hkw : PK X kws (tAF G ge)) (hall : (backToKw pos (keywordEach kws X.env)).all (·.1.isSome) = true := by rfl) (hks : (backToKw pos (keywordEach kws X.env)).filterMap (·.1) = ks := by rfl)
    (hdb : (x == ("__debug__" : Str)) = false := by decide) (he : starEach (e :: es) X.env = (false, eval e X.env) :: starEach es X.env := by rfl)
    (hpl : ((backTo pos (starEach (e :: es) X.env)).any (·.1) || (backToKw pos (keywordEach kws X.env)).any (·.1.isNone)) = false := by rfl) :
    PE X (.Call (.Name x p) (e :: es) kws pos) (tE G (eCallN n ks.length bd m fe ge)) :=
  PE.mono' (pe_cl Fn room gu hg hm hk bn ha hkw hall hks hdb he hpl) (callN_le fun vs zs vl h => ⟨h.1.trans hnp, fun H F ds es h1 h2 => h.2 G H F ds es h1 h2⟩)
end
/-! a dict display whose keys are numbers or texts -/
inductive PDk (G : Gd Sg) : List Key → List (TE × TE) → SA Sg → Prop
  | nil : PDk G [] [] aNil
  | cons {k : Key} {ks : List Key} {trs : List (TE × TE)} {f : SE Sg} {g : SA Sg} (h : PDk G ks trs g) : PDk G (k :: ks) ((tC (kV k), tE G f) :: trs) (aF f g)
theorem pairsK_le {G : Gd Sg} {ks : List Key} {trs : List (TE × TE)} {g : SA Sg} (h : PDk G ks trs g) : ∀ σ H (Q : List (V × V) → Hp → Prop), tAF G g σ H (fun vs H' => vs.length = ks.length → Q ((ks.zip vs).map fun kv => (kV kv.1, kv.2)) H') → tPairs trs σ H Q := by
  induction h with
  | nil =>
    rintro σ H Q ⟨H0, F0, ρ, F, As, S, r, ρ', S', R, e, k⟩
    cases e
    exact k [] H F As Stp.refl R rfl rfl
  | cons h ih =>
    rintro σ H Q ⟨H0, F0, ρ, F, As, S, r, ρ', S', R, e, k⟩
    obtain ⟨⟨r1, ρ1, S1⟩, e1, e⟩ := Option.bind_eq_some_iff.mp e
    obtain ⟨d, ed, e⟩ := Option.bind_eq_some_iff.mp e
    obtain ⟨⟨ds, ρ2, S2⟩, e2, e⟩ := Option.bind_eq_some_iff.mp e
    cases e
    refine ⟨H0, F0, ρ, F, As, S, r1, ρ1, S1, R, e1, fun v1 H1 F1 A1 p1 R1 h1 => ?_⟩
    obtain ⟨F1', g1, gg1, R1', h1'⟩ := R1.frz h1 ed
    refine ih σ H1 _ ⟨H0, F0, ρ1, F1', A1, S1, ds, ρ2, S2, R1', e2, fun vs H2 F2 A2 p2 R2 h2 hl => ?_⟩
    exact k (v1 :: vs) H2 F2 A2 ((p1.frz g1 gg1).trans p2) R2 ⟨v1, vs, rfl, h1'.fr p2.fr p2.fF, h2⟩ (congrArg Nat.succ hl)
def eDispK (ks : List Key) (g : SA Sg) : SE Sg := fun ρ S => (g ρ S).bind fun p => if p.1.length = ks.length then some (.nw (.dct (ks) p.1), p.2.1, p.2.2) else none
section
variable {X : Cx} {G : Gd Sg} {pos : Pos} {keys : List (Option Expr)} {values : List Expr} {trs : List (TE × TE)} {ks : List Key} {g : SA Sg}
theorem zip_keysK : ∀ (ks : List Key) (vs : List V), vs.length = ks.length → ((ks.zip vs).map fun kv => ((kv.1 : Key), kv.2)).map (·.1) = ks ∧ ((ks.zip vs).map fun kv => ((kv.1 : Key), kv.2)).map (·.2) = vs
  | [], [], _ => ⟨rfl, rfl⟩
  | [], _ :: _, h => by cases h
  | _ :: _, [], h => by cases h
  | k :: ks, v :: vs, h => by
    obtain ⟨a, b⟩ := zip_keysK ks vs (Nat.succ.inj h)
    exact ⟨congrArg _ a, congrArg _ b⟩
theorem pd_dispK (h : PPs X pos keys values trs) (hd : PDk G ks trs g) (nd : ks.Nodup) (hz : ks.length ≤ 15) (hall : keys.all (·.isSome) = true := by rfl) (hl : keys.length = values.length := by rfl) (h0 : keys ≠ [] := by simp) (h15 : keys.length ≤ 15 := by decide) :
    PE X (.Dict keys values pos) (tE G (eDispK ks g)) := by
  refine PE.mono' (pe_disp h hall hl h0 h15) ?_
  rintro σ H Q ⟨H0, F0, ρ, F, As, S, rr, ρ', S', R, e, k⟩
  intro p hp
  obtain ⟨⟨ds, ρ1, S1⟩, e1, e⟩ := Option.bind_eq_some_iff.mp e
  have e : (if ds.length = ks.length then some (Rv.nw (.dct (ks) ds), ρ1, S1) else none) = some (rr, ρ', S') := e
  by_cases hlen : ds.length = ks.length
  · rw [if_pos hlen] at e
    cases e
    have x := Ext.upd (o := .dK []) hp
    have nF := R.gs.fresh hp
    refine pairsK_le hd σ _ _ ⟨H0, F0, ρ, F, As, S, ds, _, _, R.ex x, e1, fun vs H2 F2 A2 p2 R2 h2 hv => ?_⟩
    have hp2 : H2 p = some (.dK []) := p2.fr p _ upd_same nF.2
    have nF2 : ¬ F2 p := fun q => by
      rcases p2.gF p q nF.2 with y | y | ⟨j, y⟩
      · exact nF.1 y
      · rw [upd_same] at y
        cases y
      · exact R.nnew hp j y
    have nA2 : ∀ i, A2 i ≠ some p := fun i q => R.nnew hp i (p2.as i p q)
    obtain ⟨z1, z2⟩ := zip_keysK ks vs hv
    refine ⟨hp2, (ks.zip vs).map fun kv => ((kv.1 : Key), kv.2), ?_, ?_, ?_⟩
    · rw [List.map_map]
      rfl
    · rw [List.length_map, List.length_zip]
      omega
    · have em : mergeK [] ((ks.zip vs).map fun kv => ((kv.1 : Key), kv.2)) = (ks.zip vs).map fun kv => ((kv.1 : Key), kv.2) := merge_acc _ [] (by
        rw [List.nil_append, z1]
        exact nd)
      rw [em]
      have w : Off H2 (upd H2 p (.dK ((ks.zip vs).map fun kv => ((kv.1 : Key), kv.2)))) F2 p [] := ⟨fun a ha => upd_ne ha, hp2, nF2⟩
      have n0 := R.old hp
      refine k (.ref p) _ F2 A2 ⟨fun a o e z => ?_, p2.fF, fun a q z => ?_, p2.as⟩ (R2.off (o := .dK []) w n0 nF.2 nA2) ⟨p, rfl, ⟨_, upd_same, z1, ?_⟩, nF2, nF.2, nA2, n0, .inl hp⟩
      · have na : a ≠ p := ne_of_none e hp
        rw [upd_ne na]
        exact p2.fr a o ((upd_ne na).trans e) z
      · rcases p2.gF a q z with y | y | y
        · exact .inl y
        · refine .inr (.inl ?_)
          by_cases ha : a = p
          · rw [ha]
            exact hp
          · rw [upd_ne ha] at y
            exact y
        · exact .inr (.inr y)
      · rw [z2]
        exact h2.off w
  · rw [if_neg hlen] at e
    cases e
end
end Dv
end
section
set_option maxHeartbeats 4000000
namespace Dv
open PySem PySem.Spec PyProof.Rows L2
variable {Sg : Type}
/-! ### a, b = x, y, what is new stays owned -/
theorem RepR.fwd {G : Gd Sg} {H0 Hs H1 H2 : Hp} {F0 F1 F2 : Addr → Prop} {Ass A1 A2 : Nat → Option Addr} {ρ : En} {σ : L2.St} {S : Sg} {r : Rv} {v : V} (R1 : Rel G H0 F0 ρ σ H1 F1 A1 S) (p : Stp G H1 H2 F1 F2 A1 A2) (h : RepR G H0 Hs Ass H1 F1 A1 r v) : RepR G H0 Hs Ass H2 F2 A2 r v := by
  cases r with
  | im d => exact Rp.fr p.fr p.fF h
  | nw d =>
    obtain ⟨a, e, o, nf, z, na, n0, q⟩ := h
    refine ⟨a, e, o.fr p.fr p.fF z, fun f => ?_, z, fun i e => na i (p.as i a e), n0, q⟩
    rcases p.gF a f z with y | y | ⟨j, y⟩
    · exact nf y
    · obtain ⟨u, hu⟩ := o.there
      rw [y] at hu; cases hu
    · exact na j y
  | br d => exact Rb.fr h p.fr p.fF
theorem Rel.storeX {G : Gd Sg} {H0 H H1 : Hp} {F0 F F1 : Addr → Prop} {ρ1 : En} {σ1 : L2.St} {As A1 : Nat → Option Addr} {S1 : Sg} {i : Nat} {r : Rv} {sl : Sl} {v : V} (p : Sts G H H1 F F1 As A1)
    (R1 : Rel G H0 F0 ρ1 σ1 H1 F1 A1 S1) (h : RepR G H0 H As H1 F1 A1 r v) (e : slOf r = some sl) (hi : i < ρ1.length) :
    ∃ A2, Sts G H H1 F F1 As A2 ∧ Rel G H0 F0 (ρ1.set i sl) (σ1.set i (some v)) H1 F1 A2 S1 ∧ ∀ k b, A2 k = some b → A1 k = some b ∨ ∃ d, r = .nw d ∧ v = .ref b := by
  cases r with
  | im d =>
    cases e
    exact ⟨setA A1 i none, p.trans (R1.stsA fun a q => nomatch q), R1.set hi ⟨rfl, v, rfl, h⟩ (fun a q => nomatch q), fun k b q => .inl (setA_le k b q)⟩
  | nw d =>
    cases e
    obtain ⟨a, rfl, ow, nf, nz, na, n0, hn⟩ := h
    refine ⟨setA A1 i (some a), ⟨p.fr, p.fF, p.gF, fun j b q => ?_⟩, R1.set hi ⟨a, rfl, rfl, ow⟩ (fun b q => ?_), fun k b q => ?_⟩
    · by_cases hj : j = i
      · subst hj; rw [setA_same] at q; cases q
        exact ⟨nz, hn.symm⟩
      · rw [setA_ne hj] at q
        exact p.as j b q
    · cases q
      exact ⟨nf, nz, n0, fun j q => absurd q (na j)⟩
    · by_cases hj : k = i
      · subst hj; rw [setA_same] at q; cases q
        exact .inr ⟨d, rfl, rfl⟩
      · rw [setA_ne hj] at q
        exact .inl q
  | br d =>
    have e : (if pureD d = true then some (Sl.im d) else none) = some sl := e
    by_cases hp : pureD d = true
    · rw [if_pos hp] at e; cases e
      exact ⟨setA A1 i none, p.trans (R1.stsA fun a q => nomatch q), R1.set hi ⟨rfl, v, rfl, Rb.pure h hp⟩ (fun a q => nomatch q), fun k b q => .inl (setA_le k b q)⟩
    · rw [if_neg hp] at e; cases e
def sParO (i j : Nat) (f g : SE Sg) : SS Sg := fun ρ S => (f ρ S).bind fun p => (g p.2.1 p.2.2).bind fun q => (slOf p.1).bind fun s1 => (slOf q.1).bind fun s2 =>
  if i < q.2.1.length ∧ j < q.2.1.length then some (.nx, (q.2.1.set i s1).set j s2, q.2.2) else none
section
variable {X : Cx} {G : Gd Sg} {pos : Pos}
theorem parO_le {i j : Nat} {f g : SE Sg} : ∀ D σ H, tSs G (sParO i j f g) D σ H → tPar i j (tCons (tE G f) (tCons (tE G g) tNil)) D σ H := by
  rintro D σ H ⟨H0, F0, ρ, F, As, S, c, ρ', S', R, e, k⟩
  obtain ⟨⟨r1, ρ1, S1⟩, e1, e⟩ := Option.bind_eq_some_iff.mp e
  obtain ⟨⟨r2, ρ2, S2⟩, e2, e⟩ := Option.bind_eq_some_iff.mp e
  obtain ⟨s1, e3, e⟩ := Option.bind_eq_some_iff.mp e
  obtain ⟨s2, e4, e⟩ := Option.bind_eq_some_iff.mp e
  dsimp only at e
  by_cases hi : i < ρ2.length ∧ j < ρ2.length
  · rw [if_pos hi] at e; cases e
    refine ⟨H0, F0, ρ, F, As, S, r1, ρ1, S1, R, e1, fun v1 H1 F1 A1 p1 R1 h1 => ?_⟩
    refine ⟨H0, F0, ρ1, F1, A1, S1, r2, ρ2, _, R1, e2, fun v2 H2 F2 A2 p2 R2 h2 => ⟨v1, v2, rfl, ?_⟩⟩
    obtain ⟨A3, q3, R3, o3⟩ := Rel.storeX (R.stp (p1.trans p2)) R2 (h1.fwd R1 p2) e3 hi.1
    have h2' : RepR G H0 H As H2 F2 A3 r2 v2 := by
      have hb := h2.back p1
      cases r2 with
      | im d => exact hb
      | nw d =>
        obtain ⟨a, ev, o, nf, z, na, n0, q⟩ := hb
        refine ⟨a, ev, o, nf, z, fun m em => ?_, n0, q⟩
        rcases o3 m a em with y | ⟨d1, y1, y2⟩
        · exact na m y
        · subst y1
          obtain ⟨a1, ea1, o1, _, _, na1, _⟩ := h1
          rw [y2] at ea1
          cases ea1
          obtain ⟨a2, ea2, _, _, _, _, _, q2⟩ := h2
          rw [ev] at ea2
          cases ea2
          rcases q2 with y | ⟨m, y⟩
          · obtain ⟨u, hu⟩ := o1.there
            rw [y] at hu; cases hu
          · exact na1 m y
      | br d => exact hb
    obtain ⟨A4, q4, R4, _⟩ := Rel.storeX q3 R3 h2' e4 (by rw [List.length_set]; exact hi.2)
    exact k _ H2 F2 A4 q4 R4
  · rw [if_neg hi] at e; cases e
theorem ds_parO {i j : Nat} {x y : Str} {a b : Expr} {f g : SE Sg} {px py pt : Pos} {kt k2 pt2} (hc : X.calm = true) (hN : X.N.Nodup) (hi : X.N[i]? = some x) (hj : X.N[j]? = some y) (hij : i ≠ j) (hx : X.env.scope.names.lookup x = some .local) (hy : X.env.scope.names.lookup y = some .local) (ha : PE X a (tE G f)) (hb : PE X b (tE G g))
    (h1 : starEach [a, b] X.env = (false, eval a X.env) :: starEach [b] X.env := by rfl) (h2 : starEach [b] X.env = (false, eval b X.env) :: starEach [] X.env := by rfl)
    (hw : swappedStores [.Tuple [.Name x px, .Name y py] kt pt] (.Tuple [a, b] k2 pt2) X.env = pure (some [x, y]) := by rfl) (hs : swapsWithSole [.Tuple [.Name x px, .Name y py] kt pt] (.Tuple [a, b] k2 pt2) pos.line X.env = pure false := by rfl) :
    PS X (.Assign [.Tuple [.Name x px, .Name y py] kt pt] (.Tuple [a, b] k2 pt2) pos) (tSs G (sParO i j f g)) := PS.mono' (ps_par hc hN hi hj hij hx hy (pa_cons ha (pa_cons hb pa_nil h2) h1) hw hs) parO_le
/-! ### a, b, c = x, y, z -/
def sPar3 (i j l : Nat) (f : SA Sg) : SS Sg := fun ρ S => (f ρ S).bind fun p => match p.1 with
  | [d, d', d2] => if i < p.2.1.length ∧ j < p.2.1.length ∧ l < p.2.1.length then some (.nx, ((p.2.1.set i (.im d)).set j (.im d')).set l (.im d2), p.2.2) else none
  | _ => none
theorem par3_le {i j l : Nat} {f : SA Sg} : ∀ D σ H, tSs G (sPar3 i j l f) D σ H → tPar3 i j l (tAF G f) D σ H := by
  rintro D σ H ⟨H0, F0, ρ, F, As, S, c, ρ', S', R, e, k⟩
  obtain ⟨⟨ds, ρ1, S1⟩, e1, e⟩ := Option.bind_eq_some_iff.mp e
  refine ⟨H0, F0, ρ, F, As, S, ds, ρ1, S1, R, e1, fun vs H1 F1 A1 p1 R1 h1 => ?_⟩
  match ds, e, h1 with
  | [d, d', d2], e, h1 =>
    dsimp only at e
    by_cases hi : i < ρ1.length ∧ j < ρ1.length ∧ l < ρ1.length
    · rw [if_pos hi] at e; cases e
      obtain ⟨v, r, rfl, a1, v2, r2, rfl, a2, v3, r3, rfl, a3, rfl⟩ := h1
      refine ⟨v, v2, v3, rfl, ?_⟩
      have R2 := R1.set (i := i) (sl := .im d) (w := some v) (o := none) hi.1 ⟨rfl, v, rfl, a1⟩ fun a q => nomatch q
      have R3 := R2.set (i := j) (sl := .im d') (w := some v2) (o := none) (by rw [List.length_set]; exact hi.2.1) ⟨rfl, v2, rfl, a2⟩ fun a q => nomatch q
      have R4 := R3.set (i := l) (sl := .im d2) (w := some v3) (o := none) (by rw [List.length_set, List.length_set]; exact hi.2.2) ⟨rfl, v3, rfl, a3⟩ fun a q => nomatch q
      exact k _ H1 F1 _ ((((R.stp p1).trans (R1.stsA (i := i) (o := none) fun a q => nomatch q)).trans (R2.stsA (i := j) (o := none) fun a q => nomatch q)).trans (R3.stsA (i := l) (o := none) fun a q => nomatch q)) R4
    · rw [if_neg hi] at e; cases e
  | [], e, _ => cases e
  | [_], e, _ => cases e
  | [_, _], e, _ => cases e
  | _ :: _ :: _ :: _ :: _, e, _ => cases e
theorem ds_par3 {i j l : Nat} {x y z : Str} {a b c : Expr} {f : SA Sg} {px py pz pt : Pos} {kt k2 pt2} (hc : X.calm = true) (hN : X.N.Nodup) (hi : X.N[i]? = some x) (hj : X.N[j]? = some y) (hl : X.N[l]? = some z) (hij : i ≠ j) (hil : i ≠ l) (hjl : j ≠ l)
    (hx : X.env.scope.names.lookup x = some .local) (hy : X.env.scope.names.lookup y = some .local) (hz : X.env.scope.names.lookup z = some .local) (ha : PA X [a, b, c] (tAF G f))
    (hw : swappedStores [.Tuple [.Name x px, .Name y py, .Name z pz] kt pt] (.Tuple [a, b, c] k2 pt2) X.env = pure (some [x, y, z]) := by rfl)
    (hs : swapsWithSole [.Tuple [.Name x px, .Name y py, .Name z pz] kt pt] (.Tuple [a, b, c] k2 pt2) pos.line X.env = pure false := by rfl) :
    PS X (.Assign [.Tuple [.Name x px, .Name y py, .Name z pz] kt pt] (.Tuple [a, b, c] k2 pt2) pos) (tSs G (sPar3 i j l f)) := PS.mono' (ps_par3 hc hN hi hj hl hij hil hjl hx hy hz ha hw hs) par3_le
end
end Dv
namespace L2
open PySem PySem.Spec PyProof.Rows
/-! ### the built-in bases -/
section
variable {X : Cx} {e : Expr} {es : List Expr} {ta : TA} {p1 p2 pos : Pos} {B nw it : String} {tl : List Value} {x : Str} {T : String}
/-- T.__init__(self, ..), T built in -/
theorem pe_xinB {pl : Sem Bool} (W : XBs B nw it tl) (hg : Gl X x) (hm : X.mg x = none) (hv : bootBuiltins x = some (.type T)) (ty : typeOf (.type T) = pure (.type "type"))
    (hst : PySem.Manifest.isStub T = false) (vV : PySem.W.findCls X.K (.type T) (.type "type") "__init__" = some (.val (.builtin it))) (hh : PySem.W.handedIn (.builtin it) = true) (ha : PA X (e :: es) ta)
    (hc : eval (.Call (.Attribute (.Name x p1) "__init__" p2) (e :: es) [] pos) X.env = (do
      let ov ← eval (.Name x p1) X.env
      standAt p2.atName
      let (f, first) ← holding [ov] (getMethod ov "__init__" pl)
      callWith pos f first (backTo pos (starEach (e :: es) X.env)) (backToKw pos (keywordEach [] X.env))) := by rfl)
    (hn : x ≠ "__name__" := by decide) (hd : (x == ("__debug__" : Str)) = false := by decide) (he : starEach (e :: es) X.env = (false, eval e X.env) :: starEach es X.env := by rfl) (hpl : (backTo pos (starEach es X.env)).any (·.1) = false := by rfl) :
    PE X (.Call (.Attribute (.Name x p1) "__init__" p2) (e :: es) [] pos) (tXin X.K nw tl ta) := by
  refine ⟨fun pins s σ H Q I h => ?_⟩
  refine PySem.W.methodCall_KW (ld_blt I hg hm hv ?_ hn hd) hc
  obtain ⟨m, fr⟩ := I.fr
  refine PySem.W.method_type fr I.ok.mod.kin ty hst vV hh ?_
  show wpAny _ _ (callWith pos (Value.builtin it) [] (backTo pos (starEach (e :: es) X.env)) []) _ _ _
  refine PyProof.Rows.callWith_method1 (thn (ha.run pos pins _ σ H _ (I.tok _) h) fun us s1 ⟨vs, H1, I1, r1, a, C, ws, ev, hl, T', ea, q⟩ => ?_) he hpl
  subst ev
  cases r1 with
  | @cons _ u0 _ ur ra rw' =>
    obtain rfl : u0 = Value.ref a := ra
    refine xinit_ok W T' I1 ea ?_ fun s' J => ⟨.non, H1, J, rfl, q⟩
    rw [← Paired.length rw', sizeLine_eq]
    omega
end
end L2
end
section
set_option maxHeartbeats 4000000
namespace K2
open PySem PySem.Spec PyProof.Rows L2 Dv

def top (i : Nat) : Stmt := PySem.Challenge.pw_lanewright_k02_families_of_refusals.main.body.getD i (.Pass ⟨0, 0, 0, 0⟩)
def inner (st : Stmt) (i : Nat) : Stmt := match st with
  | .ClassDef (body := b) .. => b.getD i (.Pass ⟨0, 0, 0, 0⟩)
  | s => s
/-! the classes -/
def anc : List (Str × List Str) := [("BadProgram", ["BadProgram", "LaneError", "ValueError", "Exception"]), ("BadSizes", ["BadSizes", "LaneError", "ValueError", "Exception"]), ("BadGiven", ["BadGiven", "LaneError", "ValueError", "Exception"]), ("BadTurn", ["BadTurn", "LaneError", "ValueError", "Exception"]), ("BadPlan", ["BadPlan", "LaneError", "ValueError", "Exception"]), ("BadKernel", ["BadKernel", "LaneError", "ValueError", "Exception"]), ("BadPaper", ["BadPaper", "LaneError", "ValueError", "Exception"]), ("BadLine", ["BadLine", "LaneError", "ValueError", "Exception"]), ("BadSchedule", ["BadSchedule", "LaneError", "ValueError", "Exception"]), ("NoSuch", ["NoSuch", "Lack", "LookupError", "Exception"]), ("Gone", ["Gone", "Lack", "LookupError", "Exception"]), ("Unsafe", ["Unsafe", "Cant", "RuntimeError", "Exception"]), ("Unfit", ["Unfit", "Cant", "RuntimeError", "Exception"]), ("Full", ["Full", "Cant", "RuntimeError", "Exception"]), ("BadKind", ["BadKind", "TypeError", "Exception"]), ("BadNumber", ["BadNumber", "IndexError", "LookupError", "Exception"])]
def isA (c t : Str) : Bool := ((anc.lookup c).getD []).contains t
def clsL : List Str := ["BadProgram", "BadSizes", "BadGiven", "BadTurn", "BadPlan", "BadKernel", "BadPaper", "BadLine", "BadSchedule", "NoSuch", "Gone", "Unsafe", "Unfit", "Full", "BadKind", "BadNumber"]
def ownL : List Str := ["BadGiven", "BadKernel", "BadKind", "BadLine", "BadNumber", "BadPaper", "BadPlan", "BadProgram", "BadSchedule", "BadSizes", "BadTurn", "Cant", "Full", "Gone", "Lack", "LaneError", "NoSuch", "Unfit", "Unsafe"]
def bltL : List (Str × String) := [("ArithmeticError", "ArithmeticError"), ("Exception", "Exception"), ("IndexError", "IndexError"), ("KeyError", "KeyError"), ("LookupError", "LookupError"), ("OverflowError", "OverflowError"), ("RuntimeError", "RuntimeError"), ("TypeError", "TypeError"), ("ValueError", "ValueError"), ("ZeroDivisionError", "ZeroDivisionError")]
def flds : List (Str × Str) := [("BadProgram", "place"), ("BadSizes", "about"), ("BadGiven", "about"), ("BadTurn", "about"), ("BadPlan", "about"), ("BadKernel", "place"), ("BadPaper", "about"), ("BadLine", "row"), ("BadLine", "word"), ("BadSchedule", "about"), ("NoSuch", "name"), ("Unsafe", "meeting"), ("Unfit", "about"), ("Full", "most"), ("BadKind", "wanted"), ("BadNumber", "about")]
def tbl (t : Str) : Str → Option Bool := fun c => if c ∈ clsL then some (isA c t) else none
def okF (c f : Str) : Bool := decide ((c, f) ∈ flds)
theorem base_VE : XBs "ValueError" "ValueError.__new__" "ValueError.__init__" PySem.HandSPX.veTail := ⟨PySem.F.excBase_ValueError, rfl, by decide +kernel, PySem.F.store_ValueError.passes⟩
abbrev tlLE : List Value := [.type "LookupError", .type "Exception", .type "BaseException", .type "object"]
theorem base_LE : XBs "LookupError" "LookupError.__new__" "LookupError.__init__" tlLE := ⟨PySem.F.excBase_LookupError, rfl, by decide +kernel, PySem.F.store_LookupError.passes⟩
abbrev tlRE : List Value := [.type "RuntimeError", .type "Exception", .type "BaseException", .type "object"]
theorem base_RE : XBs "RuntimeError" "RuntimeError.__new__" "RuntimeError.__init__" tlRE := ⟨PySem.F.excBase_RuntimeError, rfl, by decide +kernel, PySem.F.store_RuntimeError.passes⟩
abbrev tlTE : List Value := [.type "TypeError", .type "Exception", .type "BaseException", .type "object"]
theorem base_TE : XBs "TypeError" "TypeError.__new__" "TypeError.__init__" tlTE := ⟨PySem.F.excBase_TypeError, rfl, by decide +kernel, PySem.F.store_TypeError.passes⟩
abbrev tlIE : List Value := [.type "IndexError", .type "LookupError", .type "Exception", .type "BaseException", .type "object"]
theorem base_IE : XBs "IndexError" "IndexError.__new__" "IndexError.__init__" tlIE := ⟨PySem.F.excBase_IndexError, rfl, by decide +kernel, PySem.F.store_IndexError.passes⟩
/-! _law_mixed -/
abbrev st_l_mixed : Stmt := top 21
abbrev N_l_mixed : List Str := ["_law_drawn", "_law_k"]
def s_l_mixed : SS S5 := (sSeq (sSet 0 (eOp2 opMod (eOp2 opPow (eOp2 opAdd (eOp2 opAdd (eOp2 opAdd (eOp2 opMod (eBr 0) (eC (.int 2147483647))) (eOp2 opMulX (eOp2 opMulX (eC (.int 7919)) (eBr 1)) (eBr 1))) (eOp2 opMulX (eC (.int 31)) (eBr 1))) (eC (.int 5))) (eC (.int 5))) (eC (.int 2147483629)))) (sRet (eOp2 opDiv (eOp2 opMod (eOp2 opMulX (eBr 0) (eOp2 opAdd (eC (.int 48271)) (eOp2 opMulX (eC (.int 2)) (eBr 1)))) (eC (.int 2147483587))) (eC (.int 7)))))
abbrev m_l_mixed : FD S5 := runB 2 s_l_mixed
/-! _law_words -/
abbrev st_l_words : Stmt := top 24
abbrev N_l_words : List Str := ["_law_e", "_law_found", "_law_words_here", "_law_word", "_law_good"]
def s_l_words {Sg : Type} : SS Sg := (sSeq (sSet 1 (eLst (aF (eOp1 (opIsE (tbl "BadProgram")) (eBr 0)) (aF (eOp1 (opIsE (tbl "BadSizes")) (eBr 0)) (aF (eOp1 (opIsE (tbl "BadGiven")) (eBr 0)) (aF (eOp1 (opIsE (tbl "BadTurn")) (eBr 0)) aNil)))))) (sSeq (sSet 1 (eOp2 opAdd (eBr 1) (eLst (aF (eOp1 (opIsE (tbl "BadPlan")) (eBr 0)) (aF (eOp1 (opIsE (tbl "BadKernel")) (eBr 0)) (aF (eOp1 (opIsE (tbl "BadPaper")) (eBr 0)) (aF (eOp1 (opIsE (tbl "BadLine")) (eBr 0)) aNil))))))) (sSeq (sSet 1 (eOp2 opAdd (eBr 1) (eLst (aF (eOp1 (opIsE (tbl "BadSchedule")) (eBr 0)) (aF (eOp1 (opIsE (tbl "NoSuch")) (eBr 0)) (aF (eOp1 (opIsE (tbl "Gone")) (eBr 0)) (aF (eOp1 (opIsE (tbl "Unsafe")) (eBr 0)) aNil))))))) (sSeq (sSet 1 (eOp2 opAdd (eBr 1) (eLst (aF (eOp1 (opIsE (tbl "Unfit")) (eBr 0)) (aF (eOp1 (opIsE (tbl "Full")) (eBr 0)) (aF (eOp1 (opIsE (tbl "BadKind")) (eBr 0)) (aF (eOp1 (opIsE (tbl "BadNumber")) (eBr 0)) aNil))))))) (sSeq (sSet 2 (eLst (aF (eC (.str "program")) (aF (eC (.str "sizes")) (aF (eC (.str "given")) (aF (eC (.str "turn")) (aF (eC (.str "plan")) (aF (eC (.str "kernel")) (aF (eC (.str "paper")) (aF (eC (.str "line")) (aF (eC (.str "schedule")) (aF (eC (.str "such")) (aF (eC (.str "gone")) aNil))))))))))))) (sSeq (sSet 2 (eOp2 opAdd (eBr 2) (eLst (aF (eC (.str "unsafe")) (aF (eC (.str "unfit")) (aF (eC (.str "full")) (aF (eC (.str "kind")) (aF (eC (.str "number")) aNil)))))))) (sRet (eComp (iZipLD (aF (eVar 2) (aF (eVar 1) aNil))) (tdTup (tdCons (tdN 3) (tdCons (tdN 4) tdNil))) (tst (eBr 4)) (eVar 3) [3, 4]))))))))
abbrev m_l_words {Sg : Type} : FD Sg := runB 5 s_l_words
/-! _law_kinds -/
abbrev st_l_kinds : Stmt := top 25
abbrev N_l_kinds : List Str := ["_law_e", "_law_found", "_law_words_here", "_law_word", "_law_good"]
def s_l_kinds {Sg : Type} : SS Sg := (sSeq (sSet 1 (eLst (aF (eOp1 (opIsE (tbl "LaneError")) (eBr 0)) (aF (eOp1 (opIsE (tbl "Lack")) (eBr 0)) (aF (eOp1 (opIsE (tbl "Cant")) (eBr 0)) (aF (eOp1 (opIsE (tbl "TypeError")) (eBr 0)) aNil)))))) (sSeq (sSet 1 (eOp2 opAdd (eBr 1) (eLst (aF (eOp1 (opIsE (tbl "ValueError")) (eBr 0)) (aF (eOp1 (opIsE (tbl "LookupError")) (eBr 0)) (aF (eOp1 (opIsE (tbl "IndexError")) (eBr 0)) aNil)))))) (sSeq (sSet 1 (eOp2 opAdd (eBr 1) (eLst (aF (eOp1 (opIsE (tbl "KeyError")) (eBr 0)) (aF (eOp1 (opIsE (tbl "RuntimeError")) (eBr 0)) (aF (eOp1 (opIsE (tbl "ArithmeticError")) (eBr 0)) aNil)))))) (sSeq (sSet 1 (eOp2 opAdd (eBr 1) (eLst (aF (eOp1 (opIsE (tbl "OverflowError")) (eBr 0)) (aF (eOp1 (opIsE (tbl "ZeroDivisionError")) (eBr 0)) aNil))))) (sSeq (sSet 2 (eLst (aF (eC (.str "lane")) (aF (eC (.str "lack")) (aF (eC (.str "cant")) (aF (eC (.str "sort")) (aF (eC (.str "value")) (aF (eC (.str "lookup")) (aF (eC (.str "index")) (aF (eC (.str "key")) (aF (eC (.str "run")) (aF (eC (.str "arithmetic")) (aF (eC (.str "over")) (aF (eC (.str "nought")) aNil)))))))))))))) (sRet (eComp (iZipLD (aF (eVar 2) (aF (eVar 1) aNil))) (tdTup (tdCons (tdN 3) (tdCons (tdN 4) tdNil))) (tst (eBr 4)) (eVar 3) [3, 4])))))))
abbrev m_l_kinds {Sg : Type} : FD Sg := runB 5 s_l_kinds
/-! _law_fields -/
abbrev st_l_fields : Stmt := top 28
abbrev N_l_fields : List Str := ["_law_built", "_law_found"]
def s_l_fields {Sg : Type} : SS Sg := (sSeq (sSet 1 (eLst (aF (eOp1 (opFld okF "place") (eOp2 opIx (eBr 0) (eC (.int 0)))) (aF (eOp1 (opFld okF "about") (eOp2 opIx (eBr 0) (eC (.int 1)))) (aF (eOp1 (opFld okF "about") (eOp2 opIx (eBr 0) (eC (.int 2)))) (aF (eOp1 (opFld okF "about") (eOp2 opIx (eBr 0) (eC (.int 3)))) (aF (eOp1 (opFld okF "about") (eOp2 opIx (eBr 0) (eC (.int 4)))) (aF (eOp1 (opFld okF "place") (eOp2 opIx (eBr 0) (eC (.int 5)))) aNil)))))))) (sSeq (sSet 1 (eOp2 opAdd (eBr 1) (eLst (aF (eOp1 (opFld okF "about") (eOp2 opIx (eBr 0) (eC (.int 6)))) (aF (eOp1 (opFld okF "row") (eOp2 opIx (eBr 0) (eC (.int 7)))) (aF (eOp1 (opFld okF "word") (eOp2 opIx (eBr 0) (eC (.int 7)))) (aF (eOp1 (opFld okF "about") (eOp2 opIx (eBr 0) (eC (.int 8)))) (aF (eOp1 (opFld okF "name") (eOp2 opIx (eBr 0) (eC (.int 9)))) (aF (eOp1 (opFld okF "meeting") (eOp2 opIx (eBr 0) (eC (.int 11)))) aNil))))))))) (sSeq (sDropM (mLst 1 muApp (aF (eOp1 (opFld okF "about") (eOp2 opIx (eBr 0) (eC (.int 12)))) aNil))) (sRet (eOp2 opAdd (eBr 1) (eLst (aF (eOp1 (opFld okF "most") (eOp2 opIx (eBr 0) (eC (.int 13)))) (aF (eOp1 (opFld okF "wanted") (eOp2 opIx (eBr 0) (eC (.int 14)))) (aF (eOp1 (opFld okF "about") (eOp2 opIx (eBr 0) (eC (.int 15)))) aNil)))))))))
abbrev m_l_fields {Sg : Type} : FD Sg := runB 2 s_l_fields
/-! _law_take -/
abbrev st_l_take : Stmt := top 22
abbrev N_l_take : List Str := ["_law_stream", "_law_many", "_law_cell", "_law_drawn"]
def s_l_take : SS S5 := (sSeq (sSg 0 (fun v S => { S with a2 := v }) (eOp2 opAdd (eSg 0 S5.a2) (eC (.int 1)))) (sSeq (sIf ((tAnd' (tst (eOp2 (opCmp fun i j => decide (i < j)) (eSg 0 S5.a1) (eC (.int 2)))) (tSne 0))) (sSeq (sSet 2 (eSpop 0)) (sSeq (sSg 0 (fun v S => { S with a1 := v }) (eIf (tst (eOp2 (opCmp fun i j => decide (j ≤ i)) (eBr 2) (eOp2 opPow (eC (.int 10)) (eC (.int 18))))) (eBr 2) (eC (.int 0)))) (sSg 0 (fun v S => { S with a3 := v }) (eCall 2 0 (fun ds es => sel [0, 1] (ds ++ es)) m_l_mixed (aF (eOp2 opAdd (eSg 0 S5.a3) (eBr 2)) (aF (eSg 0 S5.a2) aNil)) aNil)))) sNx) (sSeq (sIf (tst (eOp2 (opCmp fun i j => decide (j < i)) (eSg 0 S5.a1) (eC (.int 1)))) (sSeq (sSet 3 (eOp2 opMod (eSg 0 S5.a1) (eBr 1))) (sSeq (sSg 0 (fun v S => { S with a1 := v }) (eOp2 opDiv (eSg 0 S5.a1) (eBr 1))) (sRet (eMv 3)))) sNx) (sRet (eOp2 opMod (eOp2 opDiv (eCall 2 0 (fun ds es => sel [0, 1] (ds ++ es)) m_l_mixed (aF (eOp2 opAdd (eSg 0 S5.a3) (eOp2 opMulX (eC (.int 104729)) (eSg 0 S5.a2))) (aF (eSg 0 S5.a2) aNil)) aNil) (eC (.int 11))) (eBr 1))))))
abbrev m_l_take : FD S5 := runB 4 s_l_take
/-! _law_of -/
abbrev st_l_of : Stmt := top 23
abbrev N_l_of : List Str := ["_law_stream", "_law_some"]
def s_l_of : SS S5 := (sRet (eOp2 opIx (eBr 1) (eCall 2 0 (fun ds es => sel [0, 1] (ds ++ es)) m_l_take (aF (eVar 0) (aF (eOpN opLen (aB (eBr 1) aNil)) aNil)) aNil)))
abbrev m_l_of : FD S5 := runB 2 s_l_of
/-! _law_lines -/
abbrev st_l_lines : Stmt := top 27
abbrev N_l_lines : List Str := ["_law_first", "_law_second", "_law_lane", "_law_lack", "_law_cant", "_law_found"]
def s_l_lines {Sg : Type} : SS Sg := (sSeq (sPar3 2 3 4 (aF (eLst (aF (eC (.str "lane")) (aF (eC (.str "value")) aNil))) (aF (eLst (aF (eC (.str "lack")) (aF (eC (.str "lookup")) aNil))) (aF (eLst (aF (eC (.str "cant")) (aF (eC (.str "run")) aNil))) aNil)))) (sSeq (sSet 5 (eLst (aF (eTupX (aF (eMk "BadProgram" ["place"] (aF (eVar 0) aNil)) (aF (eC (.str "program")) (aF (eVar 2) aNil)))) (aF (eTupX (aF (eMk "BadSizes" ["about"] (aF (eVar 0) aNil)) (aF (eC (.str "sizes")) (aF (eVar 2) aNil)))) (aF (eTupX (aF (eMk "BadGiven" ["about"] (aF (eVar 0) aNil)) (aF (eC (.str "given")) (aF (eVar 2) aNil)))) aNil))))) (sSeq (sSet 5 (eOp2 opAdd (eBr 5) (eLst (aF (eTupX (aF (eMk "BadTurn" ["about"] (aF (eVar 0) aNil)) (aF (eC (.str "turn")) (aF (eVar 2) aNil)))) (aF (eTupX (aF (eMk "BadPlan" ["about"] (aF (eVar 0) aNil)) (aF (eC (.str "plan")) (aF (eVar 2) aNil)))) (aF (eTupX (aF (eMk "BadKernel" ["place"] (aF (eVar 0) aNil)) (aF (eC (.str "kernel")) (aF (eVar 2) aNil)))) aNil)))))) (sSeq (sSet 5 (eOp2 opAdd (eBr 5) (eLst (aF (eTupX (aF (eMk "BadPaper" ["about"] (aF (eVar 0) aNil)) (aF (eC (.str "paper")) (aF (eVar 2) aNil)))) (aF (eTupX (aF (eMk "BadLine" ["row", "word"] (aF (eVar 0) (aF (eVar 1) aNil))) (aF (eC (.str "line")) (aF (eVar 2) aNil)))) aNil))))) (sSeq (sSet 5 (eOp2 opAdd (eBr 5) (eLst (aF (eTupX (aF (eMk "BadSchedule" ["about"] (aF (eVar 0) aNil)) (aF (eC (.str "schedule")) (aF (eVar 2) aNil)))) (aF (eTupX (aF (eMk "NoSuch" ["name"] (aF (eVar 0) aNil)) (aF (eC (.str "such")) (aF (eVar 3) aNil)))) (aF (eTupX (aF (eMk0 "Gone") (aF (eC (.str "gone")) (aF (eVar 3) aNil)))) aNil)))))) (sSeq (sSet 5 (eOp2 opAdd (eBr 5) (eLst (aF (eTupX (aF (eMk "Unsafe" ["meeting"] (aF (eVar 0) aNil)) (aF (eC (.str "unsafe")) (aF (eVar 4) aNil)))) (aF (eTupX (aF (eMk "Unfit" ["about"] (aF (eVar 0) aNil)) (aF (eC (.str "unfit")) (aF (eVar 4) aNil)))) (aF (eTupX (aF (eMk "Full" ["most"] (aF (eVar 0) aNil)) (aF (eC (.str "full")) (aF (eVar 4) aNil)))) aNil)))))) (sRet (eOp2 opAdd (eBr 5) (eLst (aF (eTupX (aF (eMk "BadKind" ["wanted"] (aF (eVar 0) aNil)) (aF (eC (.str "kind")) (aF (eLst (aF (eC (.str "sort")) aNil)) aNil)))) (aF (eTupX (aF (eMk "BadNumber" ["about"] (aF (eVar 0) aNil)) (aF (eC (.str "number")) (aF (eLst (aF (eC (.str "lookup")) (aF (eC (.str "index")) aNil))) aNil)))) aNil)))))))))))
abbrev m_l_lines {Sg : Type} : FD Sg := runB 6 s_l_lines
/-! _law_thing_by -/
abbrev st_l_thing_by : Stmt := top 26
abbrev N_l_thing_by : List Str := ["_law_stream", "_law_name"]
def s_l_thing_by : SS S5 := (sSeq (sSet 1 (eOp2 opMulS (eOp2 opIx (eC (.str "abcdefghij")) (eCall 2 0 (fun ds es => sel [0, 1] (ds ++ es)) m_l_take (aF (eVar 0) (aF (eC (.int 10)) aNil)) aNil)) (eCall 2 0 (fun ds es => sel [0, 1] (ds ++ es)) m_l_take (aF (eVar 0) (aF (eC (.int 4)) aNil)) aNil))) (sRet (eCall 2 0 (fun ds es => sel [0, 1] (ds ++ es)) m_l_of (aF (eVar 0) (aF (eLst (aF (eVar 1) (aF (eCall 2 0 (fun ds es => sel [0, 1] (ds ++ es)) m_l_take (aF (eVar 0) (aF (eC (.int 100)) aNil)) aNil) (aF (eC .non) (aF (eTup (aF (eVar 1) (aF (eC (.int 3)) aNil))) (aF (eLst (aF (eVar 1) aNil)) (aF (eOp1 opNeg (eC (.int 1))) (aF (eC (.bl true)) (aF (eDispK [.inl 1] (aF (eVar 1) aNil)) (aF (eC (.int 1)) aNil)))))))))) aNil)) aNil)))
abbrev m_l_thing_by : FD S5 := runB 2 s_l_thing_by
/-! law -/
abbrev st_law : Stmt := top 29
abbrev N_law : List Str := ["_law_script", "_law_stream", "_law_turn", "_law_first", "_law_second", "_law_lines_here", "_law_e", "_law_word", "_law_kinds_here", "_law_built", "_law_due", "_law_line"]
def s_law : SS S5 := (sSeq (sFor (iR1 (aB (eOp2 opAdd (eC (.int 2)) (eOpN opMin (aB (eC (.int 38)) (aB (eOpN opLen (aB (eBr 0) aNil)) aNil)))) aNil)) (tdN 2) (sSeq (sParO 3 4 (eCallN 1 0 (fun ds es => sel [0] (ds ++ es)) m_l_thing_by (aF (eVar 1) aNil) aNil) (eCallN 1 0 (fun ds es => sel [0] (ds ++ es)) m_l_thing_by (aF (eVar 1) aNil) aNil)) (sSw 3 4 (sSeq (sSet 5 (eCall 2 0 (fun ds es => sel [0, 1] (ds ++ es)) m_l_lines (aF (eVar 3) (aF (eVar 4) aNil)) aNil)) (sSeq (sFor (iLst (eOp2 opAdd (eBr 5) (eCall 2 0 (fun ds es => sel [0, 1] (ds ++ es)) m_l_lines (aF (eVar 4) (aF (eVar 3) aNil)) aNil))) (tdTup (tdCons (tdN 6) (tdCons (tdN 7) (tdCons (tdN 8) tdNil)))) (sIf ((tOr' (tst (eOp2 (eqD true) (eCall 1 0 (fun ds es => sel [0] (ds ++ es)) m_l_words (aF (eVar 6) aNil) aNil) (eLst (aF (eVar 7) aNil)))) (tOr' (tst (eOp2 (eqD true) (eCall 1 0 (fun ds es => sel [0] (ds ++ es)) m_l_kinds (aF (eVar 6) aNil) aNil) (eBr 8))) (tNot' (tst (eOp1 (opIsE (tbl "Exception")) (eBr 6))))))) (sRet (eC (.bl false))) sNx)) (sSeq (sPar 9 10 (aF (eComp (iLst (eVar 5)) (tdN 11) cYes (eOp2 opIx (eBr 11) (eC (.int 0))) [11]) (aF (eOp2 opAdd (eOp2 opAdd (eOp2 opMulX (eLst (aF (eVar 3) aNil)) (eC (.int 8))) (eLst (aF (eVar 4) aNil))) (eOp2 opMulX (eLst (aF (eVar 3) aNil)) (eC (.int 7)))) aNil))) (sSeq (sIf (tst (eOp2 (eqD true) (eReprA (eCall 1 0 (fun ds es => sel [0] (ds ++ es)) m_l_fields (aF (eVar 9) aNil) aNil)) (eReprA (eBr 10)))) (sRet (eC (.bl false))) sNx) (sSeq (sIf (tst (eIsLA (eBr 3))) (sAppA 3 "more") sNx) (sSeq (sIf (tst (eOp2 (eqD true) (eReprA (eCall 1 0 (fun ds es => sel [0] (ds ++ es)) m_l_fields (aF (eVar 9) aNil) aNil)) (eReprA (eBr 10)))) (sRet (eC (.bl false))) sNx) (sIf (tst (eOp2 (eqD true) (eReprA (eCall 1 0 (fun ds es => sel [0] (ds ++ es)) m_l_fields (aF (eComp (iLst (eCall 2 0 (fun ds es => sel [0, 1] (ds ++ es)) m_l_lines (aF (eVar 3) (aF (eVar 4) aNil)) aNil)) (tdN 11) cYes (eOp2 opIx (eBr 11) (eC (.int 0))) [11]) aNil) aNil)) (eReprA (eBr 10)))) (sRet (eC (.bl false))) sNx)))))))))) (sRet (eC (.bl true))))

abbrev st_init_BadProgram : Stmt := inner (top 2) 0
abbrev N_init_BadProgram : List Str := ["self", "place"]
theorem sc_init_BadProgram : FnScope N_init_BadProgram ["self", "place"] (defScope st_init_BadProgram) := ⟨rfl, rfl, rfl, by decide +kernel, rfl, by decide +kernel, by decide +kernel⟩
abbrev st_init_BadSizes : Stmt := inner (top 3) 0
abbrev N_init_BadSizes : List Str := ["self", "about"]
theorem sc_init_BadSizes : FnScope N_init_BadSizes ["self", "about"] (defScope st_init_BadSizes) := ⟨rfl, rfl, rfl, by decide +kernel, rfl, by decide +kernel, by decide +kernel⟩
abbrev st_init_BadGiven : Stmt := inner (top 4) 0
abbrev N_init_BadGiven : List Str := ["self", "about"]
theorem sc_init_BadGiven : FnScope N_init_BadGiven ["self", "about"] (defScope st_init_BadGiven) := ⟨rfl, rfl, rfl, by decide +kernel, rfl, by decide +kernel, by decide +kernel⟩
abbrev st_init_BadTurn : Stmt := inner (top 5) 0
abbrev N_init_BadTurn : List Str := ["self", "about"]
theorem sc_init_BadTurn : FnScope N_init_BadTurn ["self", "about"] (defScope st_init_BadTurn) := ⟨rfl, rfl, rfl, by decide +kernel, rfl, by decide +kernel, by decide +kernel⟩
abbrev st_init_BadPlan : Stmt := inner (top 6) 0
abbrev N_init_BadPlan : List Str := ["self", "about"]
theorem sc_init_BadPlan : FnScope N_init_BadPlan ["self", "about"] (defScope st_init_BadPlan) := ⟨rfl, rfl, rfl, by decide +kernel, rfl, by decide +kernel, by decide +kernel⟩
abbrev st_init_BadKernel : Stmt := inner (top 7) 0
abbrev N_init_BadKernel : List Str := ["self", "place"]
theorem sc_init_BadKernel : FnScope N_init_BadKernel ["self", "place"] (defScope st_init_BadKernel) := ⟨rfl, rfl, rfl, by decide +kernel, rfl, by decide +kernel, by decide +kernel⟩
abbrev st_init_BadPaper : Stmt := inner (top 8) 0
abbrev N_init_BadPaper : List Str := ["self", "about"]
theorem sc_init_BadPaper : FnScope N_init_BadPaper ["self", "about"] (defScope st_init_BadPaper) := ⟨rfl, rfl, rfl, by decide +kernel, rfl, by decide +kernel, by decide +kernel⟩
abbrev st_init_BadLine : Stmt := inner (top 9) 0
abbrev N_init_BadLine : List Str := ["self", "row", "word"]
theorem sc_init_BadLine : FnScope N_init_BadLine ["self", "row", "word"] (defScope st_init_BadLine) := ⟨rfl, rfl, rfl, by decide +kernel, rfl, by decide +kernel, by decide +kernel⟩
abbrev st_init_BadSchedule : Stmt := inner (top 10) 0
abbrev N_init_BadSchedule : List Str := ["self", "about"]
theorem sc_init_BadSchedule : FnScope N_init_BadSchedule ["self", "about"] (defScope st_init_BadSchedule) := ⟨rfl, rfl, rfl, by decide +kernel, rfl, by decide +kernel, by decide +kernel⟩
abbrev st_init_NoSuch : Stmt := inner (top 12) 0
abbrev N_init_NoSuch : List Str := ["self", "name"]
theorem sc_init_NoSuch : FnScope N_init_NoSuch ["self", "name"] (defScope st_init_NoSuch) := ⟨rfl, rfl, rfl, by decide +kernel, rfl, by decide +kernel, by decide +kernel⟩
abbrev st_init_Unsafe : Stmt := inner (top 15) 0
abbrev N_init_Unsafe : List Str := ["self", "meeting"]
theorem sc_init_Unsafe : FnScope N_init_Unsafe ["self", "meeting"] (defScope st_init_Unsafe) := ⟨rfl, rfl, rfl, by decide +kernel, rfl, by decide +kernel, by decide +kernel⟩
abbrev st_init_Unfit : Stmt := inner (top 16) 0
abbrev N_init_Unfit : List Str := ["self", "about"]
theorem sc_init_Unfit : FnScope N_init_Unfit ["self", "about"] (defScope st_init_Unfit) := ⟨rfl, rfl, rfl, by decide +kernel, rfl, by decide +kernel, by decide +kernel⟩
abbrev st_init_Full : Stmt := inner (top 17) 0
abbrev N_init_Full : List Str := ["self", "most"]
theorem sc_init_Full : FnScope N_init_Full ["self", "most"] (defScope st_init_Full) := ⟨rfl, rfl, rfl, by decide +kernel, rfl, by decide +kernel, by decide +kernel⟩
abbrev st_init_BadKind : Stmt := inner (top 18) 0
abbrev N_init_BadKind : List Str := ["self", "wanted"]
theorem sc_init_BadKind : FnScope N_init_BadKind ["self", "wanted"] (defScope st_init_BadKind) := ⟨rfl, rfl, rfl, by decide +kernel, rfl, by decide +kernel, by decide +kernel⟩
abbrev st_init_BadNumber : Stmt := inner (top 19) 0
abbrev N_init_BadNumber : List Str := ["self", "about"]
theorem sc_init_BadNumber : FnScope N_init_BadNumber ["self", "about"] (defScope st_init_BadNumber) := ⟨rfl, rfl, rfl, by decide +kernel, rfl, by decide +kernel, by decide +kernel⟩
/-! ### the facts -/
structure Fx (K : PySem.W.Frag) (mg : Str → Option Value) where
  f_l_mixed : Addr
  fd_l_mixed : FuncData
  F_l_mixed : FnP K "_law_mixed" st_l_mixed f_l_mixed fd_l_mixed
  g_l_mixed : mg "_law_mixed" = some (.ref f_l_mixed)
  f_l_take : Addr
  fd_l_take : FuncData
  F_l_take : FnP K "_law_take" st_l_take f_l_take fd_l_take
  g_l_take : mg "_law_take" = some (.ref f_l_take)
  f_l_of : Addr
  fd_l_of : FuncData
  F_l_of : FnP K "_law_of" st_l_of f_l_of fd_l_of
  g_l_of : mg "_law_of" = some (.ref f_l_of)
  f_l_words : Addr
  fd_l_words : FuncData
  F_l_words : FnP K "_law_words" st_l_words f_l_words fd_l_words
  g_l_words : mg "_law_words" = some (.ref f_l_words)
  f_l_kinds : Addr
  fd_l_kinds : FuncData
  F_l_kinds : FnP K "_law_kinds" st_l_kinds f_l_kinds fd_l_kinds
  g_l_kinds : mg "_law_kinds" = some (.ref f_l_kinds)
  f_l_thing_by : Addr
  fd_l_thing_by : FuncData
  F_l_thing_by : FnP K "_law_thing_by" st_l_thing_by f_l_thing_by fd_l_thing_by
  g_l_thing_by : mg "_law_thing_by" = some (.ref f_l_thing_by)
  f_l_lines : Addr
  fd_l_lines : FuncData
  F_l_lines : FnP K "_law_lines" st_l_lines f_l_lines fd_l_lines
  g_l_lines : mg "_law_lines" = some (.ref f_l_lines)
  f_l_fields : Addr
  fd_l_fields : FuncData
  F_l_fields : FnP K "_law_fields" st_l_fields f_l_fields fd_l_fields
  g_l_fields : mg "_law_fields" = some (.ref f_l_fields)
  f_law : Addr
  fd_law : FuncData
  F_law : FnP K "law" st_law f_law fd_law
  g_law : mg "law" = some (.ref f_law)
  b_ArithmeticError : mg "ArithmeticError" = none
  b_Exception : mg "Exception" = none
  b_IndexError : mg "IndexError" = none
  b_KeyError : mg "KeyError" = none
  b_LookupError : mg "LookupError" = none
  b_OverflowError : mg "OverflowError" = none
  b_RuntimeError : mg "RuntimeError" = none
  b_TypeError : mg "TypeError" = none
  b_ValueError : mg "ValueError" = none
  b_ZeroDivisionError : mg "ZeroDivisionError" = none
  b_isinstance : mg "isinstance" = none
  b_len : mg "len" = none
  b_list : mg "list" = none
  b_min : mg "min" = none
  b_range : mg "range" = none
  b_repr : mg "repr" = none
  b_zip : mg "zip" = none

structure Nx (K : PySem.W.Frag) (mg : Str → Option Value) (cl : Str → Addr) where
  fI_BadProgram : Addr
  fd_BadProgram : FuncData
  F_BadProgram : FunD K "__init__" "BadProgram.__init__" (defArgs st_init_BadProgram) (defBody st_init_BadProgram) (defScope st_init_BadProgram) [] [] fI_BadProgram fd_BadProgram
  cls_BadProgram : XcC K (cl "BadProgram") "ValueError.__new__" PySem.HandSPX.veTail
  init_BadProgram : PySem.W.findIn K (.ref (cl "BadProgram")) "__init__" = some (some (.ref fI_BadProgram))
  ity_BadProgram : PySem.W.typeIn K (.ref fI_BadProgram) = some (.type "function")
  fI_BadSizes : Addr
  fd_BadSizes : FuncData
  F_BadSizes : FunD K "__init__" "BadSizes.__init__" (defArgs st_init_BadSizes) (defBody st_init_BadSizes) (defScope st_init_BadSizes) [] [] fI_BadSizes fd_BadSizes
  cls_BadSizes : XcC K (cl "BadSizes") "ValueError.__new__" PySem.HandSPX.veTail
  init_BadSizes : PySem.W.findIn K (.ref (cl "BadSizes")) "__init__" = some (some (.ref fI_BadSizes))
  ity_BadSizes : PySem.W.typeIn K (.ref fI_BadSizes) = some (.type "function")
  fI_BadGiven : Addr
  fd_BadGiven : FuncData
  F_BadGiven : FunD K "__init__" "BadGiven.__init__" (defArgs st_init_BadGiven) (defBody st_init_BadGiven) (defScope st_init_BadGiven) [] [] fI_BadGiven fd_BadGiven
  cls_BadGiven : XcC K (cl "BadGiven") "ValueError.__new__" PySem.HandSPX.veTail
  init_BadGiven : PySem.W.findIn K (.ref (cl "BadGiven")) "__init__" = some (some (.ref fI_BadGiven))
  ity_BadGiven : PySem.W.typeIn K (.ref fI_BadGiven) = some (.type "function")
  fI_BadTurn : Addr
  fd_BadTurn : FuncData
  F_BadTurn : FunD K "__init__" "BadTurn.__init__" (defArgs st_init_BadTurn) (defBody st_init_BadTurn) (defScope st_init_BadTurn) [] [] fI_BadTurn fd_BadTurn
  cls_BadTurn : XcC K (cl "BadTurn") "ValueError.__new__" PySem.HandSPX.veTail
  init_BadTurn : PySem.W.findIn K (.ref (cl "BadTurn")) "__init__" = some (some (.ref fI_BadTurn))
  ity_BadTurn : PySem.W.typeIn K (.ref fI_BadTurn) = some (.type "function")
  fI_BadPlan : Addr
  fd_BadPlan : FuncData
  F_BadPlan : FunD K "__init__" "BadPlan.__init__" (defArgs st_init_BadPlan) (defBody st_init_BadPlan) (defScope st_init_BadPlan) [] [] fI_BadPlan fd_BadPlan
  cls_BadPlan : XcC K (cl "BadPlan") "ValueError.__new__" PySem.HandSPX.veTail
  init_BadPlan : PySem.W.findIn K (.ref (cl "BadPlan")) "__init__" = some (some (.ref fI_BadPlan))
  ity_BadPlan : PySem.W.typeIn K (.ref fI_BadPlan) = some (.type "function")
  fI_BadKernel : Addr
  fd_BadKernel : FuncData
  F_BadKernel : FunD K "__init__" "BadKernel.__init__" (defArgs st_init_BadKernel) (defBody st_init_BadKernel) (defScope st_init_BadKernel) [] [] fI_BadKernel fd_BadKernel
  cls_BadKernel : XcC K (cl "BadKernel") "ValueError.__new__" PySem.HandSPX.veTail
  init_BadKernel : PySem.W.findIn K (.ref (cl "BadKernel")) "__init__" = some (some (.ref fI_BadKernel))
  ity_BadKernel : PySem.W.typeIn K (.ref fI_BadKernel) = some (.type "function")
  fI_BadPaper : Addr
  fd_BadPaper : FuncData
  F_BadPaper : FunD K "__init__" "BadPaper.__init__" (defArgs st_init_BadPaper) (defBody st_init_BadPaper) (defScope st_init_BadPaper) [] [] fI_BadPaper fd_BadPaper
  cls_BadPaper : XcC K (cl "BadPaper") "ValueError.__new__" PySem.HandSPX.veTail
  init_BadPaper : PySem.W.findIn K (.ref (cl "BadPaper")) "__init__" = some (some (.ref fI_BadPaper))
  ity_BadPaper : PySem.W.typeIn K (.ref fI_BadPaper) = some (.type "function")
  fI_BadLine : Addr
  fd_BadLine : FuncData
  F_BadLine : FunD K "__init__" "BadLine.__init__" (defArgs st_init_BadLine) (defBody st_init_BadLine) (defScope st_init_BadLine) [] [] fI_BadLine fd_BadLine
  cls_BadLine : XcC K (cl "BadLine") "ValueError.__new__" PySem.HandSPX.veTail
  init_BadLine : PySem.W.findIn K (.ref (cl "BadLine")) "__init__" = some (some (.ref fI_BadLine))
  ity_BadLine : PySem.W.typeIn K (.ref fI_BadLine) = some (.type "function")
  fI_BadSchedule : Addr
  fd_BadSchedule : FuncData
  F_BadSchedule : FunD K "__init__" "BadSchedule.__init__" (defArgs st_init_BadSchedule) (defBody st_init_BadSchedule) (defScope st_init_BadSchedule) [] [] fI_BadSchedule fd_BadSchedule
  cls_BadSchedule : XcC K (cl "BadSchedule") "ValueError.__new__" PySem.HandSPX.veTail
  init_BadSchedule : PySem.W.findIn K (.ref (cl "BadSchedule")) "__init__" = some (some (.ref fI_BadSchedule))
  ity_BadSchedule : PySem.W.typeIn K (.ref fI_BadSchedule) = some (.type "function")
  fI_NoSuch : Addr
  fd_NoSuch : FuncData
  F_NoSuch : FunD K "__init__" "NoSuch.__init__" (defArgs st_init_NoSuch) (defBody st_init_NoSuch) (defScope st_init_NoSuch) [] [] fI_NoSuch fd_NoSuch
  cls_NoSuch : XcC K (cl "NoSuch") "LookupError.__new__" tlLE
  init_NoSuch : PySem.W.findIn K (.ref (cl "NoSuch")) "__init__" = some (some (.ref fI_NoSuch))
  ity_NoSuch : PySem.W.typeIn K (.ref fI_NoSuch) = some (.type "function")
  fI_Unsafe : Addr
  fd_Unsafe : FuncData
  F_Unsafe : FunD K "__init__" "Unsafe.__init__" (defArgs st_init_Unsafe) (defBody st_init_Unsafe) (defScope st_init_Unsafe) [] [] fI_Unsafe fd_Unsafe
  cls_Unsafe : XcC K (cl "Unsafe") "RuntimeError.__new__" tlRE
  init_Unsafe : PySem.W.findIn K (.ref (cl "Unsafe")) "__init__" = some (some (.ref fI_Unsafe))
  ity_Unsafe : PySem.W.typeIn K (.ref fI_Unsafe) = some (.type "function")
  fI_Unfit : Addr
  fd_Unfit : FuncData
  F_Unfit : FunD K "__init__" "Unfit.__init__" (defArgs st_init_Unfit) (defBody st_init_Unfit) (defScope st_init_Unfit) [] [] fI_Unfit fd_Unfit
  cls_Unfit : XcC K (cl "Unfit") "RuntimeError.__new__" tlRE
  init_Unfit : PySem.W.findIn K (.ref (cl "Unfit")) "__init__" = some (some (.ref fI_Unfit))
  ity_Unfit : PySem.W.typeIn K (.ref fI_Unfit) = some (.type "function")
  fI_Full : Addr
  fd_Full : FuncData
  F_Full : FunD K "__init__" "Full.__init__" (defArgs st_init_Full) (defBody st_init_Full) (defScope st_init_Full) [] [] fI_Full fd_Full
  cls_Full : XcC K (cl "Full") "RuntimeError.__new__" tlRE
  init_Full : PySem.W.findIn K (.ref (cl "Full")) "__init__" = some (some (.ref fI_Full))
  ity_Full : PySem.W.typeIn K (.ref fI_Full) = some (.type "function")
  fI_BadKind : Addr
  fd_BadKind : FuncData
  F_BadKind : FunD K "__init__" "BadKind.__init__" (defArgs st_init_BadKind) (defBody st_init_BadKind) (defScope st_init_BadKind) [] [] fI_BadKind fd_BadKind
  cls_BadKind : XcC K (cl "BadKind") "TypeError.__new__" tlTE
  init_BadKind : PySem.W.findIn K (.ref (cl "BadKind")) "__init__" = some (some (.ref fI_BadKind))
  ity_BadKind : PySem.W.typeIn K (.ref fI_BadKind) = some (.type "function")
  fI_BadNumber : Addr
  fd_BadNumber : FuncData
  F_BadNumber : FunD K "__init__" "BadNumber.__init__" (defArgs st_init_BadNumber) (defBody st_init_BadNumber) (defScope st_init_BadNumber) [] [] fI_BadNumber fd_BadNumber
  cls_BadNumber : XcC K (cl "BadNumber") "IndexError.__new__" tlIE
  init_BadNumber : PySem.W.findIn K (.ref (cl "BadNumber")) "__init__" = some (some (.ref fI_BadNumber))
  ity_BadNumber : PySem.W.typeIn K (.ref fI_BadNumber) = some (.type "function")
  rd_Cant : PySem.W.readsIn K (cl "Cant") (.type "type") = true
  ga_Cant : PySem.W.specialIn K (.ref (cl "Cant")) "__getattribute__" = some (some (.builtin "type.__getattribute__"))
  fi_Cant : PySem.W.findCls K (.ref (cl "Cant")) (.type "type") "__init__" = some (.val (.builtin "RuntimeError.__init__"))
  rd_Lack : PySem.W.readsIn K (cl "Lack") (.type "type") = true
  ga_Lack : PySem.W.specialIn K (.ref (cl "Lack")) "__getattribute__" = some (some (.builtin "type.__getattribute__"))
  fi_Lack : PySem.W.findCls K (.ref (cl "Lack")) (.type "type") "__init__" = some (.val (.builtin "LookupError.__init__"))
  rd_LaneError : PySem.W.readsIn K (cl "LaneError") (.type "type") = true
  ga_LaneError : PySem.W.specialIn K (.ref (cl "LaneError")) "__getattribute__" = some (some (.builtin "type.__getattribute__"))
  fi_LaneError : PySem.W.findCls K (.ref (cl "LaneError")) (.type "type") "__init__" = some (.val (.builtin "ValueError.__init__"))
  vv_IndexError : PySem.W.findCls K (.type "IndexError") (.type "type") "__init__" = some (.val (.builtin "IndexError.__init__"))
  bb_IndexError : mg "IndexError" = none
  vv_TypeError : PySem.W.findCls K (.type "TypeError") (.type "type") "__init__" = some (.val (.builtin "TypeError.__init__"))
  bb_TypeError : mg "TypeError" = none
  g_BadGiven : mg "BadGiven" = some (.ref (cl "BadGiven"))
  g_BadKernel : mg "BadKernel" = some (.ref (cl "BadKernel"))
  g_BadKind : mg "BadKind" = some (.ref (cl "BadKind"))
  g_BadLine : mg "BadLine" = some (.ref (cl "BadLine"))
  g_BadNumber : mg "BadNumber" = some (.ref (cl "BadNumber"))
  g_BadPaper : mg "BadPaper" = some (.ref (cl "BadPaper"))
  g_BadPlan : mg "BadPlan" = some (.ref (cl "BadPlan"))
  g_BadProgram : mg "BadProgram" = some (.ref (cl "BadProgram"))
  g_BadSchedule : mg "BadSchedule" = some (.ref (cl "BadSchedule"))
  g_BadSizes : mg "BadSizes" = some (.ref (cl "BadSizes"))
  g_BadTurn : mg "BadTurn" = some (.ref (cl "BadTurn"))
  g_Cant : mg "Cant" = some (.ref (cl "Cant"))
  g_Full : mg "Full" = some (.ref (cl "Full"))
  g_Gone : mg "Gone" = some (.ref (cl "Gone"))
  g_Lack : mg "Lack" = some (.ref (cl "Lack"))
  g_LaneError : mg "LaneError" = some (.ref (cl "LaneError"))
  g_NoSuch : mg "NoSuch" = some (.ref (cl "NoSuch"))
  g_Unfit : mg "Unfit" = some (.ref (cl "Unfit"))
  g_Unsafe : mg "Unsafe" = some (.ref (cl "Unsafe"))
  ex_Gone : PySem.W.excIn K (cl "Gone") tlLE "LookupError.__new__" = true
  ke_Gone : PySem.W.keepIn K (.ref (cl "Gone")) = true
  sm : (K.lookup sysModules).isSome = true
  q : ∀ c ∈ clsL, XqC K (cl c)
  ko : ∀ c ∈ clsL, ∀ t ∈ ownL, PySem.W.kitOne K (.ref (cl c)) (.ref (cl t)) = some (isA c t)
  kb : ∀ c ∈ clsL, ∀ t ∈ bltL, PySem.W.kitOne K (.ref (cl c)) (.type t.2) = some (isA c t.1)
  ff : ∀ p ∈ flds, PySem.W.findIn K (.ref (cl p.1)) p.2 = some none
section
variable {K : PySem.W.Frag} {mg : Str → Option Value} {cl : Str → Addr}
theorem flds_cls : ∀ p ∈ flds, p.1 ∈ clsL := by decide +kernel
theorem Nx.fld (nx : Nx K mg cl) {f : Str} (c : Str) (h : okF c f = true) : XqC K (cl c) ∧ PySem.W.findIn K (.ref (cl c)) f = some none :=
  have m := of_decide_eq_true h
  ⟨nx.q c (flds_cls _ m), nx.ff _ m⟩
theorem tbl_ok {t c : Str} {b : Bool} (h : tbl t c = some b) : c ∈ clsL ∧ b = isA c t := by
  unfold tbl at h
  split at h
  · rename_i m
    exact ⟨m, (Option.some.inj h).symm⟩
  · cases h
theorem Nx.iso (nx : Nx K mg cl) (t : Str) (ht : t ∈ ownL) (c : Str) (b : Bool) (h : tbl t c = some b) : XqC K (cl c) ∧ PySem.W.kitOne K (.ref (cl c)) (.ref (cl t)) = some b := by
  obtain ⟨m, e⟩ := tbl_ok h
  exact ⟨nx.q c m, e ▸ nx.ko c m t ht⟩
theorem Nx.isb (nx : Nx K mg cl) (t : Str × String) (ht : t ∈ bltL) (c : Str) (b : Bool) (h : tbl t.1 c = some b) : XqC K (cl c) ∧ PySem.W.kitOne K (.ref (cl c)) (.type t.2) = some b := by
  obtain ⟨m, e⟩ := tbl_ok h
  exact ⟨nx.q c m, e ▸ nx.kb c m t ht⟩
end
end K2
end
section
set_option maxHeartbeats 4000000
namespace K2
open PySem PySem.Spec PyProof.Rows L2 Dv
section
variable {P : Program} {w : World} {K : PySem.W.Frag} {mg : Str → Option Value} {cl : Str → Addr} {base : Heap}
theorem bnd_BadProgram (nx : Nx K mg cl) : Binds K nx.fd_BadProgram ["self", "place"] [] := nx.F_BadProgram.bindsN fun _ _ _ _ _ _ us h => match us, h with | [_, _], _ => rfl
theorem ok_init_BadProgram (nx : Nx K mg cl) : FnOk P w K mg base CX0 1 nx.fI_BadProgram nx.fd_BadProgram ["self", "place"] (spI (cl "BadProgram") "place") := by
  refine init_fn (msg := "no program") (k := 0) nx.cls_BadProgram nx.F_BadProgram sc_init_BadProgram (nx.ff ("BadProgram", "place") (by decide +kernel)) fun X cdv A outer s H E hX => ?_
  subst hX
  exact pss_cons (ps_expr (pe_xin base_VE rfl nx.g_LaneError nx.rd_LaneError nx.ga_LaneError nx.fi_LaneError rfl (pa_cons (pe_var (i := 0) rfl (by first | exact Or.inl rfl | exact Or.inr (Or.inl rfl) | exact Or.inr (Or.inr rfl))) (pa_cons pe_str pa_nil)))) (pss_one (ps_xst base_VE (pe_var (i := 0) rfl (by first | exact Or.inl rfl | exact Or.inr (Or.inl rfl) | exact Or.inr (Or.inr rfl))) (pe_var (i := 1) rfl (by first | exact Or.inl rfl | exact Or.inr (Or.inl rfl) | exact Or.inr (Or.inr rfl)))))
theorem bnd_BadSizes (nx : Nx K mg cl) : Binds K nx.fd_BadSizes ["self", "about"] [] := nx.F_BadSizes.bindsN fun _ _ _ _ _ _ us h => match us, h with | [_, _], _ => rfl
theorem ok_init_BadSizes (nx : Nx K mg cl) : FnOk P w K mg base CX0 1 nx.fI_BadSizes nx.fd_BadSizes ["self", "about"] (spI (cl "BadSizes") "about") := by
  refine init_fn (msg := "no sizes") (k := 0) nx.cls_BadSizes nx.F_BadSizes sc_init_BadSizes (nx.ff ("BadSizes", "about") (by decide +kernel)) fun X cdv A outer s H E hX => ?_
  subst hX
  exact pss_cons (ps_expr (pe_xin base_VE rfl nx.g_LaneError nx.rd_LaneError nx.ga_LaneError nx.fi_LaneError rfl (pa_cons (pe_var (i := 0) rfl (by first | exact Or.inl rfl | exact Or.inr (Or.inl rfl) | exact Or.inr (Or.inr rfl))) (pa_cons pe_str pa_nil)))) (pss_one (ps_xst base_VE (pe_var (i := 0) rfl (by first | exact Or.inl rfl | exact Or.inr (Or.inl rfl) | exact Or.inr (Or.inr rfl))) (pe_var (i := 1) rfl (by first | exact Or.inl rfl | exact Or.inr (Or.inl rfl) | exact Or.inr (Or.inr rfl)))))
theorem bnd_BadGiven (nx : Nx K mg cl) : Binds K nx.fd_BadGiven ["self", "about"] [] := nx.F_BadGiven.bindsN fun _ _ _ _ _ _ us h => match us, h with | [_, _], _ => rfl
theorem ok_init_BadGiven (nx : Nx K mg cl) : FnOk P w K mg base CX0 1 nx.fI_BadGiven nx.fd_BadGiven ["self", "about"] (spI (cl "BadGiven") "about") := by
  refine init_fn (msg := "nothing that can be given") (k := 0) nx.cls_BadGiven nx.F_BadGiven sc_init_BadGiven (nx.ff ("BadGiven", "about") (by decide +kernel)) fun X cdv A outer s H E hX => ?_
  subst hX
  exact pss_cons (ps_expr (pe_xin base_VE rfl nx.g_LaneError nx.rd_LaneError nx.ga_LaneError nx.fi_LaneError rfl (pa_cons (pe_var (i := 0) rfl (by first | exact Or.inl rfl | exact Or.inr (Or.inl rfl) | exact Or.inr (Or.inr rfl))) (pa_cons pe_str pa_nil)))) (pss_one (ps_xst base_VE (pe_var (i := 0) rfl (by first | exact Or.inl rfl | exact Or.inr (Or.inl rfl) | exact Or.inr (Or.inr rfl))) (pe_var (i := 1) rfl (by first | exact Or.inl rfl | exact Or.inr (Or.inl rfl) | exact Or.inr (Or.inr rfl)))))
theorem bnd_BadTurn (nx : Nx K mg cl) : Binds K nx.fd_BadTurn ["self", "about"] [] := nx.F_BadTurn.bindsN fun _ _ _ _ _ _ us h => match us, h with | [_, _], _ => rfl
theorem ok_init_BadTurn (nx : Nx K mg cl) : FnOk P w K mg base CX0 1 nx.fI_BadTurn nx.fd_BadTurn ["self", "about"] (spI (cl "BadTurn") "about") := by
  refine init_fn (msg := "no turn") (k := 0) nx.cls_BadTurn nx.F_BadTurn sc_init_BadTurn (nx.ff ("BadTurn", "about") (by decide +kernel)) fun X cdv A outer s H E hX => ?_
  subst hX
  exact pss_cons (ps_expr (pe_xin base_VE rfl nx.g_LaneError nx.rd_LaneError nx.ga_LaneError nx.fi_LaneError rfl (pa_cons (pe_var (i := 0) rfl (by first | exact Or.inl rfl | exact Or.inr (Or.inl rfl) | exact Or.inr (Or.inr rfl))) (pa_cons pe_str pa_nil)))) (pss_one (ps_xst base_VE (pe_var (i := 0) rfl (by first | exact Or.inl rfl | exact Or.inr (Or.inl rfl) | exact Or.inr (Or.inr rfl))) (pe_var (i := 1) rfl (by first | exact Or.inl rfl | exact Or.inr (Or.inl rfl) | exact Or.inr (Or.inr rfl)))))
theorem bnd_BadPlan (nx : Nx K mg cl) : Binds K nx.fd_BadPlan ["self", "about"] [] := nx.F_BadPlan.bindsN fun _ _ _ _ _ _ us h => match us, h with | [_, _], _ => rfl
theorem ok_init_BadPlan (nx : Nx K mg cl) : FnOk P w K mg base CX0 1 nx.fI_BadPlan nx.fd_BadPlan ["self", "about"] (spI (cl "BadPlan") "about") := by
  refine init_fn (msg := "no plan") (k := 0) nx.cls_BadPlan nx.F_BadPlan sc_init_BadPlan (nx.ff ("BadPlan", "about") (by decide +kernel)) fun X cdv A outer s H E hX => ?_
  subst hX
  exact pss_cons (ps_expr (pe_xin base_VE rfl nx.g_LaneError nx.rd_LaneError nx.ga_LaneError nx.fi_LaneError rfl (pa_cons (pe_var (i := 0) rfl (by first | exact Or.inl rfl | exact Or.inr (Or.inl rfl) | exact Or.inr (Or.inr rfl))) (pa_cons pe_str pa_nil)))) (pss_one (ps_xst base_VE (pe_var (i := 0) rfl (by first | exact Or.inl rfl | exact Or.inr (Or.inl rfl) | exact Or.inr (Or.inr rfl))) (pe_var (i := 1) rfl (by first | exact Or.inl rfl | exact Or.inr (Or.inl rfl) | exact Or.inr (Or.inr rfl)))))
theorem bnd_BadKernel (nx : Nx K mg cl) : Binds K nx.fd_BadKernel ["self", "place"] [] := nx.F_BadKernel.bindsN fun _ _ _ _ _ _ us h => match us, h with | [_, _], _ => rfl
theorem ok_init_BadKernel (nx : Nx K mg cl) : FnOk P w K mg base CX0 1 nx.fI_BadKernel nx.fd_BadKernel ["self", "place"] (spI (cl "BadKernel") "place") := by
  refine init_fn (msg := "no kernel") (k := 0) nx.cls_BadKernel nx.F_BadKernel sc_init_BadKernel (nx.ff ("BadKernel", "place") (by decide +kernel)) fun X cdv A outer s H E hX => ?_
  subst hX
  exact pss_cons (ps_expr (pe_xin base_VE rfl nx.g_LaneError nx.rd_LaneError nx.ga_LaneError nx.fi_LaneError rfl (pa_cons (pe_var (i := 0) rfl (by first | exact Or.inl rfl | exact Or.inr (Or.inl rfl) | exact Or.inr (Or.inr rfl))) (pa_cons pe_str pa_nil)))) (pss_one (ps_xst base_VE (pe_var (i := 0) rfl (by first | exact Or.inl rfl | exact Or.inr (Or.inl rfl) | exact Or.inr (Or.inr rfl))) (pe_var (i := 1) rfl (by first | exact Or.inl rfl | exact Or.inr (Or.inl rfl) | exact Or.inr (Or.inr rfl)))))
theorem bnd_BadPaper (nx : Nx K mg cl) : Binds K nx.fd_BadPaper ["self", "about"] [] := nx.F_BadPaper.bindsN fun _ _ _ _ _ _ us h => match us, h with | [_, _], _ => rfl
theorem ok_init_BadPaper (nx : Nx K mg cl) : FnOk P w K mg base CX0 1 nx.fI_BadPaper nx.fd_BadPaper ["self", "about"] (spI (cl "BadPaper") "about") := by
  refine init_fn (msg := "the paper doesn't show it") (k := 0) nx.cls_BadPaper nx.F_BadPaper sc_init_BadPaper (nx.ff ("BadPaper", "about") (by decide +kernel)) fun X cdv A outer s H E hX => ?_
  subst hX
  exact pss_cons (ps_expr (pe_xin base_VE rfl nx.g_LaneError nx.rd_LaneError nx.ga_LaneError nx.fi_LaneError rfl (pa_cons (pe_var (i := 0) rfl (by first | exact Or.inl rfl | exact Or.inr (Or.inl rfl) | exact Or.inr (Or.inr rfl))) (pa_cons pe_str pa_nil)))) (pss_one (ps_xst base_VE (pe_var (i := 0) rfl (by first | exact Or.inl rfl | exact Or.inr (Or.inl rfl) | exact Or.inr (Or.inr rfl))) (pe_var (i := 1) rfl (by first | exact Or.inl rfl | exact Or.inr (Or.inl rfl) | exact Or.inr (Or.inr rfl)))))
theorem bnd_BadLine (nx : Nx K mg cl) : Binds K nx.fd_BadLine ["self", "row", "word"] [] := nx.F_BadLine.bindsN fun _ _ _ _ _ _ us h => match us, h with | [_, _, _], _ => rfl
theorem ok_init_BadLine (nx : Nx K mg cl) : FnOk P w K mg base CX0 1 nx.fI_BadLine nx.fd_BadLine ["self", "row", "word"] (spI2 (cl "BadLine") "row" "word") := by
  refine init_fn2 (msg := "no such text") (k := 0) nx.cls_BadLine (oex_of nx.cls_BadLine) nx.F_BadLine sc_init_BadLine (nx.ff ("BadLine", "row") (by decide +kernel)) (nx.ff ("BadLine", "word") (by decide +kernel)) fun X cdv A outer s H E hX => ?_
  subst hX
  exact pss_cons (ps_expr (pe_xin base_VE rfl nx.g_LaneError nx.rd_LaneError nx.ga_LaneError nx.fi_LaneError rfl (pa_cons (pe_var (i := 0) rfl (by first | exact Or.inl rfl | exact Or.inr (Or.inl rfl) | exact Or.inr (Or.inr rfl))) (pa_cons pe_str pa_nil)))) (pss_cons (ps_xst base_VE (pe_var (i := 0) rfl (by first | exact Or.inl rfl | exact Or.inr (Or.inl rfl) | exact Or.inr (Or.inr rfl))) (pe_var (i := 1) rfl (by first | exact Or.inl rfl | exact Or.inr (Or.inl rfl) | exact Or.inr (Or.inr rfl)))) (pss_one (ps_ost (pe_var (i := 0) rfl (by first | exact Or.inl rfl | exact Or.inr (Or.inl rfl) | exact Or.inr (Or.inr rfl))) (pe_var (i := 2) rfl (by first | exact Or.inl rfl | exact Or.inr (Or.inl rfl) | exact Or.inr (Or.inr rfl))))))
theorem bnd_BadSchedule (nx : Nx K mg cl) : Binds K nx.fd_BadSchedule ["self", "about"] [] := nx.F_BadSchedule.bindsN fun _ _ _ _ _ _ us h => match us, h with | [_, _], _ => rfl
theorem ok_init_BadSchedule (nx : Nx K mg cl) : FnOk P w K mg base CX0 1 nx.fI_BadSchedule nx.fd_BadSchedule ["self", "about"] (spI (cl "BadSchedule") "about") := by
  refine init_fn (msg := "no schedule") (k := 0) nx.cls_BadSchedule nx.F_BadSchedule sc_init_BadSchedule (nx.ff ("BadSchedule", "about") (by decide +kernel)) fun X cdv A outer s H E hX => ?_
  subst hX
  exact pss_cons (ps_expr (pe_xin base_VE rfl nx.g_LaneError nx.rd_LaneError nx.ga_LaneError nx.fi_LaneError rfl (pa_cons (pe_var (i := 0) rfl (by first | exact Or.inl rfl | exact Or.inr (Or.inl rfl) | exact Or.inr (Or.inr rfl))) (pa_cons pe_str pa_nil)))) (pss_one (ps_xst base_VE (pe_var (i := 0) rfl (by first | exact Or.inl rfl | exact Or.inr (Or.inl rfl) | exact Or.inr (Or.inr rfl))) (pe_var (i := 1) rfl (by first | exact Or.inl rfl | exact Or.inr (Or.inl rfl) | exact Or.inr (Or.inr rfl)))))
theorem bnd_NoSuch (nx : Nx K mg cl) : Binds K nx.fd_NoSuch ["self", "name"] [] := nx.F_NoSuch.bindsN fun _ _ _ _ _ _ us h => match us, h with | [_, _], _ => rfl
theorem ok_init_NoSuch (nx : Nx K mg cl) : FnOk P w K mg base CX0 1 nx.fI_NoSuch nx.fd_NoSuch ["self", "name"] (spI (cl "NoSuch") "name") := by
  refine init_fn (msg := "nothing is called so") (k := 0) nx.cls_NoSuch nx.F_NoSuch sc_init_NoSuch (nx.ff ("NoSuch", "name") (by decide +kernel)) fun X cdv A outer s H E hX => ?_
  subst hX
  exact pss_cons (ps_expr (pe_xin base_LE rfl nx.g_Lack nx.rd_Lack nx.ga_Lack nx.fi_Lack rfl (pa_cons (pe_var (i := 0) rfl (by first | exact Or.inl rfl | exact Or.inr (Or.inl rfl) | exact Or.inr (Or.inr rfl))) (pa_cons pe_str pa_nil)))) (pss_one (ps_xst base_LE (pe_var (i := 0) rfl (by first | exact Or.inl rfl | exact Or.inr (Or.inl rfl) | exact Or.inr (Or.inr rfl))) (pe_var (i := 1) rfl (by first | exact Or.inl rfl | exact Or.inr (Or.inl rfl) | exact Or.inr (Or.inr rfl)))))
theorem bnd_Unsafe (nx : Nx K mg cl) : Binds K nx.fd_Unsafe ["self", "meeting"] [] := nx.F_Unsafe.bindsN fun _ _ _ _ _ _ us h => match us, h with | [_, _], _ => rfl
theorem ok_init_Unsafe (nx : Nx K mg cl) : FnOk P w K mg base CX0 1 nx.fI_Unsafe nx.fd_Unsafe ["self", "meeting"] (spI (cl "Unsafe") "meeting") := by
  refine init_fn (msg := "the turn isn't safe") (k := 0) nx.cls_Unsafe nx.F_Unsafe sc_init_Unsafe (nx.ff ("Unsafe", "meeting") (by decide +kernel)) fun X cdv A outer s H E hX => ?_
  subst hX
  exact pss_cons (ps_expr (pe_xin base_RE rfl nx.g_Cant nx.rd_Cant nx.ga_Cant nx.fi_Cant rfl (pa_cons (pe_var (i := 0) rfl (by first | exact Or.inl rfl | exact Or.inr (Or.inl rfl) | exact Or.inr (Or.inr rfl))) (pa_cons pe_str pa_nil)))) (pss_one (ps_xst base_RE (pe_var (i := 0) rfl (by first | exact Or.inl rfl | exact Or.inr (Or.inl rfl) | exact Or.inr (Or.inr rfl))) (pe_var (i := 1) rfl (by first | exact Or.inl rfl | exact Or.inr (Or.inl rfl) | exact Or.inr (Or.inr rfl)))))
theorem bnd_Unfit (nx : Nx K mg cl) : Binds K nx.fd_Unfit ["self", "about"] [] := nx.F_Unfit.bindsN fun _ _ _ _ _ _ us h => match us, h with | [_, _], _ => rfl
theorem ok_init_Unfit (nx : Nx K mg cl) : FnOk P w K mg base CX0 1 nx.fI_Unfit nx.fd_Unfit ["self", "about"] (spI (cl "Unfit") "about") := by
  refine init_fn (msg := "no plan fits") (k := 0) nx.cls_Unfit nx.F_Unfit sc_init_Unfit (nx.ff ("Unfit", "about") (by decide +kernel)) fun X cdv A outer s H E hX => ?_
  subst hX
  exact pss_cons (ps_expr (pe_xin base_RE rfl nx.g_Cant nx.rd_Cant nx.ga_Cant nx.fi_Cant rfl (pa_cons (pe_var (i := 0) rfl (by first | exact Or.inl rfl | exact Or.inr (Or.inl rfl) | exact Or.inr (Or.inr rfl))) (pa_cons pe_str pa_nil)))) (pss_one (ps_xst base_RE (pe_var (i := 0) rfl (by first | exact Or.inl rfl | exact Or.inr (Or.inl rfl) | exact Or.inr (Or.inr rfl))) (pe_var (i := 1) rfl (by first | exact Or.inl rfl | exact Or.inr (Or.inl rfl) | exact Or.inr (Or.inr rfl)))))
theorem bnd_Full (nx : Nx K mg cl) : Binds K nx.fd_Full ["self", "most"] [] := nx.F_Full.bindsN fun _ _ _ _ _ _ us h => match us, h with | [_, _], _ => rfl
theorem ok_init_Full (nx : Nx K mg cl) : FnOk P w K mg base CX0 1 nx.fI_Full nx.fd_Full ["self", "most"] (spI (cl "Full") "most") := by
  refine init_fn (msg := "there is no more room") (k := 0) nx.cls_Full nx.F_Full sc_init_Full (nx.ff ("Full", "most") (by decide +kernel)) fun X cdv A outer s H E hX => ?_
  subst hX
  exact pss_cons (ps_expr (pe_xin base_RE rfl nx.g_Cant nx.rd_Cant nx.ga_Cant nx.fi_Cant rfl (pa_cons (pe_var (i := 0) rfl (by first | exact Or.inl rfl | exact Or.inr (Or.inl rfl) | exact Or.inr (Or.inr rfl))) (pa_cons pe_str pa_nil)))) (pss_one (ps_xst base_RE (pe_var (i := 0) rfl (by first | exact Or.inl rfl | exact Or.inr (Or.inl rfl) | exact Or.inr (Or.inr rfl))) (pe_var (i := 1) rfl (by first | exact Or.inl rfl | exact Or.inr (Or.inl rfl) | exact Or.inr (Or.inr rfl)))))
theorem bnd_BadKind (nx : Nx K mg cl) : Binds K nx.fd_BadKind ["self", "wanted"] [] := nx.F_BadKind.bindsN fun _ _ _ _ _ _ us h => match us, h with | [_, _], _ => rfl
theorem ok_init_BadKind (nx : Nx K mg cl) : FnOk P w K mg base CX0 1 nx.fI_BadKind nx.fd_BadKind ["self", "wanted"] (spI (cl "BadKind") "wanted") := by
  refine init_fn (msg := "a thing of another kind") (k := 0) nx.cls_BadKind nx.F_BadKind sc_init_BadKind (nx.ff ("BadKind", "wanted") (by decide +kernel)) fun X cdv A outer s H E hX => ?_
  subst hX
  exact pss_cons (ps_expr (pe_xinB base_TE rfl nx.bb_TypeError (by decide +kernel) (by kernel_rfl) (by decide +kernel) nx.vv_TypeError rfl (pa_cons (pe_var (i := 0) rfl (by first | exact Or.inl rfl | exact Or.inr (Or.inl rfl) | exact Or.inr (Or.inr rfl))) (pa_cons pe_str pa_nil)))) (pss_one (ps_xst base_TE (pe_var (i := 0) rfl (by first | exact Or.inl rfl | exact Or.inr (Or.inl rfl) | exact Or.inr (Or.inr rfl))) (pe_var (i := 1) rfl (by first | exact Or.inl rfl | exact Or.inr (Or.inl rfl) | exact Or.inr (Or.inr rfl)))))
theorem bnd_BadNumber (nx : Nx K mg cl) : Binds K nx.fd_BadNumber ["self", "about"] [] := nx.F_BadNumber.bindsN fun _ _ _ _ _ _ us h => match us, h with | [_, _], _ => rfl
theorem ok_init_BadNumber (nx : Nx K mg cl) : FnOk P w K mg base CX0 1 nx.fI_BadNumber nx.fd_BadNumber ["self", "about"] (spI (cl "BadNumber") "about") := by
  refine init_fn (msg := "no such number") (k := 0) nx.cls_BadNumber nx.F_BadNumber sc_init_BadNumber (nx.ff ("BadNumber", "about") (by decide +kernel)) fun X cdv A outer s H E hX => ?_
  subst hX
  exact pss_cons (ps_expr (pe_xinB base_IE rfl nx.bb_IndexError (by decide +kernel) (by kernel_rfl) (by decide +kernel) nx.vv_IndexError rfl (pa_cons (pe_var (i := 0) rfl (by first | exact Or.inl rfl | exact Or.inr (Or.inl rfl) | exact Or.inr (Or.inr rfl))) (pa_cons pe_str pa_nil)))) (pss_one (ps_xst base_IE (pe_var (i := 0) rfl (by first | exact Or.inl rfl | exact Or.inr (Or.inl rfl) | exact Or.inr (Or.inr rfl))) (pe_var (i := 1) rfl (by first | exact Or.inl rfl | exact Or.inr (Or.inl rfl) | exact Or.inr (Or.inr rfl)))))
end
end K2
end
section
set_option maxHeartbeats 4000000
namespace K2
open PySem PySem.Spec PyProof.Rows L2 Dv
section
variable {P : Program} {w : World} {K : PySem.W.Frag} {mg : Str → Option Value} {base : Heap} {L C : Addr} {hLC : L ≠ C}
theorem sc_l_mixed : FnScope N_l_mixed ["_law_drawn", "_law_k"] (defScope st_l_mixed) := ⟨rfl, rfl, rfl, by decide +kernel, rfl, by decide +kernel, by decide +kernel⟩
theorem ok_l_mixed (fx : Fx K mg) : FnG P w K mg base 1 fx.f_l_mixed fx.fd_l_mixed ["_law_drawn", "_law_k"] (spF (gS K L C hLC) 2 m_l_mixed) := by
  refine fn_ok (G := gS K L C hLC) (k := 0) (N := N_l_mixed) fx.F_l_mixed sc_l_mixed rfl fun X cdv A outer s H E hX hr gu => ?_
  subst hX
  have ND := sc_l_mixed.nd
  have hu1 := room1 hr
  have hu64 := room64 hr
  have hu65 := room65 hr
  exact (ss_cons (ds_set (i := 0) ND rfl (by first | exact Or.inl rfl | exact Or.inr rfl) (pd_op op_mod od_mod (pd_op op_pow od_pow (pd_op op_addD (od_add rfl) (pd_op op_addD (od_add rfl) (pd_op op_addD (od_add rfl) (pd_op op_mod od_mod (pd_br (i := 0) rfl (by first | exact Or.inl rfl | exact Or.inr (Or.inl rfl) | exact Or.inr (Or.inr rfl))) (pd_int)) (pd_op op_mulX (od_mulX rfl) (pd_op op_mulX (od_mulX rfl) (pd_int) (pd_br (i := 1) rfl (by first | exact Or.inl rfl | exact Or.inr (Or.inl rfl) | exact Or.inr (Or.inr rfl)))) (pd_br (i := 1) rfl (by first | exact Or.inl rfl | exact Or.inr (Or.inl rfl) | exact Or.inr (Or.inr rfl))))) (pd_op op_mulX (od_mulX rfl) (pd_int) (pd_br (i := 1) rfl (by first | exact Or.inl rfl | exact Or.inr (Or.inl rfl) | exact Or.inr (Or.inr rfl))))) (pd_int)) (pd_int)) (pd_int))) (ss_one (ds_ret (pd_op op_fdiv od_div (pd_op op_mod od_mod (pd_op op_mulX (od_mulX rfl) (pd_br (i := 0) rfl (by first | exact Or.inl rfl | exact Or.inr (Or.inl rfl) | exact Or.inr (Or.inr rfl))) (pd_op op_addD (od_add rfl) (pd_int) (pd_op op_mulX (od_mulX rfl) (pd_int) (pd_br (i := 1) rfl (by first | exact Or.inl rfl | exact Or.inr (Or.inl rfl) | exact Or.inr (Or.inr rfl)))))) (pd_int)) (pd_int)))))
theorem sc_l_words : FnScope N_l_words ["_law_e"] (defScope st_l_words) := ⟨rfl, rfl, rfl, by decide +kernel, rfl, by decide +kernel, by decide +kernel⟩
theorem ok_l_words {Sg : Type} {G : Gd Sg} (fx : Fx G.K mg) (nx : Nx G.K mg G.cl) : FnG P w G.K mg base 1 fx.f_l_words fx.fd_l_words ["_law_e"] (spF G 1 m_l_words) := by
  refine fn_ok (G := G) (k := 0) (N := N_l_words) fx.F_l_words sc_l_words rfl fun X cdv A outer s H E hX hr gu => ?_
  subst hX
  have ND := sc_l_words.nd
  have hu1 := room1 hr
  have hu64 := room64 hr
  have hu65 := room65 hr
  exact (ss_cons (ds_set (i := 1) ND rfl (by first | exact Or.inl rfl | exact Or.inr rfl) (pd_lst (pf_cons (pd_isE (nx.iso "BadProgram" (by decide +kernel)) rfl fx.b_isinstance rfl nx.g_BadProgram (pd_br (i := 0) rfl (by first | exact Or.inl rfl | exact Or.inr (Or.inl rfl) | exact Or.inr (Or.inr rfl)))) (pf_cons (pd_isE (nx.iso "BadSizes" (by decide +kernel)) rfl fx.b_isinstance rfl nx.g_BadSizes (pd_br (i := 0) rfl (by first | exact Or.inl rfl | exact Or.inr (Or.inl rfl) | exact Or.inr (Or.inr rfl)))) (pf_cons (pd_isE (nx.iso "BadGiven" (by decide +kernel)) rfl fx.b_isinstance rfl nx.g_BadGiven (pd_br (i := 0) rfl (by first | exact Or.inl rfl | exact Or.inr (Or.inl rfl) | exact Or.inr (Or.inr rfl)))) (pf_cons (pd_isE (nx.iso "BadTurn" (by decide +kernel)) rfl fx.b_isinstance rfl nx.g_BadTurn (pd_br (i := 0) rfl (by first | exact Or.inl rfl | exact Or.inr (Or.inl rfl) | exact Or.inr (Or.inr rfl)))) pf_nil)))))) (ss_cons (ds_set (i := 1) ND rfl (by first | exact Or.inl rfl | exact Or.inr rfl) (pd_op op_addD (od_add rfl) (pd_br (i := 1) rfl (by first | exact Or.inl rfl | exact Or.inr (Or.inl rfl) | exact Or.inr (Or.inr rfl))) (pd_lst (pf_cons (pd_isE (nx.iso "BadPlan" (by decide +kernel)) rfl fx.b_isinstance rfl nx.g_BadPlan (pd_br (i := 0) rfl (by first | exact Or.inl rfl | exact Or.inr (Or.inl rfl) | exact Or.inr (Or.inr rfl)))) (pf_cons (pd_isE (nx.iso "BadKernel" (by decide +kernel)) rfl fx.b_isinstance rfl nx.g_BadKernel (pd_br (i := 0) rfl (by first | exact Or.inl rfl | exact Or.inr (Or.inl rfl) | exact Or.inr (Or.inr rfl)))) (pf_cons (pd_isE (nx.iso "BadPaper" (by decide +kernel)) rfl fx.b_isinstance rfl nx.g_BadPaper (pd_br (i := 0) rfl (by first | exact Or.inl rfl | exact Or.inr (Or.inl rfl) | exact Or.inr (Or.inr rfl)))) (pf_cons (pd_isE (nx.iso "BadLine" (by decide +kernel)) rfl fx.b_isinstance rfl nx.g_BadLine (pd_br (i := 0) rfl (by first | exact Or.inl rfl | exact Or.inr (Or.inl rfl) | exact Or.inr (Or.inr rfl)))) pf_nil))))))) (ss_cons (ds_set (i := 1) ND rfl (by first | exact Or.inl rfl | exact Or.inr rfl) (pd_op op_addD (od_add rfl) (pd_br (i := 1) rfl (by first | exact Or.inl rfl | exact Or.inr (Or.inl rfl) | exact Or.inr (Or.inr rfl))) (pd_lst (pf_cons (pd_isE (nx.iso "BadSchedule" (by decide +kernel)) rfl fx.b_isinstance rfl nx.g_BadSchedule (pd_br (i := 0) rfl (by first | exact Or.inl rfl | exact Or.inr (Or.inl rfl) | exact Or.inr (Or.inr rfl)))) (pf_cons (pd_isE (nx.iso "NoSuch" (by decide +kernel)) rfl fx.b_isinstance rfl nx.g_NoSuch (pd_br (i := 0) rfl (by first | exact Or.inl rfl | exact Or.inr (Or.inl rfl) | exact Or.inr (Or.inr rfl)))) (pf_cons (pd_isE (nx.iso "Gone" (by decide +kernel)) rfl fx.b_isinstance rfl nx.g_Gone (pd_br (i := 0) rfl (by first | exact Or.inl rfl | exact Or.inr (Or.inl rfl) | exact Or.inr (Or.inr rfl)))) (pf_cons (pd_isE (nx.iso "Unsafe" (by decide +kernel)) rfl fx.b_isinstance rfl nx.g_Unsafe (pd_br (i := 0) rfl (by first | exact Or.inl rfl | exact Or.inr (Or.inl rfl) | exact Or.inr (Or.inr rfl)))) pf_nil))))))) (ss_cons (ds_set (i := 1) ND rfl (by first | exact Or.inl rfl | exact Or.inr rfl) (pd_op op_addD (od_add rfl) (pd_br (i := 1) rfl (by first | exact Or.inl rfl | exact Or.inr (Or.inl rfl) | exact Or.inr (Or.inr rfl))) (pd_lst (pf_cons (pd_isE (nx.iso "Unfit" (by decide +kernel)) rfl fx.b_isinstance rfl nx.g_Unfit (pd_br (i := 0) rfl (by first | exact Or.inl rfl | exact Or.inr (Or.inl rfl) | exact Or.inr (Or.inr rfl)))) (pf_cons (pd_isE (nx.iso "Full" (by decide +kernel)) rfl fx.b_isinstance rfl nx.g_Full (pd_br (i := 0) rfl (by first | exact Or.inl rfl | exact Or.inr (Or.inl rfl) | exact Or.inr (Or.inr rfl)))) (pf_cons (pd_isE (nx.iso "BadKind" (by decide +kernel)) rfl fx.b_isinstance rfl nx.g_BadKind (pd_br (i := 0) rfl (by first | exact Or.inl rfl | exact Or.inr (Or.inl rfl) | exact Or.inr (Or.inr rfl)))) (pf_cons (pd_isE (nx.iso "BadNumber" (by decide +kernel)) rfl fx.b_isinstance rfl nx.g_BadNumber (pd_br (i := 0) rfl (by first | exact Or.inl rfl | exact Or.inr (Or.inl rfl) | exact Or.inr (Or.inr rfl)))) pf_nil))))))) (ss_cons (ds_set (i := 2) ND rfl (by first | exact Or.inl rfl | exact Or.inr rfl) (pd_lst (pf_cons (pd_str) (pf_cons (pd_str) (pf_cons (pd_str) (pf_cons (pd_str) (pf_cons (pd_str) (pf_cons (pd_str) (pf_cons (pd_str) (pf_cons (pd_str) (pf_cons (pd_str) (pf_cons (pd_str) (pf_cons (pd_str) pf_nil))))))))))))) (ss_cons (ds_set (i := 2) ND rfl (by first | exact Or.inl rfl | exact Or.inr rfl) (pd_op op_addD (od_add rfl) (pd_br (i := 2) rfl (by first | exact Or.inl rfl | exact Or.inr (Or.inl rfl) | exact Or.inr (Or.inr rfl))) (pd_lst (pf_cons (pd_str) (pf_cons (pd_str) (pf_cons (pd_str) (pf_cons (pd_str) (pf_cons (pd_str) pf_nil)))))))) (ss_one (ds_ret (pd_comp rfl ND (it_zipL rfl rfl fx.b_zip (pf_cons (pd_var (i := 2) rfl (by first | exact Or.inl rfl | exact Or.inr (Or.inl rfl) | exact Or.inr (Or.inr rfl))) (pf_cons (pd_var (i := 1) rfl (by first | exact Or.inl rfl | exact Or.inr (Or.inl rfl) | exact Or.inr (Or.inr rfl))) pf_nil))) (own := [("_law_word", 3), ("_law_good", 4)]) (show BlkOk N_l_words (defScope st_l_words) _ _ from ⟨rfl, by decide +kernel, by decide +kernel, by decide +kernel, by decide +kernel⟩) (fun _ _ _ _ _ => (gd_tup (n := 2) rfl rfl (gds_cons (gd_name (i := 3) (by decide) ND rfl (by first | exact Or.inl rfl | exact Or.inr rfl)) (gds_cons (gd_name (i := 4) (by decide) ND rfl (by first | exact Or.inl rfl | exact Or.inr rfl)) gds_nil)) (by (repeat (first | exact tl_nil | refine tl_cons ?_))))) (fun _ _ _ _ _ => (ts_one (td_val (pd_br (i := 4) rfl (by first | exact Or.inl rfl | exact Or.inr (Or.inl rfl) | exact Or.inr (Or.inr rfl)))))) (fun _ _ _ _ _ => (pd_var (i := 3) rfl (by first | exact Or.inl rfl | exact Or.inr (Or.inl rfl) | exact Or.inr (Or.inr rfl)))))))))))))
theorem sc_l_kinds : FnScope N_l_kinds ["_law_e"] (defScope st_l_kinds) := ⟨rfl, rfl, rfl, by decide +kernel, rfl, by decide +kernel, by decide +kernel⟩
theorem ok_l_kinds {Sg : Type} {G : Gd Sg} (fx : Fx G.K mg) (nx : Nx G.K mg G.cl) : FnG P w G.K mg base 1 fx.f_l_kinds fx.fd_l_kinds ["_law_e"] (spF G 1 m_l_kinds) := by
  refine fn_ok (G := G) (k := 0) (N := N_l_kinds) fx.F_l_kinds sc_l_kinds rfl fun X cdv A outer s H E hX hr gu => ?_
  subst hX
  have ND := sc_l_kinds.nd
  have hu1 := room1 hr
  have hu64 := room64 hr
  have hu65 := room65 hr
  exact (ss_cons (ds_set (i := 1) ND rfl (by first | exact Or.inl rfl | exact Or.inr rfl) (pd_lst (pf_cons (pd_isE (nx.iso "LaneError" (by decide +kernel)) rfl fx.b_isinstance rfl nx.g_LaneError (pd_br (i := 0) rfl (by first | exact Or.inl rfl | exact Or.inr (Or.inl rfl) | exact Or.inr (Or.inr rfl)))) (pf_cons (pd_isE (nx.iso "Lack" (by decide +kernel)) rfl fx.b_isinstance rfl nx.g_Lack (pd_br (i := 0) rfl (by first | exact Or.inl rfl | exact Or.inr (Or.inl rfl) | exact Or.inr (Or.inr rfl)))) (pf_cons (pd_isE (nx.iso "Cant" (by decide +kernel)) rfl fx.b_isinstance rfl nx.g_Cant (pd_br (i := 0) rfl (by first | exact Or.inl rfl | exact Or.inr (Or.inl rfl) | exact Or.inr (Or.inr rfl)))) (pf_cons (pd_isEB (nx.isb ("TypeError", "TypeError") (by decide +kernel)) rfl fx.b_isinstance rfl fx.b_TypeError (show bootBuiltins "TypeError" = some (.type "TypeError") by decide +kernel) (pd_br (i := 0) rfl (by first | exact Or.inl rfl | exact Or.inr (Or.inl rfl) | exact Or.inr (Or.inr rfl)))) pf_nil)))))) (ss_cons (ds_set (i := 1) ND rfl (by first | exact Or.inl rfl | exact Or.inr rfl) (pd_op op_addD (od_add rfl) (pd_br (i := 1) rfl (by first | exact Or.inl rfl | exact Or.inr (Or.inl rfl) | exact Or.inr (Or.inr rfl))) (pd_lst (pf_cons (pd_isEB (nx.isb ("ValueError", "ValueError") (by decide +kernel)) rfl fx.b_isinstance rfl fx.b_ValueError (show bootBuiltins "ValueError" = some (.type "ValueError") by decide +kernel) (pd_br (i := 0) rfl (by first | exact Or.inl rfl | exact Or.inr (Or.inl rfl) | exact Or.inr (Or.inr rfl)))) (pf_cons (pd_isEB (nx.isb ("LookupError", "LookupError") (by decide +kernel)) rfl fx.b_isinstance rfl fx.b_LookupError (show bootBuiltins "LookupError" = some (.type "LookupError") by decide +kernel) (pd_br (i := 0) rfl (by first | exact Or.inl rfl | exact Or.inr (Or.inl rfl) | exact Or.inr (Or.inr rfl)))) (pf_cons (pd_isEB (nx.isb ("IndexError", "IndexError") (by decide +kernel)) rfl fx.b_isinstance rfl fx.b_IndexError (show bootBuiltins "IndexError" = some (.type "IndexError") by decide +kernel) (pd_br (i := 0) rfl (by first | exact Or.inl rfl | exact Or.inr (Or.inl rfl) | exact Or.inr (Or.inr rfl)))) pf_nil)))))) (ss_cons (ds_set (i := 1) ND rfl (by first | exact Or.inl rfl | exact Or.inr rfl) (pd_op op_addD (od_add rfl) (pd_br (i := 1) rfl (by first | exact Or.inl rfl | exact Or.inr (Or.inl rfl) | exact Or.inr (Or.inr rfl))) (pd_lst (pf_cons (pd_isEB (nx.isb ("KeyError", "KeyError") (by decide +kernel)) rfl fx.b_isinstance rfl fx.b_KeyError (show bootBuiltins "KeyError" = some (.type "KeyError") by decide +kernel) (pd_br (i := 0) rfl (by first | exact Or.inl rfl | exact Or.inr (Or.inl rfl) | exact Or.inr (Or.inr rfl)))) (pf_cons (pd_isEB (nx.isb ("RuntimeError", "RuntimeError") (by decide +kernel)) rfl fx.b_isinstance rfl fx.b_RuntimeError (show bootBuiltins "RuntimeError" = some (.type "RuntimeError") by decide +kernel) (pd_br (i := 0) rfl (by first | exact Or.inl rfl | exact Or.inr (Or.inl rfl) | exact Or.inr (Or.inr rfl)))) (pf_cons (pd_isEB (nx.isb ("ArithmeticError", "ArithmeticError") (by decide +kernel)) rfl fx.b_isinstance rfl fx.b_ArithmeticError (show bootBuiltins "ArithmeticError" = some (.type "ArithmeticError") by decide +kernel) (pd_br (i := 0) rfl (by first | exact Or.inl rfl | exact Or.inr (Or.inl rfl) | exact Or.inr (Or.inr rfl)))) pf_nil)))))) (ss_cons (ds_set (i := 1) ND rfl (by first | exact Or.inl rfl | exact Or.inr rfl) (pd_op op_addD (od_add rfl) (pd_br (i := 1) rfl (by first | exact Or.inl rfl | exact Or.inr (Or.inl rfl) | exact Or.inr (Or.inr rfl))) (pd_lst (pf_cons (pd_isEB (nx.isb ("OverflowError", "OverflowError") (by decide +kernel)) rfl fx.b_isinstance rfl fx.b_OverflowError (show bootBuiltins "OverflowError" = some (.type "OverflowError") by decide +kernel) (pd_br (i := 0) rfl (by first | exact Or.inl rfl | exact Or.inr (Or.inl rfl) | exact Or.inr (Or.inr rfl)))) (pf_cons (pd_isEB (nx.isb ("ZeroDivisionError", "ZeroDivisionError") (by decide +kernel)) rfl fx.b_isinstance rfl fx.b_ZeroDivisionError (show bootBuiltins "ZeroDivisionError" = some (.type "ZeroDivisionError") by decide +kernel) (pd_br (i := 0) rfl (by first | exact Or.inl rfl | exact Or.inr (Or.inl rfl) | exact Or.inr (Or.inr rfl)))) pf_nil))))) (ss_cons (ds_set (i := 2) ND rfl (by first | exact Or.inl rfl | exact Or.inr rfl) (pd_lst (pf_cons (pd_str) (pf_cons (pd_str) (pf_cons (pd_str) (pf_cons (pd_str) (pf_cons (pd_str) (pf_cons (pd_str) (pf_cons (pd_str) (pf_cons (pd_str) (pf_cons (pd_str) (pf_cons (pd_str) (pf_cons (pd_str) (pf_cons (pd_str) pf_nil)))))))))))))) (ss_one (ds_ret (pd_comp rfl ND (it_zipL rfl rfl fx.b_zip (pf_cons (pd_var (i := 2) rfl (by first | exact Or.inl rfl | exact Or.inr (Or.inl rfl) | exact Or.inr (Or.inr rfl))) (pf_cons (pd_var (i := 1) rfl (by first | exact Or.inl rfl | exact Or.inr (Or.inl rfl) | exact Or.inr (Or.inr rfl))) pf_nil))) (own := [("_law_word", 3), ("_law_good", 4)]) (show BlkOk N_l_kinds (defScope st_l_kinds) _ _ from ⟨rfl, by decide +kernel, by decide +kernel, by decide +kernel, by decide +kernel⟩) (fun _ _ _ _ _ => (gd_tup (n := 2) rfl rfl (gds_cons (gd_name (i := 3) (by decide) ND rfl (by first | exact Or.inl rfl | exact Or.inr rfl)) (gds_cons (gd_name (i := 4) (by decide) ND rfl (by first | exact Or.inl rfl | exact Or.inr rfl)) gds_nil)) (by (repeat (first | exact tl_nil | refine tl_cons ?_))))) (fun _ _ _ _ _ => (ts_one (td_val (pd_br (i := 4) rfl (by first | exact Or.inl rfl | exact Or.inr (Or.inl rfl) | exact Or.inr (Or.inr rfl)))))) (fun _ _ _ _ _ => (pd_var (i := 3) rfl (by first | exact Or.inl rfl | exact Or.inr (Or.inl rfl) | exact Or.inr (Or.inr rfl))))))))))))
theorem sc_l_fields : FnScope N_l_fields ["_law_built"] (defScope st_l_fields) := ⟨rfl, rfl, rfl, by decide +kernel, rfl, by decide +kernel, by decide +kernel⟩
theorem ok_l_fields {Sg : Type} {G : Gd Sg} (fx : Fx G.K mg) (nx : Nx G.K mg G.cl) : FnG P w G.K mg base 1 fx.f_l_fields fx.fd_l_fields ["_law_built"] (spF G 1 m_l_fields) := by
  refine fn_ok (G := G) (k := 0) (N := N_l_fields) fx.F_l_fields sc_l_fields rfl fun X cdv A outer s H E hX hr gu => ?_
  subst hX
  have ND := sc_l_fields.nd
  have hu1 := room1 hr
  have hu64 := room64 hr
  have hu65 := room65 hr
  exact (ss_cons (ds_set (i := 1) ND rfl (by first | exact Or.inl rfl | exact Or.inr rfl) (pd_lst (pf_cons (pd_fld (okF := okF) nx.fld (pd_ix rfl (pd_br (i := 0) rfl (by first | exact Or.inl rfl | exact Or.inr (Or.inl rfl) | exact Or.inr (Or.inr rfl))) (pd_int) (fun _ _ => rfl))) (pf_cons (pd_fld (okF := okF) nx.fld (pd_ix rfl (pd_br (i := 0) rfl (by first | exact Or.inl rfl | exact Or.inr (Or.inl rfl) | exact Or.inr (Or.inr rfl))) (pd_int) (fun _ _ => rfl))) (pf_cons (pd_fld (okF := okF) nx.fld (pd_ix rfl (pd_br (i := 0) rfl (by first | exact Or.inl rfl | exact Or.inr (Or.inl rfl) | exact Or.inr (Or.inr rfl))) (pd_int) (fun _ _ => rfl))) (pf_cons (pd_fld (okF := okF) nx.fld (pd_ix rfl (pd_br (i := 0) rfl (by first | exact Or.inl rfl | exact Or.inr (Or.inl rfl) | exact Or.inr (Or.inr rfl))) (pd_int) (fun _ _ => rfl))) (pf_cons (pd_fld (okF := okF) nx.fld (pd_ix rfl (pd_br (i := 0) rfl (by first | exact Or.inl rfl | exact Or.inr (Or.inl rfl) | exact Or.inr (Or.inr rfl))) (pd_int) (fun _ _ => rfl))) (pf_cons (pd_fld (okF := okF) nx.fld (pd_ix rfl (pd_br (i := 0) rfl (by first | exact Or.inl rfl | exact Or.inr (Or.inl rfl) | exact Or.inr (Or.inr rfl))) (pd_int) (fun _ _ => rfl))) pf_nil)))))))) (ss_cons (ds_set (i := 1) ND rfl (by first | exact Or.inl rfl | exact Or.inr rfl) (pd_op op_addD (od_add rfl) (pd_br (i := 1) rfl (by first | exact Or.inl rfl | exact Or.inr (Or.inl rfl) | exact Or.inr (Or.inr rfl))) (pd_lst (pf_cons (pd_fld (okF := okF) nx.fld (pd_ix rfl (pd_br (i := 0) rfl (by first | exact Or.inl rfl | exact Or.inr (Or.inl rfl) | exact Or.inr (Or.inr rfl))) (pd_int) (fun _ _ => rfl))) (pf_cons (pd_fld (okF := okF) nx.fld (pd_ix rfl (pd_br (i := 0) rfl (by first | exact Or.inl rfl | exact Or.inr (Or.inl rfl) | exact Or.inr (Or.inr rfl))) (pd_int) (fun _ _ => rfl))) (pf_cons (pd_fld (okF := okF) nx.fld (pd_ix rfl (pd_br (i := 0) rfl (by first | exact Or.inl rfl | exact Or.inr (Or.inl rfl) | exact Or.inr (Or.inr rfl))) (pd_int) (fun _ _ => rfl))) (pf_cons (pd_fld (okF := okF) nx.fld (pd_ix rfl (pd_br (i := 0) rfl (by first | exact Or.inl rfl | exact Or.inr (Or.inl rfl) | exact Or.inr (Or.inr rfl))) (pd_int) (fun _ _ => rfl))) (pf_cons (pd_fld (okF := okF) nx.fld (pd_ix rfl (pd_br (i := 0) rfl (by first | exact Or.inl rfl | exact Or.inr (Or.inl rfl) | exact Or.inr (Or.inr rfl))) (pd_int) (fun _ _ => rfl))) (pf_cons (pd_fld (okF := okF) nx.fld (pd_ix rfl (pd_br (i := 0) rfl (by first | exact Or.inl rfl | exact Or.inr (Or.inl rfl) | exact Or.inr (Or.inr rfl))) (pd_int) (fun _ _ => rfl))) pf_nil))))))))) (ss_cons (ds_mexpr (pm_list (i := 1) rfl rfl (by first | exact Or.inl rfl | exact Or.inr (Or.inl rfl) | exact Or.inr (Or.inr rfl)) F.plainAttrs_list F.slot_list_append F.type_list_append mt_append mu_app (pf_cons (pd_fld (okF := okF) nx.fld (pd_ix rfl (pd_br (i := 0) rfl (by first | exact Or.inl rfl | exact Or.inr (Or.inl rfl) | exact Or.inr (Or.inr rfl))) (pd_int) (fun _ _ => rfl))) pf_nil))) (ss_one (ds_ret (pd_op op_addD (od_add rfl) (pd_br (i := 1) rfl (by first | exact Or.inl rfl | exact Or.inr (Or.inl rfl) | exact Or.inr (Or.inr rfl))) (pd_lst (pf_cons (pd_fld (okF := okF) nx.fld (pd_ix rfl (pd_br (i := 0) rfl (by first | exact Or.inl rfl | exact Or.inr (Or.inl rfl) | exact Or.inr (Or.inr rfl))) (pd_int) (fun _ _ => rfl))) (pf_cons (pd_fld (okF := okF) nx.fld (pd_ix rfl (pd_br (i := 0) rfl (by first | exact Or.inl rfl | exact Or.inr (Or.inl rfl) | exact Or.inr (Or.inr rfl))) (pd_int) (fun _ _ => rfl))) (pf_cons (pd_fld (okF := okF) nx.fld (pd_ix rfl (pd_br (i := 0) rfl (by first | exact Or.inl rfl | exact Or.inr (Or.inl rfl) | exact Or.inr (Or.inr rfl))) (pd_int) (fun _ _ => rfl))) pf_nil))))))))))
theorem sc_l_take : FnScope N_l_take ["_law_stream", "_law_many"] (defScope st_l_take) := ⟨rfl, rfl, rfl, by decide +kernel, rfl, by decide +kernel, by decide +kernel⟩
theorem ok_l_take (fx : Fx K mg) : FnG P w K mg base 2 fx.f_l_take fx.fd_l_take ["_law_stream", "_law_many"] (spF (gS K L C hLC) 2 m_l_take) := by
  refine fn_ok (G := gS K L C hLC) (k := 1) (N := N_l_take) fx.F_l_take sc_l_take rfl fun X cdv A outer s H E hX hr gu => ?_
  subst hX
  have ND := sc_l_take.nd
  have hu1 := room1 hr
  have hu64 := room64 hr
  have hu65 := room65 hr
  exact (ss_cons (sg_set (i := 0) (n := 2) rfl (by first | exact Or.inl rfl | exact Or.inr (Or.inl rfl) | exact Or.inr (Or.inr rfl)) rfl (fun _ _ => ⟨rfl, rfl⟩) (pd_op op_addD (od_add rfl) (sg_get (i := 0) rfl (by first | exact Or.inl rfl | exact Or.inr (Or.inl rfl) | exact Or.inr (Or.inr rfl)) (fun _ => rfl) (fun _ _ => rfl)) (pd_int))) (ss_cons (ds_if (PW.pt (td_and (td_cmp op_lt od_cmp (sg_get (i := 0) rfl (by first | exact Or.inl rfl | exact Or.inr (Or.inl rfl) | exact Or.inr (Or.inr rfl)) (fun _ => rfl) (fun _ _ => rfl)) (pd_int) (nomark _)) (td_and1 (sg_ne (i := 0) hu64 rfl (by first | exact Or.inl rfl | exact Or.inr (Or.inl rfl) | exact Or.inr (Or.inr rfl)) (fun _ _ => rfl))))) (ss_cons (ds_set (i := 2) ND rfl (by first | exact Or.inl rfl | exact Or.inr rfl) (sg_pop (i := 0) rfl (by first | exact Or.inl rfl | exact Or.inr (Or.inl rfl) | exact Or.inr (Or.inr rfl)) (fun _ _ => rfl))) (ss_cons (sg_set (i := 0) (n := 1) rfl (by first | exact Or.inl rfl | exact Or.inr (Or.inl rfl) | exact Or.inr (Or.inr rfl)) rfl (fun _ _ => ⟨rfl, rfl⟩) (pd_if (td_cmp op_ge od_cmp (pd_br (i := 2) rfl (by first | exact Or.inl rfl | exact Or.inr (Or.inl rfl) | exact Or.inr (Or.inr rfl))) (pd_op op_pow od_pow (pd_int) (pd_int)) (nomark _)) (pd_br (i := 2) rfl (by first | exact Or.inl rfl | exact Or.inr (Or.inl rfl) | exact Or.inr (Or.inr rfl))) (pd_int))) (ss_one (sg_set (i := 0) (n := 3) rfl (by first | exact Or.inl rfl | exact Or.inr (Or.inl rfl) | exact Or.inr (Or.inr rfl)) rfl (fun _ _ => ⟨rfl, rfl⟩) (pd_call (ks := []) (ok_l_mixed fx) rfl (hr.mono (by decide)) gu rfl fx.g_l_mixed fx.F_l_mixed.kp (Bn.of [0, 1] fx.F_l_mixed (fun _ _ _ _ _ _ us ws h1 h2 => match us, ws, h1, h2 with | [_, _], [], _, _ => ⟨rfl, rfl⟩)) (pf_cons (pd_op op_addD (od_add rfl) (sg_get (i := 0) rfl (by first | exact Or.inl rfl | exact Or.inr (Or.inl rfl) | exact Or.inr (Or.inr rfl)) (fun _ => rfl) (fun _ _ => rfl)) (pd_br (i := 2) rfl (by first | exact Or.inl rfl | exact Or.inr (Or.inl rfl) | exact Or.inr (Or.inr rfl)))) (pf_cons (sg_get (i := 0) rfl (by first | exact Or.inl rfl | exact Or.inr (Or.inl rfl) | exact Or.inr (Or.inr rfl)) (fun _ => rfl) (fun _ _ => rfl)) pf_nil)) kf_nil))))) ss_nil) (ss_cons (ds_if (td_cmp op_gt od_cmp (sg_get (i := 0) rfl (by first | exact Or.inl rfl | exact Or.inr (Or.inl rfl) | exact Or.inr (Or.inr rfl)) (fun _ => rfl) (fun _ _ => rfl)) (pd_int) (nomark _)) (ss_cons (ds_set (i := 3) ND rfl (by first | exact Or.inl rfl | exact Or.inr rfl) (pd_op op_mod od_mod (sg_get (i := 0) rfl (by first | exact Or.inl rfl | exact Or.inr (Or.inl rfl) | exact Or.inr (Or.inr rfl)) (fun _ => rfl) (fun _ _ => rfl)) (pd_br (i := 1) rfl (by first | exact Or.inl rfl | exact Or.inr (Or.inl rfl) | exact Or.inr (Or.inr rfl))))) (ss_cons (sg_set (i := 0) (n := 1) rfl (by first | exact Or.inl rfl | exact Or.inr (Or.inl rfl) | exact Or.inr (Or.inr rfl)) rfl (fun _ _ => ⟨rfl, rfl⟩) (pd_op op_fdiv od_div (sg_get (i := 0) rfl (by first | exact Or.inl rfl | exact Or.inr (Or.inl rfl) | exact Or.inr (Or.inr rfl)) (fun _ => rfl) (fun _ _ => rfl)) (pd_br (i := 1) rfl (by first | exact Or.inl rfl | exact Or.inr (Or.inl rfl) | exact Or.inr (Or.inr rfl))))) (ss_one (ds_ret (pd_mv (i := 3) rfl (by first | exact Or.inl rfl | exact Or.inr (Or.inl rfl) | exact Or.inr (Or.inr rfl))))))) ss_nil) (ss_one (ds_ret (pd_op op_mod od_mod (pd_op op_fdiv od_div (pd_call (ks := []) (ok_l_mixed fx) rfl (hr.mono (by decide)) gu rfl fx.g_l_mixed fx.F_l_mixed.kp (Bn.of [0, 1] fx.F_l_mixed (fun _ _ _ _ _ _ us ws h1 h2 => match us, ws, h1, h2 with | [_, _], [], _, _ => ⟨rfl, rfl⟩)) (pf_cons (pd_op op_addD (od_add rfl) (sg_get (i := 0) rfl (by first | exact Or.inl rfl | exact Or.inr (Or.inl rfl) | exact Or.inr (Or.inr rfl)) (fun _ => rfl) (fun _ _ => rfl)) (pd_op op_mulX (od_mulX rfl) (pd_int) (sg_get (i := 0) rfl (by first | exact Or.inl rfl | exact Or.inr (Or.inl rfl) | exact Or.inr (Or.inr rfl)) (fun _ => rfl) (fun _ _ => rfl)))) (pf_cons (sg_get (i := 0) rfl (by first | exact Or.inl rfl | exact Or.inr (Or.inl rfl) | exact Or.inr (Or.inr rfl)) (fun _ => rfl) (fun _ _ => rfl)) pf_nil)) kf_nil) (pd_int)) (pd_br (i := 1) rfl (by first | exact Or.inl rfl | exact Or.inr (Or.inl rfl) | exact Or.inr (Or.inr rfl)))))))))
theorem sc_l_of : FnScope N_l_of ["_law_stream", "_law_some"] (defScope st_l_of) := ⟨rfl, rfl, rfl, by decide +kernel, rfl, by decide +kernel, by decide +kernel⟩
theorem ok_l_of (fx : Fx K mg) : FnG P w K mg base 3 fx.f_l_of fx.fd_l_of ["_law_stream", "_law_some"] (spF (gS K L C hLC) 2 m_l_of) := by
  refine fn_ok (G := gS K L C hLC) (k := 2) (N := N_l_of) fx.F_l_of sc_l_of rfl fun X cdv A outer s H E hX hr gu => ?_
  subst hX
  have ND := sc_l_of.nd
  have hu1 := room1 hr
  have hu64 := room64 hr
  have hu65 := room65 hr
  exact (ss_one (ds_ret (pd_ix rfl (pd_br (i := 1) rfl (by first | exact Or.inl rfl | exact Or.inr (Or.inl rfl) | exact Or.inr (Or.inr rfl))) (pd_call (ks := []) (ok_l_take fx) rfl (hr.mono (by decide)) gu rfl fx.g_l_take fx.F_l_take.kp (Bn.of [0, 1] fx.F_l_take (fun _ _ _ _ _ _ us ws h1 h2 => match us, ws, h1, h2 with | [_, _], [], _, _ => ⟨rfl, rfl⟩)) (pf_cons (pd_var (i := 0) rfl (by first | exact Or.inl rfl | exact Or.inr (Or.inl rfl) | exact Or.inr (Or.inr rfl))) (pf_cons (pd_callB call_len (od_len rfl) rfl fx.b_len boot_len (pb_cons (pd_br (i := 1) rfl (by first | exact Or.inl rfl | exact Or.inr (Or.inl rfl) | exact Or.inr (Or.inr rfl))) pb_nil)) pf_nil)) kf_nil) (fun _ _ => rfl))))
theorem sc_l_lines : FnScope N_l_lines ["_law_first", "_law_second"] (defScope st_l_lines) := ⟨rfl, rfl, rfl, by decide +kernel, rfl, by decide +kernel, by decide +kernel⟩
theorem ok_l_lines {Sg : Type} {G : Gd Sg} (fx : Fx G.K mg) (nx : Nx G.K mg G.cl) : FnG P w G.K mg base 3 fx.f_l_lines fx.fd_l_lines ["_law_first", "_law_second"] (spF G 2 m_l_lines) := by
  refine fn_ok (G := G) (k := 2) (N := N_l_lines) fx.F_l_lines sc_l_lines rfl fun X cdv A outer s H E hX hr gu => ?_
  subst hX
  have ND := sc_l_lines.nd
  have hu1 := room1 hr
  have hu64 := room64 hr
  have hu65 := room65 hr
  exact (ss_cons (ds_par3 (i := 2) (j := 3) (l := 4) rfl ND rfl rfl rfl (by decide) (by decide) (by decide) rfl rfl rfl (pf_cons (pd_lst (pf_cons (pd_str) (pf_cons (pd_str) pf_nil))) (pf_cons (pd_lst (pf_cons (pd_str) (pf_cons (pd_str) pf_nil))) (pf_cons (pd_lst (pf_cons (pd_str) (pf_cons (pd_str) pf_nil))) pf_nil)))) (ss_cons (ds_set (i := 5) ND rfl (by first | exact Or.inl rfl | exact Or.inr rfl) (pd_lst (pf_cons (pd_tupX (pf_cons (pd_mk1 (c := "BadProgram") base_VE nx.cls_BadProgram nx.init_BadProgram nx.ity_BadProgram (ok_init_BadProgram nx) (hr.mono (by decide)) (bnd_BadProgram nx) rfl nx.g_BadProgram (pf_cons (pd_var (i := 0) rfl (by first | exact Or.inl rfl | exact Or.inr (Or.inl rfl) | exact Or.inr (Or.inr rfl))) pf_nil)) (pf_cons (pd_str) (pf_cons (pd_var (i := 2) rfl (by first | exact Or.inl rfl | exact Or.inr (Or.inl rfl) | exact Or.inr (Or.inr rfl))) pf_nil)))) (pf_cons (pd_tupX (pf_cons (pd_mk1 (c := "BadSizes") base_VE nx.cls_BadSizes nx.init_BadSizes nx.ity_BadSizes (ok_init_BadSizes nx) (hr.mono (by decide)) (bnd_BadSizes nx) rfl nx.g_BadSizes (pf_cons (pd_var (i := 0) rfl (by first | exact Or.inl rfl | exact Or.inr (Or.inl rfl) | exact Or.inr (Or.inr rfl))) pf_nil)) (pf_cons (pd_str) (pf_cons (pd_var (i := 2) rfl (by first | exact Or.inl rfl | exact Or.inr (Or.inl rfl) | exact Or.inr (Or.inr rfl))) pf_nil)))) (pf_cons (pd_tupX (pf_cons (pd_mk1 (c := "BadGiven") base_VE nx.cls_BadGiven nx.init_BadGiven nx.ity_BadGiven (ok_init_BadGiven nx) (hr.mono (by decide)) (bnd_BadGiven nx) rfl nx.g_BadGiven (pf_cons (pd_var (i := 0) rfl (by first | exact Or.inl rfl | exact Or.inr (Or.inl rfl) | exact Or.inr (Or.inr rfl))) pf_nil)) (pf_cons (pd_str) (pf_cons (pd_var (i := 2) rfl (by first | exact Or.inl rfl | exact Or.inr (Or.inl rfl) | exact Or.inr (Or.inr rfl))) pf_nil)))) pf_nil))))) (ss_cons (ds_set (i := 5) ND rfl (by first | exact Or.inl rfl | exact Or.inr rfl) (pd_op op_addD (od_add rfl) (pd_br (i := 5) rfl (by first | exact Or.inl rfl | exact Or.inr (Or.inl rfl) | exact Or.inr (Or.inr rfl))) (pd_lst (pf_cons (pd_tupX (pf_cons (pd_mk1 (c := "BadTurn") base_VE nx.cls_BadTurn nx.init_BadTurn nx.ity_BadTurn (ok_init_BadTurn nx) (hr.mono (by decide)) (bnd_BadTurn nx) rfl nx.g_BadTurn (pf_cons (pd_var (i := 0) rfl (by first | exact Or.inl rfl | exact Or.inr (Or.inl rfl) | exact Or.inr (Or.inr rfl))) pf_nil)) (pf_cons (pd_str) (pf_cons (pd_var (i := 2) rfl (by first | exact Or.inl rfl | exact Or.inr (Or.inl rfl) | exact Or.inr (Or.inr rfl))) pf_nil)))) (pf_cons (pd_tupX (pf_cons (pd_mk1 (c := "BadPlan") base_VE nx.cls_BadPlan nx.init_BadPlan nx.ity_BadPlan (ok_init_BadPlan nx) (hr.mono (by decide)) (bnd_BadPlan nx) rfl nx.g_BadPlan (pf_cons (pd_var (i := 0) rfl (by first | exact Or.inl rfl | exact Or.inr (Or.inl rfl) | exact Or.inr (Or.inr rfl))) pf_nil)) (pf_cons (pd_str) (pf_cons (pd_var (i := 2) rfl (by first | exact Or.inl rfl | exact Or.inr (Or.inl rfl) | exact Or.inr (Or.inr rfl))) pf_nil)))) (pf_cons (pd_tupX (pf_cons (pd_mk1 (c := "BadKernel") base_VE nx.cls_BadKernel nx.init_BadKernel nx.ity_BadKernel (ok_init_BadKernel nx) (hr.mono (by decide)) (bnd_BadKernel nx) rfl nx.g_BadKernel (pf_cons (pd_var (i := 0) rfl (by first | exact Or.inl rfl | exact Or.inr (Or.inl rfl) | exact Or.inr (Or.inr rfl))) pf_nil)) (pf_cons (pd_str) (pf_cons (pd_var (i := 2) rfl (by first | exact Or.inl rfl | exact Or.inr (Or.inl rfl) | exact Or.inr (Or.inr rfl))) pf_nil)))) pf_nil)))))) (ss_cons (ds_set (i := 5) ND rfl (by first | exact Or.inl rfl | exact Or.inr rfl) (pd_op op_addD (od_add rfl) (pd_br (i := 5) rfl (by first | exact Or.inl rfl | exact Or.inr (Or.inl rfl) | exact Or.inr (Or.inr rfl))) (pd_lst (pf_cons (pd_tupX (pf_cons (pd_mk1 (c := "BadPaper") base_VE nx.cls_BadPaper nx.init_BadPaper nx.ity_BadPaper (ok_init_BadPaper nx) (hr.mono (by decide)) (bnd_BadPaper nx) rfl nx.g_BadPaper (pf_cons (pd_var (i := 0) rfl (by first | exact Or.inl rfl | exact Or.inr (Or.inl rfl) | exact Or.inr (Or.inr rfl))) pf_nil)) (pf_cons (pd_str) (pf_cons (pd_var (i := 2) rfl (by first | exact Or.inl rfl | exact Or.inr (Or.inl rfl) | exact Or.inr (Or.inr rfl))) pf_nil)))) (pf_cons (pd_tupX (pf_cons (pd_mk2 (c := "BadLine") base_VE nx.cls_BadLine nx.init_BadLine nx.ity_BadLine (ok_init_BadLine nx) (hr.mono (by decide)) (bnd_BadLine nx) rfl nx.g_BadLine (pf_cons (pd_var (i := 0) rfl (by first | exact Or.inl rfl | exact Or.inr (Or.inl rfl) | exact Or.inr (Or.inr rfl))) (pf_cons (pd_var (i := 1) rfl (by first | exact Or.inl rfl | exact Or.inr (Or.inl rfl) | exact Or.inr (Or.inr rfl))) pf_nil))) (pf_cons (pd_str) (pf_cons (pd_var (i := 2) rfl (by first | exact Or.inl rfl | exact Or.inr (Or.inl rfl) | exact Or.inr (Or.inr rfl))) pf_nil)))) pf_nil))))) (ss_cons (ds_set (i := 5) ND rfl (by first | exact Or.inl rfl | exact Or.inr rfl) (pd_op op_addD (od_add rfl) (pd_br (i := 5) rfl (by first | exact Or.inl rfl | exact Or.inr (Or.inl rfl) | exact Or.inr (Or.inr rfl))) (pd_lst (pf_cons (pd_tupX (pf_cons (pd_mk1 (c := "BadSchedule") base_VE nx.cls_BadSchedule nx.init_BadSchedule nx.ity_BadSchedule (ok_init_BadSchedule nx) (hr.mono (by decide)) (bnd_BadSchedule nx) rfl nx.g_BadSchedule (pf_cons (pd_var (i := 0) rfl (by first | exact Or.inl rfl | exact Or.inr (Or.inl rfl) | exact Or.inr (Or.inr rfl))) pf_nil)) (pf_cons (pd_str) (pf_cons (pd_var (i := 2) rfl (by first | exact Or.inl rfl | exact Or.inr (Or.inl rfl) | exact Or.inr (Or.inr rfl))) pf_nil)))) (pf_cons (pd_tupX (pf_cons (pd_mk1 (c := "NoSuch") base_LE nx.cls_NoSuch nx.init_NoSuch nx.ity_NoSuch (ok_init_NoSuch nx) (hr.mono (by decide)) (bnd_NoSuch nx) rfl nx.g_NoSuch (pf_cons (pd_var (i := 0) rfl (by first | exact Or.inl rfl | exact Or.inr (Or.inl rfl) | exact Or.inr (Or.inr rfl))) pf_nil)) (pf_cons (pd_str) (pf_cons (pd_var (i := 3) rfl (by first | exact Or.inl rfl | exact Or.inr (Or.inl rfl) | exact Or.inr (Or.inr rfl))) pf_nil)))) (pf_cons (pd_tupX (pf_cons (pd_mk0 (c := "Gone") PySem.F.excBase_LookupError nx.ex_Gone nx.g_Gone nx.ke_Gone rfl) (pf_cons (pd_str) (pf_cons (pd_var (i := 3) rfl (by first | exact Or.inl rfl | exact Or.inr (Or.inl rfl) | exact Or.inr (Or.inr rfl))) pf_nil)))) pf_nil)))))) (ss_cons (ds_set (i := 5) ND rfl (by first | exact Or.inl rfl | exact Or.inr rfl) (pd_op op_addD (od_add rfl) (pd_br (i := 5) rfl (by first | exact Or.inl rfl | exact Or.inr (Or.inl rfl) | exact Or.inr (Or.inr rfl))) (pd_lst (pf_cons (pd_tupX (pf_cons (pd_mk1 (c := "Unsafe") base_RE nx.cls_Unsafe nx.init_Unsafe nx.ity_Unsafe (ok_init_Unsafe nx) (hr.mono (by decide)) (bnd_Unsafe nx) rfl nx.g_Unsafe (pf_cons (pd_var (i := 0) rfl (by first | exact Or.inl rfl | exact Or.inr (Or.inl rfl) | exact Or.inr (Or.inr rfl))) pf_nil)) (pf_cons (pd_str) (pf_cons (pd_var (i := 4) rfl (by first | exact Or.inl rfl | exact Or.inr (Or.inl rfl) | exact Or.inr (Or.inr rfl))) pf_nil)))) (pf_cons (pd_tupX (pf_cons (pd_mk1 (c := "Unfit") base_RE nx.cls_Unfit nx.init_Unfit nx.ity_Unfit (ok_init_Unfit nx) (hr.mono (by decide)) (bnd_Unfit nx) rfl nx.g_Unfit (pf_cons (pd_var (i := 0) rfl (by first | exact Or.inl rfl | exact Or.inr (Or.inl rfl) | exact Or.inr (Or.inr rfl))) pf_nil)) (pf_cons (pd_str) (pf_cons (pd_var (i := 4) rfl (by first | exact Or.inl rfl | exact Or.inr (Or.inl rfl) | exact Or.inr (Or.inr rfl))) pf_nil)))) (pf_cons (pd_tupX (pf_cons (pd_mk1 (c := "Full") base_RE nx.cls_Full nx.init_Full nx.ity_Full (ok_init_Full nx) (hr.mono (by decide)) (bnd_Full nx) rfl nx.g_Full (pf_cons (pd_var (i := 0) rfl (by first | exact Or.inl rfl | exact Or.inr (Or.inl rfl) | exact Or.inr (Or.inr rfl))) pf_nil)) (pf_cons (pd_str) (pf_cons (pd_var (i := 4) rfl (by first | exact Or.inl rfl | exact Or.inr (Or.inl rfl) | exact Or.inr (Or.inr rfl))) pf_nil)))) pf_nil)))))) (ss_one (ds_ret (pd_op op_addD (od_add rfl) (pd_br (i := 5) rfl (by first | exact Or.inl rfl | exact Or.inr (Or.inl rfl) | exact Or.inr (Or.inr rfl))) (pd_lst (pf_cons (pd_tupX (pf_cons (pd_mk1 (c := "BadKind") base_TE nx.cls_BadKind nx.init_BadKind nx.ity_BadKind (ok_init_BadKind nx) (hr.mono (by decide)) (bnd_BadKind nx) rfl nx.g_BadKind (pf_cons (pd_var (i := 0) rfl (by first | exact Or.inl rfl | exact Or.inr (Or.inl rfl) | exact Or.inr (Or.inr rfl))) pf_nil)) (pf_cons (pd_str) (pf_cons (pd_lst (pf_cons (pd_str) pf_nil)) pf_nil)))) (pf_cons (pd_tupX (pf_cons (pd_mk1 (c := "BadNumber") base_IE nx.cls_BadNumber nx.init_BadNumber nx.ity_BadNumber (ok_init_BadNumber nx) (hr.mono (by decide)) (bnd_BadNumber nx) rfl nx.g_BadNumber (pf_cons (pd_var (i := 0) rfl (by first | exact Or.inl rfl | exact Or.inr (Or.inl rfl) | exact Or.inr (Or.inr rfl))) pf_nil)) (pf_cons (pd_str) (pf_cons (pd_lst (pf_cons (pd_str) (pf_cons (pd_str) pf_nil))) pf_nil)))) pf_nil))))))))))))
theorem sc_l_thing_by : FnScope N_l_thing_by ["_law_stream"] (defScope st_l_thing_by) := ⟨rfl, rfl, rfl, by decide +kernel, rfl, by decide +kernel, by decide +kernel⟩
theorem ok_l_thing_by (fx : Fx K mg) : FnG P w K mg base 4 fx.f_l_thing_by fx.fd_l_thing_by ["_law_stream"] (spF (gS K L C hLC) 1 m_l_thing_by) := by
  refine fn_ok (G := gS K L C hLC) (k := 3) (N := N_l_thing_by) fx.F_l_thing_by sc_l_thing_by rfl fun X cdv A outer s H E hX hr gu => ?_
  subst hX
  have ND := sc_l_thing_by.nd
  have hu1 := room1 hr
  have hu64 := room64 hr
  have hu65 := room65 hr
  exact (ss_cons (ds_set (i := 1) ND rfl (by first | exact Or.inl rfl | exact Or.inr rfl) (pd_op op_mulS od_mulS (pd_ix rfl (pd_str) (pd_call (ks := []) (ok_l_take fx) rfl (hr.mono (by decide)) gu rfl fx.g_l_take fx.F_l_take.kp (Bn.of [0, 1] fx.F_l_take (fun _ _ _ _ _ _ us ws h1 h2 => match us, ws, h1, h2 with | [_, _], [], _, _ => ⟨rfl, rfl⟩)) (pf_cons (pd_var (i := 0) rfl (by first | exact Or.inl rfl | exact Or.inr (Or.inl rfl) | exact Or.inr (Or.inr rfl))) (pf_cons (pd_int) pf_nil)) kf_nil) (fun _ _ => rfl)) (pd_call (ks := []) (ok_l_take fx) rfl (hr.mono (by decide)) gu rfl fx.g_l_take fx.F_l_take.kp (Bn.of [0, 1] fx.F_l_take (fun _ _ _ _ _ _ us ws h1 h2 => match us, ws, h1, h2 with | [_, _], [], _, _ => ⟨rfl, rfl⟩)) (pf_cons (pd_var (i := 0) rfl (by first | exact Or.inl rfl | exact Or.inr (Or.inl rfl) | exact Or.inr (Or.inr rfl))) (pf_cons (pd_int) pf_nil)) kf_nil))) (ss_one (ds_ret (pd_call (ks := []) (ok_l_of fx) rfl (hr.mono (by decide)) gu rfl fx.g_l_of fx.F_l_of.kp (Bn.of [0, 1] fx.F_l_of (fun _ _ _ _ _ _ us ws h1 h2 => match us, ws, h1, h2 with | [_, _], [], _, _ => ⟨rfl, rfl⟩)) (pf_cons (pd_var (i := 0) rfl (by first | exact Or.inl rfl | exact Or.inr (Or.inl rfl) | exact Or.inr (Or.inr rfl))) (pf_cons (pd_lst (pf_cons (pd_var (i := 1) rfl (by first | exact Or.inl rfl | exact Or.inr (Or.inl rfl) | exact Or.inr (Or.inr rfl))) (pf_cons (pd_call (ks := []) (ok_l_take fx) rfl (hr.mono (by decide)) gu rfl fx.g_l_take fx.F_l_take.kp (Bn.of [0, 1] fx.F_l_take (fun _ _ _ _ _ _ us ws h1 h2 => match us, ws, h1, h2 with | [_, _], [], _, _ => ⟨rfl, rfl⟩)) (pf_cons (pd_var (i := 0) rfl (by first | exact Or.inl rfl | exact Or.inr (Or.inl rfl) | exact Or.inr (Or.inr rfl))) (pf_cons (pd_int) pf_nil)) kf_nil) (pf_cons (pd_non) (pf_cons (pd_tup (pf_cons (pd_var (i := 1) rfl (by first | exact Or.inl rfl | exact Or.inr (Or.inl rfl) | exact Or.inr (Or.inr rfl))) (pf_cons (pd_int) pf_nil))) (pf_cons (pd_lst (pf_cons (pd_var (i := 1) rfl (by first | exact Or.inl rfl | exact Or.inr (Or.inl rfl) | exact Or.inr (Or.inr rfl))) pf_nil)) (pf_cons (pd_un un_neg od_neg (pd_int)) (pf_cons (pd_bl) (pf_cons (pd_dispK (pps_cons pe_int (pd_var (i := 1) rfl (by first | exact Or.inl rfl | exact Or.inr (Or.inl rfl) | exact Or.inr (Or.inr rfl))) pps_nil) (PDk.cons (k := .inl 1) PDk.nil) (by decide +kernel) (by decide)) (pf_cons (pd_int) pf_nil)))))))))) pf_nil)) kf_nil))))
end
end K2
end
section
set_option maxHeartbeats 4000000
namespace K2
open PySem PySem.Spec PyProof.Rows L2 Dv
/-- the slots and the draws' state behind the law's first row -/
def en0 (ns : List Int) : En := [.im (.scr ns), .im (.ob 0)] ++ List.replicate 10 .non
def st0 (ns : List Int) : S5 := ⟨(ns ++ [0]).take 63, 0, 0, 7, 0⟩
def Good : Prop := ∀ ns : List Int, ns.length ≤ 63 → ∃ ρ S, s_law (en0 ns) (st0 ns) = some (.rt (.im (.bl true)), ρ, S)
theorem cut63 (l : List V) : cutV l none (some 63) = l.take 63 := by
  unfold cutV
  have h1 : HT.sIx l.length 0 none = 0 := rfl
  have h2 : HT.sIx l.length l.length (some 63) = min 63 l.length := by
    simp [HT.sIx] <;> omega
  rw [h1, h2, List.drop_zero, Nat.sub_zero]
  by_cases h : l.length ≤ 63
  · rw [Nat.min_eq_right h, List.take_length, List.take_of_length_le h]
  · rw [Nat.min_eq_left (by omega)]
def spLaw (K : PySem.W.Frag) : Sp := fun vs H Q _ => ∃ (a : Addr) (ns : List Int), vs = [.ref a] ∧ ns.length ≤ 63 ∧ Lk K H a (ns.map V.int) ∧ ∀ H', Q (.bl true) H'
section
variable {P : Program} {w : World} {K : PySem.W.Frag} {mg : Str → Option Value} {base : Heap}
theorem sc_law : FnScope N_law ["_law_script"] (defScope st_law) := ⟨rfl, rfl, rfl, by decide +kernel, rfl, by decide +kernel, by decide +kernel⟩
theorem ok_law {cl : Str → Addr} (fx : Fx K mg) (nx : Nx K mg cl) (good : Good) : FnG P w K mg base 5 fx.f_law fx.fd_law ["_law_script"] (spLaw K) := by
  refine FnG.of fx.F_law sc_law (fun vs H Q E h => ?_) fun cdv A outer s H vs Q E hr0 gu0 h => ?_
  · obtain ⟨a, ns, rfl, _⟩ := h
    rfl
  obtain ⟨a, ns, rfl, hl, lk, hQ⟩ := h
  generalize hX : cxOf CX0 P w K mg base N_law "law" (defScope st_law) fx.f_law cdv A outer s H E = X
  have hr : Room 4 X.A := by rw [← hX]; exact hr0
  have gu : X.A.guards = some [] := by rw [← hX]; exact gu0
  subst hX
  have ND := sc_law.nd
  have hu1 := room1 hr
  have hu64 := room64 hr
  have hu65 := room65 hr
  have rest : ∀ (L C : Addr) (hLC : L ≠ C), PSs (cxOf CX0 P w K mg base N_law "law" (defScope st_law) fx.f_law cdv A outer s H E) (defBody st_law).tail (tSs (gS K L C hLC) s_law) := fun L C hLC => (ss_cons (ds_for (vs := [2]) (passes_of rfl) rfl (it_range1 rfl fx.b_range (pb_cons (pd_op op_addD (od_add rfl) (pd_int) (pd_callB (cr_minD rfl) (od_min rfl) rfl fx.b_min boot_min (pb_cons (pd_int) (pb_cons (pd_callB call_len (od_len rfl) rfl fx.b_len boot_len (pb_cons (pd_br (i := 0) rfl (by first | exact Or.inl rfl | exact Or.inr (Or.inl rfl) | exact Or.inr (Or.inr rfl))) pb_nil)) pb_nil)))) pb_nil)) (gd_name (i := 2) (by decide) ND rfl (by first | exact Or.inl rfl | exact Or.inr rfl)) (ss_cons (ds_parO (i := 3) (j := 4) rfl ND rfl rfl (by decide) rfl rfl (pd_callN (ks := []) (ok_l_thing_by fx) rfl (hr.mono (by decide)) gu rfl fx.g_l_thing_by fx.F_l_thing_by.kp (Bn.of [0] fx.F_l_thing_by (fun _ _ _ _ _ _ us ws h1 h2 => match us, ws, h1, h2 with | [_], [], _, _ => ⟨rfl, rfl⟩)) (pf_cons (pd_var (i := 1) rfl (by first | exact Or.inl rfl | exact Or.inr (Or.inl rfl) | exact Or.inr (Or.inr rfl))) pf_nil) kf_nil) (pd_callN (ks := []) (ok_l_thing_by fx) rfl (hr.mono (by decide)) gu rfl fx.g_l_thing_by fx.F_l_thing_by.kp (Bn.of [0] fx.F_l_thing_by (fun _ _ _ _ _ _ us ws h1 h2 => match us, ws, h1, h2 with | [_], [], _, _ => ⟨rfl, rfl⟩)) (pf_cons (pd_var (i := 1) rfl (by first | exact Or.inl rfl | exact Or.inr (Or.inl rfl) | exact Or.inr (Or.inr rfl))) pf_nil) kf_nil)) (ss_sw (cl := cl) (by decide) fun o1 o2 z1 z2 d12 => (ss_cons (ds_set (i := 5) ND rfl (by first | exact Or.inl rfl | exact Or.inr rfl) (pd_call (ks := []) (ok_l_lines (G := gA (gS K L C hLC) cl o1 o2) fx nx) rfl (hr.mono (by decide)) gu rfl fx.g_l_lines fx.F_l_lines.kp (Bn.of [0, 1] fx.F_l_lines (fun _ _ _ _ _ _ us ws h1 h2 => match us, ws, h1, h2 with | [_, _], [], _, _ => ⟨rfl, rfl⟩)) (pf_cons (pd_var (i := 3) rfl (by first | exact Or.inl rfl | exact Or.inr (Or.inl rfl) | exact Or.inr (Or.inr rfl))) (pf_cons (pd_var (i := 4) rfl (by first | exact Or.inl rfl | exact Or.inr (Or.inl rfl) | exact Or.inr (Or.inr rfl))) pf_nil)) kf_nil)) (ss_cons (ds_for (vs := [6, 7, 8]) (passes_of rfl) rfl (it_list rfl (pd_op op_addD (od_add rfl) (pd_br (i := 5) rfl (by first | exact Or.inl rfl | exact Or.inr (Or.inl rfl) | exact Or.inr (Or.inr rfl))) (pd_call (ks := []) (ok_l_lines (G := gA (gS K L C hLC) cl o1 o2) fx nx) rfl (hr.mono (by decide)) gu rfl fx.g_l_lines fx.F_l_lines.kp (Bn.of [0, 1] fx.F_l_lines (fun _ _ _ _ _ _ us ws h1 h2 => match us, ws, h1, h2 with | [_, _], [], _, _ => ⟨rfl, rfl⟩)) (pf_cons (pd_var (i := 4) rfl (by first | exact Or.inl rfl | exact Or.inr (Or.inl rfl) | exact Or.inr (Or.inr rfl))) (pf_cons (pd_var (i := 3) rfl (by first | exact Or.inl rfl | exact Or.inr (Or.inl rfl) | exact Or.inr (Or.inr rfl))) pf_nil)) kf_nil))) (gd_tup (n := 3) rfl rfl (gds_cons (gd_name (i := 6) (by decide) ND rfl (by first | exact Or.inl rfl | exact Or.inr rfl)) (gds_cons (gd_name (i := 7) (by decide) ND rfl (by first | exact Or.inl rfl | exact Or.inr rfl)) (gds_cons (gd_name (i := 8) (by decide) ND rfl (by first | exact Or.inl rfl | exact Or.inr rfl)) gds_nil))) (by (repeat (first | exact tl_nil | refine tl_cons ?_)))) (ss_one (ds_if (PW.pt (td_or (td_cmp (op_neD' hu64) (od_eqn rfl) (pd_call (ks := []) (ok_l_words (G := gA (gS K L C hLC) cl o1 o2) fx nx) rfl (hr.mono (by decide)) gu rfl fx.g_l_words fx.F_l_words.kp (Bn.of [0] fx.F_l_words (fun _ _ _ _ _ _ us ws h1 h2 => match us, ws, h1, h2 with | [_], [], _, _ => ⟨rfl, rfl⟩)) (pf_cons (pd_var (i := 6) rfl (by first | exact Or.inl rfl | exact Or.inr (Or.inl rfl) | exact Or.inr (Or.inr rfl))) pf_nil) kf_nil) (pd_lst (pf_cons (pd_var (i := 7) rfl (by first | exact Or.inl rfl | exact Or.inr (Or.inl rfl) | exact Or.inr (Or.inr rfl))) pf_nil)) (nomark _)) (td_or (td_cmp (op_neD' hu64) (od_eqn rfl) (pd_call (ks := []) (ok_l_kinds (G := gA (gS K L C hLC) cl o1 o2) fx nx) rfl (hr.mono (by decide)) gu rfl fx.g_l_kinds fx.F_l_kinds.kp (Bn.of [0] fx.F_l_kinds (fun _ _ _ _ _ _ us ws h1 h2 => match us, ws, h1, h2 with | [_], [], _, _ => ⟨rfl, rfl⟩)) (pf_cons (pd_var (i := 6) rfl (by first | exact Or.inl rfl | exact Or.inr (Or.inl rfl) | exact Or.inr (Or.inr rfl))) pf_nil) kf_nil) (pd_br (i := 8) rfl (by first | exact Or.inl rfl | exact Or.inr (Or.inl rfl) | exact Or.inr (Or.inr rfl))) (nomark _)) (td_or1 (td_not (td_val (pd_isEB (nx.isb ("Exception", "Exception") (by decide +kernel)) rfl fx.b_isinstance rfl fx.b_Exception (show bootBuiltins "Exception" = some (.type "Exception") by decide +kernel) (pd_br (i := 6) rfl (by first | exact Or.inl rfl | exact Or.inr (Or.inl rfl) | exact Or.inr (Or.inr rfl)))))))))) (ss_one (ds_ret (pd_bl))) ss_nil))) (ss_cons (ds_par (i := 9) (j := 10) rfl ND rfl rfl (by decide) rfl rfl (pf_cons (pd_comp rfl ND (it_list rfl (pd_var (i := 5) rfl (by first | exact Or.inl rfl | exact Or.inr (Or.inl rfl) | exact Or.inr (Or.inr rfl)))) (own := [("_law_line", 11)]) (show BlkOk N_law (defScope st_law) _ _ from ⟨rfl, by decide +kernel, by decide +kernel, by decide +kernel, by decide +kernel⟩) (fun _ _ _ _ _ => (gd_name (i := 11) (by decide) ND rfl (by first | exact Or.inl rfl | exact Or.inr rfl))) (fun _ _ _ _ _ => ts_nil) (fun _ _ _ _ _ => (pd_ix rfl (pd_br (i := 11) rfl (by first | exact Or.inl rfl | exact Or.inr (Or.inl rfl) | exact Or.inr (Or.inr rfl))) (pd_int) (fun _ _ => rfl)))) (pf_cons (pd_op op_addD (od_add rfl) (pd_op op_addD (od_add rfl) (pd_op op_mulX (od_mulX rfl) (pd_lst (pf_cons (pd_var (i := 3) rfl (by first | exact Or.inl rfl | exact Or.inr (Or.inl rfl) | exact Or.inr (Or.inr rfl))) pf_nil)) (pd_int)) (pd_lst (pf_cons (pd_var (i := 4) rfl (by first | exact Or.inl rfl | exact Or.inr (Or.inl rfl) | exact Or.inr (Or.inr rfl))) pf_nil))) (pd_op op_mulX (od_mulX rfl) (pd_lst (pf_cons (pd_var (i := 3) rfl (by first | exact Or.inl rfl | exact Or.inr (Or.inl rfl) | exact Or.inr (Or.inr rfl))) pf_nil)) (pd_int))) pf_nil))) (ss_cons (ds_if (td_cmp (op_neD' hu64) (od_eqn rfl) (pd_reprA rfl nx.sm hr gu rfl fx.b_repr (pd_call (ks := []) (ok_l_fields (G := gA (gS K L C hLC) cl o1 o2) fx nx) rfl (hr.mono (by decide)) gu rfl fx.g_l_fields fx.F_l_fields.kp (Bn.of [0] fx.F_l_fields (fun _ _ _ _ _ _ us ws h1 h2 => match us, ws, h1, h2 with | [_], [], _, _ => ⟨rfl, rfl⟩)) (pf_cons (pd_var (i := 9) rfl (by first | exact Or.inl rfl | exact Or.inr (Or.inl rfl) | exact Or.inr (Or.inr rfl))) pf_nil) kf_nil)) (pd_reprA rfl nx.sm hr gu rfl fx.b_repr (pd_br (i := 10) rfl (by first | exact Or.inl rfl | exact Or.inr (Or.inl rfl) | exact Or.inr (Or.inr rfl)))) (nomark _)) (ss_one (ds_ret (pd_bl))) ss_nil) (ss_cons (ds_if (td_val (pd_isLA rfl rfl fx.b_isinstance rfl fx.b_list (pd_br (i := 3) rfl (by first | exact Or.inl rfl | exact Or.inr (Or.inl rfl) | exact Or.inr (Or.inr rfl))))) (ss_one (ds_appA (i := 3) rfl z1 d12 rfl (by first | exact Or.inl rfl | exact Or.inr (Or.inl rfl) | exact Or.inr (Or.inr rfl)))) ss_nil) (ss_cons (ds_if (td_cmp (op_neD' hu64) (od_eqn rfl) (pd_reprA rfl nx.sm hr gu rfl fx.b_repr (pd_call (ks := []) (ok_l_fields (G := gA (gS K L C hLC) cl o1 o2) fx nx) rfl (hr.mono (by decide)) gu rfl fx.g_l_fields fx.F_l_fields.kp (Bn.of [0] fx.F_l_fields (fun _ _ _ _ _ _ us ws h1 h2 => match us, ws, h1, h2 with | [_], [], _, _ => ⟨rfl, rfl⟩)) (pf_cons (pd_var (i := 9) rfl (by first | exact Or.inl rfl | exact Or.inr (Or.inl rfl) | exact Or.inr (Or.inr rfl))) pf_nil) kf_nil)) (pd_reprA rfl nx.sm hr gu rfl fx.b_repr (pd_br (i := 10) rfl (by first | exact Or.inl rfl | exact Or.inr (Or.inl rfl) | exact Or.inr (Or.inr rfl)))) (nomark _)) (ss_one (ds_ret (pd_bl))) ss_nil) (ss_one (ds_if (td_cmp (op_neD' hu64) (od_eqn rfl) (pd_reprA rfl nx.sm hr gu rfl fx.b_repr (pd_call (ks := []) (ok_l_fields (G := gA (gS K L C hLC) cl o1 o2) fx nx) rfl (hr.mono (by decide)) gu rfl fx.g_l_fields fx.F_l_fields.kp (Bn.of [0] fx.F_l_fields (fun _ _ _ _ _ _ us ws h1 h2 => match us, ws, h1, h2 with | [_], [], _, _ => ⟨rfl, rfl⟩)) (pf_cons (pd_comp rfl ND (it_list rfl (pd_call (ks := []) (ok_l_lines (G := gA (gS K L C hLC) cl o1 o2) fx nx) rfl (hr.mono (by decide)) gu rfl fx.g_l_lines fx.F_l_lines.kp (Bn.of [0, 1] fx.F_l_lines (fun _ _ _ _ _ _ us ws h1 h2 => match us, ws, h1, h2 with | [_, _], [], _, _ => ⟨rfl, rfl⟩)) (pf_cons (pd_var (i := 3) rfl (by first | exact Or.inl rfl | exact Or.inr (Or.inl rfl) | exact Or.inr (Or.inr rfl))) (pf_cons (pd_var (i := 4) rfl (by first | exact Or.inl rfl | exact Or.inr (Or.inl rfl) | exact Or.inr (Or.inr rfl))) pf_nil)) kf_nil)) (own := [("_law_line", 11)]) (show BlkOk N_law (defScope st_law) _ _ from ⟨rfl, by decide +kernel, by decide +kernel, by decide +kernel, by decide +kernel⟩) (fun _ _ _ _ _ => (gd_name (i := 11) (by decide) ND rfl (by first | exact Or.inl rfl | exact Or.inr rfl))) (fun _ _ _ _ _ => ts_nil) (fun _ _ _ _ _ => (pd_ix rfl (pd_br (i := 11) rfl (by first | exact Or.inl rfl | exact Or.inr (Or.inl rfl) | exact Or.inr (Or.inr rfl))) (pd_int) (fun _ _ => rfl)))) pf_nil) kf_nil)) (pd_reprA rfl nx.sm hr gu rfl fx.b_repr (pd_br (i := 10) rfl (by first | exact Or.inl rfl | exact Or.inr (Or.inl rfl) | exact Or.inr (Or.inr rfl)))) (nomark _)) (ss_one (ds_ret (pd_bl))) ss_nil))))))))))) (ss_one (ds_ret (pd_bl))))
  refine ⟨_, pss_cons (ps_set (i := 1) ND rfl (by first | exact Or.inl rfl | exact Or.inr rfl) (pe_lst (pa_cons (pe_slice sl_list (pe_op op_catK (pv 0) (pe_lst (pa_cons pe_int pa_nil rfl))) po_none (po_some pe_int)) (pa_cons pe_int (pa_cons pe_int (pa_cons pe_int (pa_cons pe_int pa_nil rfl) rfl) rfl) rfl) rfl)))
    (show PSs _ _ (fun D σ H => ∃ (L C : Addr) (h : L ≠ C), tSs (gS K L C h) s_law D σ H) from ⟨fun pins s σ H D I q => by
      obtain ⟨L, C, h, q⟩ := q
      exact (rest L C h).run pins s σ H D I q⟩), ?_⟩
  have len : (ns.map V.int).length + 1 ≤ sizeLine := by
    rw [List.length_map]
    exact Nat.le_trans (Nat.succ_le_succ hl) (by decide)
  refine ⟨.ref a, rfl, by decide, fun p1 n1 => ⟨a, p1, ns.map V.int, [.int 0], rfl, rfl, ?_, upd_same, len, fun p2 n2 => ?_⟩⟩
  · rcases lk with ⟨o, e⟩ | e
    · exact .inl ⟨o, by rw [upd_ne (ne_of_none e n1)]; exact e⟩
    · exact .inr e
  refine ⟨63, rfl, p2, _, rfl, .inl (.inl upd_same), fun p3 n3 => ⟨(show 5 ≤ sizeLine by decide), fun p4 n4 => ?_⟩⟩
  have ne43 : p4 ≠ p3 := fun q => by rw [q, upd_same] at n4; cases n4
  obtain ⟨ρ', S', eg⟩ := good ns hl
  generalize hH4 : upd (upd (upd (upd H p1 (HO.lst [V.int 0])) p2 (HO.lst (List.map V.int ns ++ [V.int 0]))) p3 (HO.lst (cutV (List.map V.int ns ++ [V.int 0]) none (some 63)))) p4 (HO.lst [V.ref p3, V.int 0, V.int 0, V.int 7, V.int 0]) = H4
  have eL : H4 p4 = some (.lst [V.ref p3, V.int 0, V.int 0, V.int 7, V.int 0]) := by rw [← hH4, upd_same]
  have eC : H4 p3 = some (.lst (((ns ++ [0]).take 63).map V.int)) := by
    rw [← hH4, upd_ne (Ne.symm ne43), upd_same, cut63, List.map_take, List.map_append]
    rfl
  have lk4 : LkZ (fun b => b = p4 ∨ b = p3) K H4 a (ns.map V.int) := by
    rcases lk with ⟨o, e⟩ | e
    · have e1 := ne_of_none e n1
      have h1 : upd H p1 (HO.lst [V.int 0]) a = some (.frz o (.lst (ns.map V.int))) := by rw [upd_ne e1]; exact e
      have e2 := ne_of_none h1 n2
      have h2 : upd (upd H p1 (HO.lst [V.int 0])) p2 (HO.lst (List.map V.int ns ++ [V.int 0])) a = some (.frz o (.lst (ns.map V.int))) := by rw [upd_ne e2]; exact h1
      have e3 := ne_of_none h2 n3
      have h3 : upd (upd (upd H p1 (HO.lst [V.int 0])) p2 (HO.lst (List.map V.int ns ++ [V.int 0]))) p3 (HO.lst (cutV (List.map V.int ns ++ [V.int 0]) none (some 63))) a = some (.frz o (.lst (ns.map V.int))) := by rw [upd_ne e3]; exact h2
      have e4 := ne_of_none h3 n4
      exact .inl ⟨o, by rw [← hH4, upd_ne e4]; exact h3, fun q => q.elim e4 e3⟩
    · exact .inr e
  refine ⟨p4, p3, ne43, H4, fun _ => False, en0 ns, fun _ => False, fun _ => none, st0 ns, _, ρ', S', ⟨⟨fun _ f => f.elim, fun _ f => f.elim, eL, eC⟩, rfl, fun i sl e => ?_, fun _ _ => rfl, fun _ _ _ q => (nomatch q), fun _ _ q => (nomatch q), fun _ _ q => (nomatch q), Fr.refl, fun _ q => q⟩, eg, fun σ' H' F' As' p R v hv => ?_⟩
  · match i, e with
    | 0, e =>
      cases e
      exact ⟨_, rfl, rfl, _, rfl, a, rfl, lk4⟩
    | 1, e =>
      cases e
      exact ⟨_, rfl, rfl, _, rfl, rfl⟩
    | n + 2, e =>
      have e : (List.replicate 10 Sl.non)[n]? = some sl := e
      rw [List.getElem?_replicate] at e
      by_cases hn : n < 10
      · rw [if_pos hn] at e
        cases e
        exact ⟨((L2.start N_law [V.ref a]).set 1 (some (V.ref p4)))[n + 2]'(show n + 2 < 12 by omega), List.getElem?_eq_getElem (show n + 2 < 12 by omega), rfl⟩
      · rw [if_neg hn] at e
        cases e
  · have hv : v = .bl true := hv
    subst hv
    exact hQ H'
end
end K2
end
section
set_option maxHeartbeats 4000000
namespace K2
open PySem PySem.Spec PyProof.Rows L2 Dv
def lnD (c : Str) (ns : List Str) (l : List D) (w : Str) (ks : List Str) : D := .tup true [.exc c ns l, .str w, .lst (ks.map .str)]
def linesD (a b : D) : List D := [lnD "BadProgram" ["place"] [a] "program" ["lane", "value"], lnD "BadSizes" ["about"] [a] "sizes" ["lane", "value"], lnD "BadGiven" ["about"] [a] "given" ["lane", "value"],
  lnD "BadTurn" ["about"] [a] "turn" ["lane", "value"], lnD "BadPlan" ["about"] [a] "plan" ["lane", "value"], lnD "BadKernel" ["place"] [a] "kernel" ["lane", "value"],
  lnD "BadPaper" ["about"] [a] "paper" ["lane", "value"], lnD "BadLine" ["word", "row"] [b, a] "line" ["lane", "value"], lnD "BadSchedule" ["about"] [a] "schedule" ["lane", "value"],
  lnD "NoSuch" ["name"] [a] "such" ["lack", "lookup"], lnD "Gone" [] [] "gone" ["lack", "lookup"], lnD "Unsafe" ["meeting"] [a] "unsafe" ["cant", "run"], lnD "Unfit" ["about"] [a] "unfit" ["cant", "run"],
  lnD "Full" ["most"] [a] "full" ["cant", "run"], lnD "BadKind" ["wanted"] [a] "kind" ["sort"], lnD "BadNumber" ["about"] [a] "number" ["lookup", "index"]]
theorem lines_eq {Sg : Type} (a b : D) (S : Sg) : m_l_lines [a, b] S = some (.nw (.lst (linesD a b)), S) := by kernel_rfl
def builtD (a b : D) : List D := [.exc "BadProgram" ["place"] [a], .exc "BadSizes" ["about"] [a], .exc "BadGiven" ["about"] [a], .exc "BadTurn" ["about"] [a], .exc "BadPlan" ["about"] [a], .exc "BadKernel" ["place"] [a],
  .exc "BadPaper" ["about"] [a], .exc "BadLine" ["word", "row"] [b, a], .exc "BadSchedule" ["about"] [a], .exc "NoSuch" ["name"] [a], .exc "Gone" [] [], .exc "Unsafe" ["meeting"] [a], .exc "Unfit" ["about"] [a],
  .exc "Full" ["most"] [a], .exc "BadKind" ["wanted"] [a], .exc "BadNumber" ["about"] [a]]
def dueD (a b : D) : List D := [a, a, a, a, a, a, a, a, b, a, a, a, a, a, a, a]
theorem fields_eq {Sg : Type} (a b : D) (S : Sg) : m_l_fields [.lst (builtD a b)] S = some (.nw (.lst (dueD a b)), S) := by kernel_rfl
end K2
end
section
set_option maxHeartbeats 4000000
namespace K2
open PySem PySem.Spec PyProof.Rows L2 Dv
def bodyL {Sg : Type} : D → SS Sg := sBody (tdTup (tdCons (tdN 6) (tdCons (tdN 7) (tdCons (tdN 8) tdNil)))) (sIf ((tOr' (tst (eOp2 (eqD true) (eCall 1 0 (fun ds es => sel [0] (ds ++ es)) m_l_words (aF (eVar 6) aNil) aNil) (eLst (aF (eVar 7) aNil)))) (tOr' (tst (eOp2 (eqD true) (eCall 1 0 (fun ds es => sel [0] (ds ++ es)) m_l_kinds (aF (eVar 6) aNil) aNil) (eBr 8))) (tNot' (tst (eOp1 (opIsE (tbl "Exception")) (eBr 6))))))) (sRet (eC (.bl false))) sNx)
theorem loop_eq {Sg : Type} (a b : D) (s0 s1 s2 s3 s4 s5 s6 s7 s8 s9 s10 s11 : Sl) (S : Sg) : forD bodyL (linesD a b ++ linesD b a) [s0, s1, s2, s3, s4, s5, s6, s7, s8, s9, s10, s11] S = some (.nx, [s0, s1, s2, s3, s4, s5, .im (.exc "BadNumber" ["about"] [b]), .im (.str "number"), .im (.lst [.str "lookup", .str "index"]), s9, s10, s11], S) := by kernel_rfl
end K2
end
section
set_option maxHeartbeats 4000000
namespace K2
open PySem PySem.Spec PyProof.Rows L2 Dv
/-! ### the draws -/
/-- the draws' state is in order -/
structure Ok5 (S : S5) (n : Int) : Prop where
  lo : 0 ≤ S.a2
  hi : S.a2 ≤ n
def mx (d k : Int) : Int := (d % 2147483647 + 7919 * k * k + 31 * k + 5) ^ 5 % 2147483629 * (48271 + 2 * k) % 2147483587 / 7
theorem mixed_eq (d k : Int) (S : S5) (h0 : 0 ≤ k) (h1 : k < 1048576) : m_l_mixed [.int d, .int k] S = some (.im (.int (mx d k)), S) := by
  have b1 : 0 ≤ 7919 * k * k ∧ 7919 * k * k ≤ 7919 * 1048576 * 1048576 := by
    have e : 7919 * k * k = 7919 * (k * k) := Int.mul_assoc ..
    have h2 : 0 ≤ k * k := Int.mul_nonneg h0 h0
    have h3 : k * k ≤ 1048576 * 1048576 := Int.mul_le_mul (by omega) (by omega) h0 (by omega)
    rw [e]
    omega
  have b2 := Int.emod_nonneg d (show (2147483647 : Int) ≠ 0 by decide)
  have b3 := Int.emod_lt_of_pos d (show (0 : Int) < 2147483647 by decide)
  have c1 : cMul 7919 k = true := by simp [cMul]
  have c2 : cMul (7919 * k) k = true := by simp [cMul]; omega
  have c3 : cMul 31 k = true := by simp [cMul]
  have c4 : cPow (d % 2147483647 + 7919 * k * k + 31 * k + 5) 5 = true := by simp [cPow]; omega
  unfold mx
  generalize hd : (d % 2147483647 + 7919 * k * k + 31 * k + 5) ^ 5 % 2147483629 = d2
  have c5 : cMul 2 k = true := by simp [cMul]
  have c6 : cMul d2 (48271 + 2 * k) = true := by simp [cMul]; omega
  simp [m_l_mixed, runB, s_l_mixed, enOf, sSeq, sSet, sRet, eOp2, eBr, eC, opMod, opIC, opPow, opAdd, opMulX, opMul, opDiv, cPos, cDiv, slOf, outR, Rv.d, c1, c2, c3, c4, hd, c5, c6]
theorem mx_nonneg (d k : Int) : 0 ≤ mx d k := Int.ediv_nonneg (Int.emod_nonneg _ (by decide)) (by decide)
theorem sel2 {α : Type} (a b : α) : sel [0, 1] ([a, b] ++ []) = [a, b] := rfl
theorem take_ok (S : S5) (m n : Int) (ok : Ok5 S n) (hn : n < 1048575) (h0 : 0 < m) (h1 : m < 1073741824) : ∃ v S', m_l_take [.ob 0, .int m] S = some (.im (.int v), S') ∧ Ok5 S' (n + 1) ∧ 0 ≤ v ∧ v < m := by
  obtain ⟨cells, a1, a2, a3, a4⟩ := S
  obtain ⟨lo, hi⟩ := ok
  dsimp only at lo hi
  have c1 : cPow 10 18 = true := by decide
  have c4 : cMul 104729 (a2 + 1) = true := by simp [cMul]
  have hM : ∀ (d : Int) (S : S5), m_l_mixed [.int d, .int (a2 + 1)] S = some (.im (.int (mx d (a2 + 1))), S) := fun d S => mixed_eq d (a2 + 1) S (by omega) (by omega)
  unfold m_l_take s_l_take
  generalize m_l_mixed = M at hM
  have fin1 : ∀ (b1 : Int), 1 < b1 → 0 ≤ b1 % m ∧ b1 % m < m := fun b1 _ => ⟨Int.emod_nonneg _ (by omega), Int.emod_lt_of_pos _ h0⟩
  have okS : ∀ (cs : List Int) (b1 b3 : Int), Ok5 ⟨cs, b1, a2 + 1, b3, a4⟩ (n + 1) := fun cs b1 b3 => ⟨by show 0 ≤ a2 + 1; omega, by show a2 + 1 ≤ n + 1; omega⟩
  have mdv : ∀ x : Int, 0 ≤ x % m ∧ x % m < m := fun x => ⟨Int.emod_nonneg _ (by omega), Int.emod_lt_of_pos _ h0⟩
  by_cases q1 : a1 < 2
  · have q2 : ¬ 1 < a1 := by omega
    cases cells with
    | nil =>
      refine ⟨mx (a3 + 104729 * (a2 + 1)) (a2 + 1) / 11 % m, ⟨[], a1, a2 + 1, a3, a4⟩, ?_, okS _ _ _, mdv _⟩
      simp [runB, enOf, sSeq, sSet, sRet, sSg, sIf, tAnd', tst, tSne, eSg, eIf, eSpop, sNx, eCall, aF, aNil, eVar, frz, eMv, eOp2, eBr, eC, opMod, opIC, opPow, opAdd, opMulX, opMul, opDiv, cPos, cDiv, opCmp, slOf, outR, Rv.d, c1, c4, sel, hM, q1, q2, h0, h1]
    | cons c cs =>
      by_cases q3 : (1000000000000000000 : Int) ≤ c
      · have q4 : 1 < c := by omega
        refine ⟨c % m, ⟨cs, c / m, a2 + 1, mx (a3 + c) (a2 + 1), a4⟩, ?_, okS _ _ _, mdv _⟩
        simp [runB, enOf, sSeq, sSet, sRet, sSg, sIf, tAnd', tst, tSne, eSg, eIf, eSpop, sNx, eCall, aF, aNil, eVar, frz, eMv, eOp2, eBr, eC, opMod, opIC, opPow, opAdd, opMulX, opMul, opDiv, cPos, cDiv, opCmp, slOf, outR, Rv.d, c1, c4, sel, hM, q1, q2, q3, q4, h0, h1]
      · refine ⟨mx (mx (a3 + c) (a2 + 1) + 104729 * (a2 + 1)) (a2 + 1) / 11 % m, ⟨cs, 0, a2 + 1, mx (a3 + c) (a2 + 1), a4⟩, ?_, okS _ _ _, mdv _⟩
        simp [runB, enOf, sSeq, sSet, sRet, sSg, sIf, tAnd', tst, tSne, eSg, eIf, eSpop, sNx, eCall, aF, aNil, eVar, frz, eMv, eOp2, eBr, eC, opMod, opIC, opPow, opAdd, opMulX, opMul, opDiv, cPos, cDiv, opCmp, slOf, outR, Rv.d, c1, c4, sel, hM, q1, q2, q3, h0, h1]
  · have q2 : 1 < a1 := by omega
    refine ⟨a1 % m, ⟨cells, a1 / m, a2 + 1, a3, a4⟩, ?_, okS _ _ _, mdv _⟩
    simp [runB, enOf, sSeq, sSet, sRet, sSg, sIf, tAnd', tst, tSne, eSg, eIf, eSpop, sNx, eCall, aF, aNil, eVar, frz, eMv, eOp2, eBr, eC, opMod, opIC, opPow, opAdd, opMulX, opMul, opDiv, cPos, cDiv, opCmp, slOf, outR, Rv.d, c1, c4, sel, hM, q1, q2, h0, h1]
theorem w_take {S : S5} {m n : Int} {Q : Rv → S5 → Prop} (ok : Ok5 S n) (hn : n < 1048575) (h0 : 0 < m) (h1 : m < 1073741824) (h : ∀ v S', Ok5 S' (n + 1) → 0 ≤ v → v < m → Q (.im (.int v)) S') : WF m_l_take [.ob 0, .int m] S Q := by
  obtain ⟨v, S', e, o, v0, v1⟩ := take_ok S m n ok hn h0 h1
  exact ⟨_, S', e, h v S' o v0 v1⟩
end K2
end
section
set_option maxHeartbeats 400000
namespace K2
open PySem PySem.Spec PyProof.Rows L2 Dv
local macro_rules
  | `(tactic| infer_instance) => `(tactic| first
    | with_reducible refine ws_seq ?_ | (with_reducible refine ks_nx ?_; try dsimp only [List.set_cons_zero, List.set_cons_succ]) | with_reducible refine ks_rt ?_ | with_reducible refine ws_set ?_ | with_reducible refine ws_ret ?_ | with_reducible refine ws_if ?_ | with_reducible refine ws_nx ?_ | with_reducible refine ws_par ?_ | with_reducible refine ws_for ?_
    | with_reducible refine we_C ?_ | with_reducible refine we_op1 ?_ | with_reducible refine we_op2 ?_ | with_reducible refine we_opN ?_ | with_reducible refine we_lst ?_ | with_reducible refine we_tup ?_ | with_reducible refine we_tupX ?_ | with_reducible refine we_dnew ?_ | with_reducible refine we_disp ?_
    | with_reducible refine we_and ?_ | with_reducible refine we_not ?_ | with_reducible refine we_if ?_ | with_reducible refine we_chain ?_ | with_reducible refine we_call ?_ | with_reducible refine we_comp ?_ | with_reducible refine we_cut ?_
    | with_reducible refine wi_none ?_ | with_reducible refine wi_some ?_ | with_reducible refine wt_tst ?_ | with_reducible refine wt_not ?_ | with_reducible refine wt_and ?_ | with_reducible refine wt_or ?_ | with_reducible refine wt_yes ?_
    | with_reducible refine wa_nil ?_ | with_reducible refine wa_B ?_ | with_reducible refine wa_F ?_ | with_reducible refine wa_R1 ?_ | with_reducible refine wa_lst ?_ | with_reducible refine wa_str ?_ | with_reducible refine wa_zipL ?_
    | with_reducible refine wo_frz ?_ | with_reducible refine wo_frzN ?_ | with_reducible refine wo_sl ?_ | with_reducible refine wo_slN ?_
    | (with_reducible refine kf_nx ?_; try dsimp only [List.set_cons_zero, List.set_cons_succ]) | with_reducible refine kf_rt ?_
    | with_reducible refine kr_nx ?_ | with_reducible refine kr_im ?_ | with_reducible refine kr_nw ?_
    | refine we_br rfl ?_ | refine we_brO rfl ?_ | refine we_var rfl ?_ | refine we_varO rfl ?_ | refine we_mv rfl ?_ | refine we_mvO rfl ?_
    | dsimp only [d_im, d_nw, d_br]
    | with_reducible refine wo_add ?_ | with_reducible refine wo_sub ?_ | with_reducible refine wo_cmp ?_ | with_reducible refine wo_neg ?_ | with_reducible refine wo_len ?_ | with_reducible refine wo_lenT ?_ | with_reducible refine wo_pow rfl ?_ | with_reducible refine wo_mod (by first | decide | omega) ?_ | with_reducible refine wo_div (by first | decide | omega) (by first | decide | omega) ?_ | with_reducible refine wo_min ?_ | with_reducible refine wo_max ?_ | with_reducible refine wo_eqI ?_
    | refine And.intro (fun _ => ?_) (fun q => Bool.noConfusion q) | refine And.intro (fun q => Bool.noConfusion q) (fun _ => ?_)
    | refine And.intro rfl ?_ | refine Exists.intro _ (And.intro rfl ?_) | refine Exists.intro _ (Exists.intro _ (And.intro rfl ?_)))
theorem Ok5.up {S : S5} {n m : Int} (h : Ok5 S n) (e : n ≤ m) : Ok5 S m := ⟨h.lo, Int.le_trans h.hi e⟩
theorem w_ofL {S : S5} {n : Int} {l : List D} {Q : Rv → S5 → Prop} (ok : Ok5 S n) (hn : n < 1000000) (h0 : 0 < l.length) (h1 : l.length ≤ 1000) (h : ∀ d S', d ∈ l → Ok5 S' (n + 1) → Q (.im d) S') : WF m_l_of [.ob 0, .lst l] S Q := by
  refine wf_run ?_
  unfold s_l_of
  repeat infer_instance
  refine w_take ok (by omega) (by omega) (by omega) fun v S1 ok1 a1 b1 => ?_
  repeat infer_instance
  refine wo_ixm a1 b1 fun d hd => ?_
  repeat infer_instance
  exact h d S1 hd ok1
/-! ### things -/
structure Tx (x : Str) : Prop where
  len : x.length ≤ 3
  sg : ∀ c ∈ x.cps.toList, c < 128
inductive Thing : D → Prop
  | str {x : Str} (h : Tx x) : Thing (.str x)
  | int {i : Int} (h : i.natAbs < 10 ^ 12) : Thing (.int i)
  | non : Thing .non
  | tup {x : Str} (h : Tx x) : Thing (.tup false [.str x, .int 3])
  | lst {x : Str} (h : Tx x) : Thing (.lst [.str x])
  | bl : Thing (.bl true)
  | dct {x : Str} (h : Tx x) : Thing (.dct [.inl 1] [.str x])
abbrev lets : Str := "abcdefghij"
theorem lets_lt : ∀ c ∈ lets.cps.toList, c < 128 := by decide +kernel
theorem we_dispK {Sg : Type} {ρ : En} {S : Sg} {Q : Rv → En → Sg → Prop} {ks : List Key} {a : SA Sg} (h : WA a ρ S fun l ρ1 S1 => l.length = ks.length ∧ Q (.nw (.dct ks l)) ρ1 S1) : WE (eDispK ks a) ρ S Q := by
  obtain ⟨r, ρ1, S1, e, hl, q⟩ := h
  exact ⟨_, ρ1, S1, by unfold eDispK; rw [e]; show (if r.length = ks.length then _ else _) = _; rw [if_pos hl], q⟩
theorem w_thing {S : S5} {n : Int} {Q : Rv → S5 → Prop} (ok : Ok5 S n) (hn : n < 900000) (h : ∀ d S', Ok5 S' (n + 4) → Thing d → Q (.im d) S') : WF m_l_thing_by [.ob 0] S Q := by
  refine wf_run' [.im (.ob 0), .non] rfl ?_
  unfold s_l_thing_by
  repeat infer_instance
  refine w_take ok (by omega) (by omega) (by omega) fun v S1 ok1 a1 b1 => ?_
  repeat infer_instance
  refine wo_ixS (x := lets) (by decide +kernel) a1 (by rw [show lets.cps.toList.length = 10 by decide +kernel]; exact b1) fun c hc => ?_
  repeat infer_instance
  refine w_take ok1 (by omega) (by omega) (by omega) fun k S2 ok2 a2 b2 => ?_
  repeat infer_instance
  refine wo_mulS (show (⟨#[c]⟩ : Str).length ≤ 1000 from by show 1 ≤ 1000; omega) a2 (by omega) fun y hy hm => ?_
  have tx : Tx y := ⟨by
    have e : (⟨#[c]⟩ : Str).length = 1 := rfl
    rw [e] at hy
    omega, fun c' hc' => by
    have := hm c' hc'
    cases List.mem_singleton.mp this
    exact lets_lt c hc⟩
  repeat infer_instance
  refine w_take ok2 (by omega) (by omega) (by omega) fun w S3 ok3 a3 b3 => ?_
  repeat infer_instance
  refine we_dispK ?_
  repeat infer_instance
  refine w_ofL ok3 (by omega) (show 0 < 9 by omega) (show 9 ≤ 1000 by omega) fun d S4 hd ok4 => ?_
  repeat infer_instance
  refine h d S4 (ok4.up (by omega)) ?_
  simp only [List.mem_cons, List.not_mem_nil, or_false] at hd
  rcases hd with rfl | rfl | rfl | rfl | rfl | rfl | rfl | rfl | rfl
  · exact .str tx
  · exact .int (by omega)
  · exact .non
  · exact .tup tx
  · exact .lst tx
  · exact .int (by decide)
  · exact .bl
  · exact .dct tx
  · exact .int (by decide)
end K2
end
section
set_option maxHeartbeats 4000000
namespace K2
open PySem PySem.Spec PyProof.Rows L2 Dv
/-! ### what is shown of sixteen things -/
structure Sq (k m : Nat) (p : PyData) : Prop where
  sh : p.showable = true
  lv : p.leavesShort 13 = true
  dp : p.depth ≤ k
  wt : p.weight ≤ m
structure SqA (k m : Nat) (ps : List PyData) : Prop where
  sh : PyData.showableAll ps = true
  lv : PyData.leavesShortAll 13 ps = true
  dp : PyData.depthAll ps ≤ k
  wt : PyData.weightAll ps ≤ m
theorem SqA.nil {k : Nat} : SqA k 0 [] := ⟨rfl, rfl, Nat.zero_le _, Nat.le_refl _⟩
theorem SqA.cons {k m n : Nat} {p : PyData} {ps : List PyData} (h : Sq k m p) (hs : SqA k n ps) : SqA k (m + 1 + n) (p :: ps) := by
  refine ⟨?_, ?_, ?_, ?_⟩
  · show (p.showable && PyData.showableAll ps) = true
    rw [h.sh, hs.sh]; rfl
  · show (p.leavesShort 13 && PyData.leavesShortAll 13 ps) = true
    rw [h.lv, hs.lv]; rfl
  · show max p.depth (PyData.depthAll ps) ≤ k
    exact Nat.max_le.mpr ⟨h.dp, hs.dp⟩
  · show p.weight + 1 + PyData.weightAll ps ≤ _
    have := h.wt
    have := hs.wt
    omega
theorem Sq.mono {k m k' m' : Nat} {p : PyData} (h : Sq k m p) (hk : k ≤ k') (hm : m ≤ m') : Sq k' m' p := ⟨h.sh, h.lv, Nat.le_trans h.dp hk, Nat.le_trans h.wt hm⟩
theorem SqA.list {k m : Nat} {ps : List PyData} (h : SqA k m ps) : Sq (k + 1) m (.list ps) := ⟨h.sh, h.lv, Nat.succ_le_succ h.dp, h.wt⟩
theorem SqA.tuple {k m : Nat} {ps : List PyData} (h : SqA k m ps) : Sq (k + 1) m (.tuple ps) := ⟨h.sh, h.lv, Nat.succ_le_succ h.dp, h.wt⟩
theorem Sq.okR {k m : Nat} {p : PyData} (h : Sq k m p) (hk : k ≤ 60) (hm : m ≤ 1048576) : Dv.okR' p = true := by
  unfold Dv.okR'
  have h1 := PyData.shown_fits (B := 13) (by decide) (by decide) h.lv (by have := h.wt; have e : (2 : Nat) ^ 20 = 1048576 := by decide
                                                                          omega)
  have h2 := h.dp
  simp only [h.sh, Bool.and_eq_true, decide_eq_true_eq, Bool.true_and]
  exact ⟨by omega, h1⟩
theorem Sq.none : Sq 0 0 .none := ⟨rfl, rfl, by decide, by decide⟩
theorem Sq.bool (b : Bool) : Sq 0 0 (.bool b) := ⟨rfl, rfl, Nat.le_refl _, Nat.le_refl _⟩
theorem Sq.int {i : Int} (h : i.natAbs < 10 ^ 12) : Sq 0 40 (.int i) := by
  have := Dv.Shw.int h
  exact ⟨this.sh, this.lv, this.dp, this.wt⟩
theorem Sq.str {x : Str} (h : Tx x) : Sq 0 3 (.str x) := by
  have h1 : x.cps.size ≤ 3 := h.len
  have := Dv.Shw.str (x := x) (n := 3) (List.all_eq_true.mpr fun c hc => decide_eq_true (Nat.lt_trans (h.sg c hc) (by decide))) h1
  exact ⟨this.sh, this.lv, this.dp, this.wt⟩
theorem Sq.dct {x : Str} (h : Tx x) : Sq 1 50 (.dict [(.int 1, .str x)]) := by
  have a := Sq.str h
  have b := Sq.int (i := 1) (by decide)
  refine ⟨?_, ?_, ?_, ?_⟩
  · show (PyData.showable (.int 1) && PyData.showable (.str x) && true) = true
    rw [a.sh, b.sh]; rfl
  · show (PyData.leavesShort 13 (.int 1) && PyData.leavesShort 13 (.str x) && true) = true
    rw [a.lv, b.lv]; rfl
  · show max (max (PyData.depth (.int 1)) (PyData.depth (.str x))) 0 + 1 ≤ 1
    have := a.dp
    have := b.dp
    omega
  · show PyData.weight (.int 1) + PyData.weight (.str x) + 2 + 0 ≤ 50
    have := a.wt
    have := b.wt
    omega
/-! ### a thing, as a slot's, as what two names call -/
def slT : D → Sl
  | .lst l => .ow (.lst l)
  | d => .im d
def cvT (n : Nat) : D → D
  | .lst _ => .ob n
  | d => d
def lsT : D → Option (List Str)
  | .lst [.str x] => some [x]
  | _ => none
/-- .. behind the law's change -/
def lsT' : D → Option (List Str)
  | .lst [.str x] => some [x, "more"]
  | _ => none
theorem new_thing {d : D} (h : Thing d) : ∃ r, newR (.im d) = some r ∧ slOf r = some (slT d) := by
  cases h <;> exact ⟨_, rfl, rfl⟩
theorem off_thing {d : D} (h : Thing d) {n : Nat} (hn : n ≠ 0) : offSl (.im (cvT n d)) = .non := by
  cases h with
  | lst => cases n with
    | zero => exact absurd rfl hn
    | succ n => rfl
  | _ => rfl
theorem cv_thing {d : D} (h : Thing d) (n : Nat) : cvSl (some n) (slT d) = .im (cvT n d) := by
  cases h <;> rfl
theorem st_thing {d : D} (h : Thing d) {ρ : En} {i : Nat} (e : ρ[i]? = some (slT d)) : stL ρ i = some (lsT d) := by
  unfold stL
  rw [e]
  cases h <;> rfl
theorem more_tx : Sq 0 4 (.str ("more" : Str)) := by
  have := Dv.Shw.str (x := "more") (n := 4) (by decide +kernel) (by decide +kernel)
  exact ⟨this.sh, this.lv, this.dp, this.wt⟩
/-- what is shown of the first, ahead of the change and behind it; of the second -/
theorem py1 {d : D} (h : Thing d) (l2 : Option (List Str)) : ∃ p, toPyA (lsT d) l2 (cvT 1 d) = some p ∧ Sq 1 50 p := by
  cases h with
  | str h => exact ⟨_, rfl, (Sq.str h).mono (by decide) (by decide)⟩
  | int h => exact ⟨_, rfl, (Sq.int h).mono (by decide) (by decide)⟩
  | non => exact ⟨_, rfl, Sq.none.mono (by decide) (by decide)⟩
  | tup h => exact ⟨_, rfl, (SqA.cons ((Sq.str h).mono (Nat.le_refl _) (by decide : 3 ≤ 4)) (SqA.cons (Sq.int (by decide)) SqA.nil)).tuple.mono (by decide) (by decide)⟩
  | lst h => exact ⟨_, rfl, (SqA.cons (Sq.str h) SqA.nil).list.mono (by decide) (by decide)⟩
  | bl => exact ⟨_, rfl, (Sq.bool true).mono (by decide) (by decide)⟩
  | dct h => exact ⟨_, rfl, Sq.dct h⟩
theorem py1' {d : D} (h : Thing d) (l2 : Option (List Str)) : ∃ p, toPyA (lsT' d) l2 (cvT 1 d) = some p ∧ Sq 1 50 p := by
  cases h with
  | str h => exact ⟨_, rfl, (Sq.str h).mono (by decide) (by decide)⟩
  | int h => exact ⟨_, rfl, (Sq.int h).mono (by decide) (by decide)⟩
  | non => exact ⟨_, rfl, Sq.none.mono (by decide) (by decide)⟩
  | tup h => exact ⟨_, rfl, (SqA.cons ((Sq.str h).mono (Nat.le_refl _) (by decide : 3 ≤ 4)) (SqA.cons (Sq.int (by decide)) SqA.nil)).tuple.mono (by decide) (by decide)⟩
  | lst h => exact ⟨_, rfl, (SqA.cons (Sq.str h) (SqA.cons more_tx SqA.nil)).list.mono (by decide) (by decide)⟩
  | bl => exact ⟨_, rfl, (Sq.bool true).mono (by decide) (by decide)⟩
  | dct h => exact ⟨_, rfl, Sq.dct h⟩
theorem py2 {d : D} (h : Thing d) (l1 : Option (List Str)) : ∃ p, toPyA l1 (lsT d) (cvT 2 d) = some p ∧ Sq 1 50 p := by
  cases h with
  | str h => exact ⟨_, rfl, (Sq.str h).mono (by decide) (by decide)⟩
  | int h => exact ⟨_, rfl, (Sq.int h).mono (by decide) (by decide)⟩
  | non => exact ⟨_, rfl, Sq.none.mono (by decide) (by decide)⟩
  | tup h => exact ⟨_, rfl, (SqA.cons ((Sq.str h).mono (Nat.le_refl _) (by decide : 3 ≤ 4)) (SqA.cons (Sq.int (by decide)) SqA.nil)).tuple.mono (by decide) (by decide)⟩
  | lst h => exact ⟨_, rfl, (SqA.cons (Sq.str h) SqA.nil).list.mono (by decide) (by decide)⟩
  | bl => exact ⟨_, rfl, (Sq.bool true).mono (by decide) (by decide)⟩
  | dct h => exact ⟨_, rfl, Sq.dct h⟩
def duePy (p q : PyData) : List PyData := [p, p, p, p, p, p, p, p, q, p, p, p, p, p, p, p]
theorem due_py {l1 l2 : Option (List Str)} {a b : D} {p q : PyData} (h1 : toPyA l1 l2 a = some p) (h2 : toPyA l1 l2 b = some q) : toPysA l1 l2 (dueD a b) = some (duePy p q) := by
  unfold dueD duePy
  simp only [toPysA, h1, h2, Option.bind_some]
theorem due_ok {p q : PyData} (hp : Sq 1 50 p) (hq : Sq 1 50 q) : okR' (.list (duePy p q)) = true :=
  (SqA.cons hp (SqA.cons hp (SqA.cons hp (SqA.cons hp (SqA.cons hp (SqA.cons hp (SqA.cons hp (SqA.cons hp (SqA.cons hq (SqA.cons hp (SqA.cons hp (SqA.cons hp (SqA.cons hp (SqA.cons hp (SqA.cons hp (SqA.cons hp SqA.nil)))))))))))))))).list.okR (by decide) (by decide)
end K2
end
section
set_option maxHeartbeats 4000000
namespace K2
open PySem PySem.Spec PyProof.Rows L2 Dv
abbrev s1of : List D → List D → List D := fun ds es => sel [0] (ds ++ es)
abbrev s2of : List D → List D → List D := fun ds es => sel [0, 1] (ds ++ es)
def A1 : SS (S2L S5) := sSet 5 (eCall 2 0 s2of m_l_lines (aF (eVar 3) (aF (eVar 4) aNil)) aNil)
def A2 : SS (S2L S5) := sFor (iLst (eOp2 opAdd (eBr 5) (eCall 2 0 s2of m_l_lines (aF (eVar 4) (aF (eVar 3) aNil)) aNil))) (tdTup (tdCons (tdN 6) (tdCons (tdN 7) (tdCons (tdN 8) tdNil)))) (sIf ((tOr' (tst (eOp2 (eqD true) (eCall 1 0 s1of m_l_words (aF (eVar 6) aNil) aNil) (eLst (aF (eVar 7) aNil)))) (tOr' (tst (eOp2 (eqD true) (eCall 1 0 s1of m_l_kinds (aF (eVar 6) aNil) aNil) (eBr 8))) (tNot' (tst (eOp1 (opIsE (tbl "Exception")) (eBr 6))))))) (sRet (eC (.bl false))) sNx)
def A3 : SS (S2L S5) := sPar 9 10 (aF (eComp (iLst (eVar 5)) (tdN 11) cYes (eOp2 opIx (eBr 11) (eC (.int 0))) [11]) (aF (eOp2 opAdd (eOp2 opAdd (eOp2 opMulX (eLst (aF (eVar 3) aNil)) (eC (.int 8))) (eLst (aF (eVar 4) aNil))) (eOp2 opMulX (eLst (aF (eVar 3) aNil)) (eC (.int 7)))) aNil))
def F4 : SE (S2L S5) := eCall 1 0 s1of m_l_fields (aF (eVar 9) aNil) aNil
def A4 : SS (S2L S5) := sIf (tst (eOp2 (eqD true) (eReprA F4) (eReprA (eBr 10)))) (sRet (eC (.bl false))) sNx
def A5 : SS (S2L S5) := sIf (tst (eIsLA (eBr 3))) (sAppA 3 "more") sNx
def F6 : SE (S2L S5) := eCall 1 0 s1of m_l_fields (aF (eComp (iLst (eCall 2 0 s2of m_l_lines (aF (eVar 3) (aF (eVar 4) aNil)) aNil)) (tdN 11) cYes (eOp2 opIx (eBr 11) (eC (.int 0))) [11]) aNil) aNil
def A6 : SS (S2L S5) := sIf (tst (eOp2 (eqD true) (eReprA F6) (eReprA (eBr 10)))) (sRet (eC (.bl false))) sNx
def F2 : SS (S2L S5) := sSeq A1 (sSeq A2 (sSeq A3 (sSeq A4 (sSeq A5 (sSeq A4 A6)))))
def Th : SE S5 := eCallN 1 0 s1of m_l_thing_by (aF (eVar 1) aNil) aNil
def TB : SS S5 := sSeq (sParO 3 4 Th Th) (sSw 3 4 F2)
theorem s_law_eq : s_law = sSeq (sFor (iR1 (aB (eOp2 opAdd (eC (.int 2)) (eOpN opMin (aB (eC (.int 38)) (aB (eOpN opLen (aB (eBr 0) aNil)) aNil)))) aNil)) (tdN 2) TB) (sRet (eC (.bl true))) := by kernel_rfl
abbrev R0 (s0 s2 : Sl) (a b : D) : En := [s0, .im (.ob 0), s2, .im a, .im b, .non, .non, .non, .non, .non, .non, .non]
abbrev R1 (s0 s2 : Sl) (a b : D) : En := [s0, .im (.ob 0), s2, .im a, .im b, .ow (.lst (linesD a b)), .non, .non, .non, .non, .non, .non]
abbrev R2 (s0 s2 : Sl) (a b : D) : En := [s0, .im (.ob 0), s2, .im a, .im b, .ow (.lst (linesD a b)), .im (.exc "BadNumber" ["about"] [b]), .im (.str "number"), .im (.lst [.str "lookup", .str "index"]), .non, .non, .non]
abbrev R3 (s0 s2 : Sl) (a b : D) : En := [s0, .im (.ob 0), s2, .im a, .im b, .im (.lst (linesD a b)), .im (.exc "BadNumber" ["about"] [b]), .im (.str "number"), .im (.lst [.str "lookup", .str "index"]), .im (.lst (builtD a b)), .im (.lst (dueD a b)), .non]
section
variable {s0 s2 : Sl} {a b : D} {S : S2L S5}
theorem a1_eq : A1 (R0 s0 s2 a b) S = some (.nx, R1 s0 s2 a b, S) := by kernel_rfl
theorem a2_eq : A2 (R1 s0 s2 a b) S = some (.nx, R2 s0 s2 a b, S) := by kernel_rfl
theorem a3_eq : A3 (R2 s0 s2 a b) S = some (.nx, R3 s0 s2 a b, S) := by kernel_rfl
theorem f4_eq : F4 (R3 s0 s2 a b) S = some (.nw (.lst (dueD a b)), R3 s0 s2 a b, S) := by kernel_rfl
theorem f6_eq : F6 (R3 s0 s2 a b) S = some (.nw (.lst (dueD a b)), R3 s0 s2 a b, S) := by kernel_rfl
theorem b10_eq : eBr 10 (R3 s0 s2 a b) S = some (.im (.lst (dueD a b)), R3 s0 s2 a b, S) := by kernel_rfl
end
section
variable {Sg : Type} {ρ ρ1 ρ2 : En}
theorem reprA_eq {f : SE (S2L Sg)} {S S1 : S2L Sg} {r : Rv} {l : List D} {ps : List PyData} (e : f ρ S = some (r, ρ1, S1)) (hd : r.d = .lst l) (hp : toPysA S1.2.1 S1.2.2 l = some ps) (ok : okR' (.list ps) = true) : eReprA f ρ S = some (.im (.str (PyData.shown (.list ps))), ρ1, S1) := by
  unfold eReprA
  rw [e]
  show (match r.d with | .lst l => _ | _ => none) = _
  rw [hd]
  show ((toPysA S1.2.1 S1.2.2 l).bind fun ps => if okR' (.list ps) = true then some (Rv.im (.str (PyData.shown (.list ps))), (ρ1, S1)) else none) = _
  rw [hp]
  show (if okR' (.list ps) = true then _ else _) = _
  rw [if_pos ok]
theorem tst_same {S S1 S2 : Sg} {f g : SE Sg} {x : Str} (e1 : f ρ S = some (.im (.str x), ρ1, S1)) (e2 : g ρ1 S1 = some (.im (.str x), ρ2, S2)) : tst (eOp2 (eqD true) f g) ρ S = some (false, ρ2, S2) := by
  have e : eOp2 (eqD true) f g ρ S = some (.im (.bl false), ρ2, S2) := by
    unfold eOp2
    rw [e1]
    show (g ρ1 S1).bind _ = _
    rw [e2]
    show some (Rv.im (.bl (xor true (decide (x = x)))), ρ2, S2) = _
    rw [decide_eq_true rfl]
    rfl
  unfold tst
  rw [e]
  rfl
theorem if_no {S S1 : Sg} {t : ST Sg} {f : SS Sg} (e : t ρ S = some (false, ρ1, S1)) : sIf t f sNx ρ S = some (.nx, ρ1, S1) := by
  unfold sIf
  rw [e]
  rfl
theorem seq_go {S S1 : Sg} {f g : SS Sg} (e : f ρ S = some (.nx, ρ1, S1)) : sSeq f g ρ S = g ρ1 S1 := by
  unfold sSeq
  rw [e]
  rfl
end
theorem a4_eq {s0 s2 : Sl} {a b : D} {S : S2L S5} {ps : List PyData} (hp : toPysA S.2.1 S.2.2 (dueD a b) = some ps) (ok : okR' (.list ps) = true) : A4 (R3 s0 s2 a b) S = some (.nx, R3 s0 s2 a b, S) :=
  if_no (tst_same (reprA_eq f4_eq rfl hp ok) (reprA_eq b10_eq rfl hp ok))
theorem a6_eq {s0 s2 : Sl} {a b : D} {S : S2L S5} {ps : List PyData} (hp : toPysA S.2.1 S.2.2 (dueD a b) = some ps) (ok : okR' (.list ps) = true) : A6 (R3 s0 s2 a b) S = some (.nx, R3 s0 s2 a b, S) :=
  if_no (tst_same (reprA_eq f6_eq rfl hp ok) (reprA_eq b10_eq rfl hp ok))
theorem a5_eq {s0 s2 : Sl} {d b : D} {S : S5} {l2 : Option (List Str)} (h : Thing d) : A5 (R3 s0 s2 (cvT 1 d) b) (S, lsT d, l2) = some (.nx, R3 s0 s2 (cvT 1 d) b, (S, lsT' d, l2)) := by
  cases h <;> kernel_rfl
theorem f2_eq {s0 s2 : Sl} {d e : D} {S : S5} (h : Thing d) (h' : Thing e) : F2 (R0 s0 s2 (cvT 1 d) (cvT 2 e)) (S, lsT d, lsT e) = some (.nx, R3 s0 s2 (cvT 1 d) (cvT 2 e), (S, lsT' d, lsT e)) := by
  obtain ⟨p, p1, p2⟩ := py1 h (lsT e)
  obtain ⟨q, q1, q2⟩ := py2 h' (lsT d)
  obtain ⟨p', p3, p4⟩ := py1' h (lsT e)
  obtain ⟨q', q3, q4⟩ := py2 h' (lsT' d)
  unfold F2
  rw [seq_go a1_eq, seq_go a2_eq, seq_go a3_eq, seq_go (a4_eq (due_py p1 q1) (due_ok p2 q2)), seq_go (a5_eq h), seq_go (a4_eq (due_py p3 q3) (due_ok p4 q4))]
  exact a6_eq (due_py p3 q3) (due_ok p4 q4)
end K2
end
section
set_option maxHeartbeats 4000000
namespace K2
open PySem PySem.Spec PyProof.Rows L2 Dv
theorem th_eq {ρ : En} {S S1 : S5} {d : D} {r : Rv} (e : ρ[1]? = some (.im (.ob 0))) (hm : m_l_thing_by [.ob 0] S = some (.im d, S1)) (hr : newR (.im d) = some r) : Th ρ S = some (r, ρ, S1) := by
  unfold Th
  generalize m_l_thing_by = M at hm
  simp only [eCallN, aF, eVar, e, frz, aNil, Option.bind_some, sel, puresD, pureD, List.length_cons, List.length_nil]
  rw [if_pos (by decide)]
  show (M [.ob 0] S).bind _ = _
  rw [hm]
  show (newR (.im d)).bind _ = _
  rw [hr]
  rfl
abbrev Rn (s0 : Sl) : En := [s0, .im (.ob 0), .non, .non, .non, .non, .non, .non, .non, .non, .non, .non]
abbrev Rt (s0 : Sl) (t : Int) : En := [s0, .im (.ob 0), .im (.int t), .non, .non, .non, .non, .non, .non, .non, .non, .non]
abbrev Rd' (s0 : Sl) (t : Int) (x y : Sl) : En := [s0, .im (.ob 0), .im (.int t), x, y, .non, .non, .non, .non, .non, .non, .non]
theorem sw_eq {s0 : Sl} {t : Int} {d e : D} {S : S5} (h : Thing d) (h' : Thing e) : sSw 3 4 F2 (Rd' s0 t (slT d) (slT e)) S = some (.nx, Rn (offSl (cvSl none s0)), S) := by
  unfold sSw
  rw [st_thing (i := 3) h rfl, st_thing (i := 4) h' rfl]
  have e1 : cvE 3 4 (Rd' s0 t (slT d) (slT e)) = R0 (cvSl none s0) (.im (.int t)) (cvT 1 d) (cvT 2 e) := by
    show [cvSl none s0, .im (.ob 0), .im (.int t), cvSl (some 1) (slT d), cvSl (some 2) (slT e), .non, .non, .non, .non, .non, .non, .non] = _
    rw [cv_thing h, cv_thing h']
  show (F2 (cvE 3 4 _) (S, lsT d, lsT e)).bind _ = _
  rw [e1, f2_eq h h']
  show some (Ct.nx, [offSl (cvSl none s0), .im (.ob 0), .non, offSl (.im (cvT 1 d)), offSl (.im (cvT 2 e)), .non, .non, .non, .non, .non, .non, .non], S) = _
  rw [off_thing h (by decide), off_thing h' (by decide)]
theorem w_turn {s0 : Sl} {t : Int} {S : S5} {n : Int} {Q : Ct → En → S5 → Prop} (ok : Ok5 S n) (hn : n < 800000) (h : ∀ S', Ok5 S' (n + 8) → Q .nx (Rn (offSl (cvSl none s0))) S') : WS (sBody (tdN 2) TB (.int t)) (Rn s0) S Q := by
  refine wl_body (ρ1 := Rt s0 t) rfl ?_
  obtain ⟨⟨r1, S1, e1, d, h1, h2, h3⟩⟩ := w_thing (Q := fun r S' => ∃ d, r = .im d ∧ Ok5 S' (n + 4) ∧ Thing d) ok (by omega) fun d S' o th => ⟨d, rfl, o, th⟩
  subst h1
  obtain ⟨⟨r2, S2, e2, d', h4, h5, h6⟩⟩ := w_thing (Q := fun r S' => ∃ d, r = .im d ∧ Ok5 S' (n + 4 + 4) ∧ Thing d) h2 (by omega) fun d S' o th => ⟨d, rfl, o, th⟩
  subst h4
  obtain ⟨r1, a1, b1⟩ := new_thing h3
  obtain ⟨r2, a2, b2⟩ := new_thing h6
  have t1 := th_eq (ρ := Rt s0 t) rfl e1 a1
  have t2 := th_eq (ρ := Rt s0 t) rfl e2 a2
  have e3 : sParO 3 4 Th Th (Rt s0 t) S = some (.nx, Rd' s0 t (slT d) (slT d'), S2) := by
    unfold sParO
    rw [t1]
    show (Th (Rt s0 t) S1).bind _ = _
    rw [t2]
    show ((slOf r1).bind fun s1 => (slOf r2).bind fun s2 => if 3 < 12 ∧ 4 < 12 then some (Ct.nx, ((Rt s0 t).set 3 s1).set 4 s2, S2) else none) = _
    rw [b1, b2]
    rfl
  refine ⟨⟨.nx, Rn (offSl (cvSl none s0)), S2, ?_, h S2 (h5.up (by omega))⟩⟩
  unfold TB
  rw [seq_go e3]
  exact sw_eq h3 h6
theorem good : Good := by
  intro ns hl
  have key : WS s_law (en0 ns) (st0 ns) fun c _ _ => c = .rt (.im (.bl true)) := by
    rw [s_law_eq]
    refine ws_seq (ws_for ?_)
    have ht : (if ((ns.length : Int)) < 38 then (ns.length : Int) else 38) ≤ 38 ∧ 0 ≤ (if ((ns.length : Int)) < 38 then (ns.length : Int) else 38) := by
      split <;> omega
    generalize hk : (if ((ns.length : Int)) < 38 then (ns.length : Int) else 38) = m at ht
    refine ⟨⟨rangeD 0 (2 + m).toNat, en0 ns, st0 ns, ?_, ?_⟩⟩
    · show (if -(2 ^ 62) ≤ (2 + (if ((ns.length : Int)) < 38 then (ns.length : Int) else 38)) ∧ (2 + (if ((ns.length : Int)) < 38 then (ns.length : Int) else 38)) < 2 ^ 62 then some (rangeD 0 (2 + (if ((ns.length : Int)) < 38 then (ns.length : Int) else 38)).toNat, en0 ns, st0 ns) else none) = _
      rw [hk, if_pos (by omega)]
    refine wl_inv (fun l ρ S => (∀ d ∈ l, ∃ t, d = .int t) ∧ l.length ≤ 40 ∧ (∃ s0, ρ = Rn s0) ∧ Ok5 S (8 * (40 - l.length : Nat))) (fun d l ρ S hJ => ?_) (fun ρ S hJ => ?_) ⟨fun d hd => ?_, ?_, ⟨_, rfl⟩, ?_⟩
    · obtain ⟨h1, h2, ⟨s0, rfl⟩, h4⟩ := hJ
      obtain ⟨t, rfl⟩ := h1 d List.mem_cons_self
      rw [List.length_cons] at h2 h4
      refine w_turn h4 (by omega) fun S' o => kf_nx ⟨fun x hx => h1 x (List.mem_cons_of_mem _ hx), by omega, ⟨_, rfl⟩, o.up (by omega)⟩
    · exact ⟨⟨_, _, _, rfl, rfl⟩⟩
    · unfold rangeD at hd
      obtain ⟨i, _, rfl⟩ := List.mem_map.mp hd
      exact ⟨_, rfl⟩
    · unfold rangeD
      rw [List.length_map, List.length_range]
      omega
    · exact ⟨(show (0 : Int) ≤ 0 by decide), (show (0 : Int) ≤ _ by omega)⟩
  obtain ⟨⟨c, ρ, S, e, h⟩⟩ := key
  subst h
  exact ⟨ρ, S, e⟩
end K2
end
section
set_option maxHeartbeats 0
namespace K2
open PySem PySem.Spec PyProof.Rows L2 Dv
def dd_l_mixed : He.DefD := ⟨("_law_mixed", none), "_law_mixed", "_law_mixed", defArgs st_l_mixed, defBody st_l_mixed, defScope st_l_mixed, [], []⟩
def dd_l_take : He.DefD := ⟨("_law_take", none), "_law_take", "_law_take", defArgs st_l_take, defBody st_l_take, defScope st_l_take, [], []⟩
def dd_l_of : He.DefD := ⟨("_law_of", none), "_law_of", "_law_of", defArgs st_l_of, defBody st_l_of, defScope st_l_of, [], []⟩
def dd_l_words : He.DefD := ⟨("_law_words", none), "_law_words", "_law_words", defArgs st_l_words, defBody st_l_words, defScope st_l_words, [], []⟩
def dd_l_kinds : He.DefD := ⟨("_law_kinds", none), "_law_kinds", "_law_kinds", defArgs st_l_kinds, defBody st_l_kinds, defScope st_l_kinds, [], []⟩
def dd_l_thing_by : He.DefD := ⟨("_law_thing_by", none), "_law_thing_by", "_law_thing_by", defArgs st_l_thing_by, defBody st_l_thing_by, defScope st_l_thing_by, [], []⟩
def dd_l_lines : He.DefD := ⟨("_law_lines", none), "_law_lines", "_law_lines", defArgs st_l_lines, defBody st_l_lines, defScope st_l_lines, [], []⟩
def dd_l_fields : He.DefD := ⟨("_law_fields", none), "_law_fields", "_law_fields", defArgs st_l_fields, defBody st_l_fields, defScope st_l_fields, [], []⟩
def dd_law : He.DefD := ⟨("law", none), "law", "law", defArgs st_law, defBody st_law, defScope st_law, [], []⟩
def dd_init_BadProgram : He.DefD := ⟨("BadProgram", some "__init__"), "__init__", "BadProgram.__init__", defArgs st_init_BadProgram, defBody st_init_BadProgram, defScope st_init_BadProgram, [], []⟩
def dd_init_BadSizes : He.DefD := ⟨("BadSizes", some "__init__"), "__init__", "BadSizes.__init__", defArgs st_init_BadSizes, defBody st_init_BadSizes, defScope st_init_BadSizes, [], []⟩
def dd_init_BadGiven : He.DefD := ⟨("BadGiven", some "__init__"), "__init__", "BadGiven.__init__", defArgs st_init_BadGiven, defBody st_init_BadGiven, defScope st_init_BadGiven, [], []⟩
def dd_init_BadTurn : He.DefD := ⟨("BadTurn", some "__init__"), "__init__", "BadTurn.__init__", defArgs st_init_BadTurn, defBody st_init_BadTurn, defScope st_init_BadTurn, [], []⟩
def dd_init_BadPlan : He.DefD := ⟨("BadPlan", some "__init__"), "__init__", "BadPlan.__init__", defArgs st_init_BadPlan, defBody st_init_BadPlan, defScope st_init_BadPlan, [], []⟩
def dd_init_BadKernel : He.DefD := ⟨("BadKernel", some "__init__"), "__init__", "BadKernel.__init__", defArgs st_init_BadKernel, defBody st_init_BadKernel, defScope st_init_BadKernel, [], []⟩
def dd_init_BadPaper : He.DefD := ⟨("BadPaper", some "__init__"), "__init__", "BadPaper.__init__", defArgs st_init_BadPaper, defBody st_init_BadPaper, defScope st_init_BadPaper, [], []⟩
def dd_init_BadLine : He.DefD := ⟨("BadLine", some "__init__"), "__init__", "BadLine.__init__", defArgs st_init_BadLine, defBody st_init_BadLine, defScope st_init_BadLine, [], []⟩
def dd_init_BadSchedule : He.DefD := ⟨("BadSchedule", some "__init__"), "__init__", "BadSchedule.__init__", defArgs st_init_BadSchedule, defBody st_init_BadSchedule, defScope st_init_BadSchedule, [], []⟩
def dd_init_NoSuch : He.DefD := ⟨("NoSuch", some "__init__"), "__init__", "NoSuch.__init__", defArgs st_init_NoSuch, defBody st_init_NoSuch, defScope st_init_NoSuch, [], []⟩
def dd_init_Unsafe : He.DefD := ⟨("Unsafe", some "__init__"), "__init__", "Unsafe.__init__", defArgs st_init_Unsafe, defBody st_init_Unsafe, defScope st_init_Unsafe, [], []⟩
def dd_init_Unfit : He.DefD := ⟨("Unfit", some "__init__"), "__init__", "Unfit.__init__", defArgs st_init_Unfit, defBody st_init_Unfit, defScope st_init_Unfit, [], []⟩
def dd_init_Full : He.DefD := ⟨("Full", some "__init__"), "__init__", "Full.__init__", defArgs st_init_Full, defBody st_init_Full, defScope st_init_Full, [], []⟩
def dd_init_BadKind : He.DefD := ⟨("BadKind", some "__init__"), "__init__", "BadKind.__init__", defArgs st_init_BadKind, defBody st_init_BadKind, defScope st_init_BadKind, [], []⟩
def dd_init_BadNumber : He.DefD := ⟨("BadNumber", some "__init__"), "__init__", "BadNumber.__init__", defArgs st_init_BadNumber, defBody st_init_BadNumber, defScope st_init_BadNumber, [], []⟩
def fnl : List He.DefD := [dd_l_mixed, dd_l_take, dd_l_of, dd_l_words, dd_l_kinds, dd_l_thing_by, dd_l_lines, dd_l_fields, dd_law, dd_init_BadProgram, dd_init_BadSizes, dd_init_BadGiven, dd_init_BadTurn, dd_init_BadPlan, dd_init_BadKernel, dd_init_BadPaper, dd_init_BadLine, dd_init_BadSchedule, dd_init_NoSuch, dd_init_Unsafe, dd_init_Unfit, dd_init_Full, dd_init_BadKind, dd_init_BadNumber]
def fal : List He.Fa := [.glo "_law_mixed", .glo "_law_take", .glo "_law_of", .glo "_law_words", .glo "_law_kinds", .glo "_law_thing_by", .glo "_law_lines", .glo "_law_fields", .glo "law", .free "ArithmeticError", .free "Exception", .free "IndexError", .free "KeyError", .free "LookupError", .free "OverflowError", .free "RuntimeError", .free "TypeError", .free "ValueError", .free "ZeroDivisionError", .free "isinstance", .free "len", .free "list", .free "min", .free "range", .free "repr", .free "zip", .glo "BadGiven", .glo "BadKernel", .glo "BadKind", .glo "BadLine", .glo "BadNumber", .glo "BadPaper", .glo "BadPlan", .glo "BadProgram", .glo "BadSchedule", .glo "BadSizes", .glo "BadTurn", .glo "Cant", .glo "Full", .glo "Gone", .glo "Lack", .glo "LaneError", .glo "NoSuch", .glo "Unfit", .glo "Unsafe"]
def ch_x_BadProgram (K : PySem.W.Frag) : Bool := He.xcB K (He.ga K "BadProgram") "ValueError.__new__" PySem.HandSPX.veTail
def ch_i_BadProgram (K : PySem.W.Frag) : Bool := He.xiB K (He.ga K "BadProgram") "place"
def ch_x_BadSizes (K : PySem.W.Frag) : Bool := He.xcB K (He.ga K "BadSizes") "ValueError.__new__" PySem.HandSPX.veTail
def ch_i_BadSizes (K : PySem.W.Frag) : Bool := He.xiB K (He.ga K "BadSizes") "about"
def ch_x_BadGiven (K : PySem.W.Frag) : Bool := He.xcB K (He.ga K "BadGiven") "ValueError.__new__" PySem.HandSPX.veTail
def ch_i_BadGiven (K : PySem.W.Frag) : Bool := He.xiB K (He.ga K "BadGiven") "about"
def ch_x_BadTurn (K : PySem.W.Frag) : Bool := He.xcB K (He.ga K "BadTurn") "ValueError.__new__" PySem.HandSPX.veTail
def ch_i_BadTurn (K : PySem.W.Frag) : Bool := He.xiB K (He.ga K "BadTurn") "about"
def ch_x_BadPlan (K : PySem.W.Frag) : Bool := He.xcB K (He.ga K "BadPlan") "ValueError.__new__" PySem.HandSPX.veTail
def ch_i_BadPlan (K : PySem.W.Frag) : Bool := He.xiB K (He.ga K "BadPlan") "about"
def ch_x_BadKernel (K : PySem.W.Frag) : Bool := He.xcB K (He.ga K "BadKernel") "ValueError.__new__" PySem.HandSPX.veTail
def ch_i_BadKernel (K : PySem.W.Frag) : Bool := He.xiB K (He.ga K "BadKernel") "place"
def ch_x_BadPaper (K : PySem.W.Frag) : Bool := He.xcB K (He.ga K "BadPaper") "ValueError.__new__" PySem.HandSPX.veTail
def ch_i_BadPaper (K : PySem.W.Frag) : Bool := He.xiB K (He.ga K "BadPaper") "about"
def ch_x_BadLine (K : PySem.W.Frag) : Bool := He.xcB K (He.ga K "BadLine") "ValueError.__new__" PySem.HandSPX.veTail
def ch_i_BadLine (K : PySem.W.Frag) : Bool := He.xiB K (He.ga K "BadLine") "row"
def ch_x_BadSchedule (K : PySem.W.Frag) : Bool := He.xcB K (He.ga K "BadSchedule") "ValueError.__new__" PySem.HandSPX.veTail
def ch_i_BadSchedule (K : PySem.W.Frag) : Bool := He.xiB K (He.ga K "BadSchedule") "about"
def ch_x_NoSuch (K : PySem.W.Frag) : Bool := He.xcB K (He.ga K "NoSuch") "LookupError.__new__" tlLE
def ch_i_NoSuch (K : PySem.W.Frag) : Bool := He.xiB K (He.ga K "NoSuch") "name"
def ch_x_Unsafe (K : PySem.W.Frag) : Bool := He.xcB K (He.ga K "Unsafe") "RuntimeError.__new__" tlRE
def ch_i_Unsafe (K : PySem.W.Frag) : Bool := He.xiB K (He.ga K "Unsafe") "meeting"
def ch_x_Unfit (K : PySem.W.Frag) : Bool := He.xcB K (He.ga K "Unfit") "RuntimeError.__new__" tlRE
def ch_i_Unfit (K : PySem.W.Frag) : Bool := He.xiB K (He.ga K "Unfit") "about"
def ch_x_Full (K : PySem.W.Frag) : Bool := He.xcB K (He.ga K "Full") "RuntimeError.__new__" tlRE
def ch_i_Full (K : PySem.W.Frag) : Bool := He.xiB K (He.ga K "Full") "most"
def ch_x_BadKind (K : PySem.W.Frag) : Bool := He.xcB K (He.ga K "BadKind") "TypeError.__new__" tlTE
def ch_i_BadKind (K : PySem.W.Frag) : Bool := He.xiB K (He.ga K "BadKind") "wanted"
def ch_x_BadNumber (K : PySem.W.Frag) : Bool := He.xcB K (He.ga K "BadNumber") "IndexError.__new__" tlIE
def ch_i_BadNumber (K : PySem.W.Frag) : Bool := He.xiB K (He.ga K "BadNumber") "about"
def ch_l_Cant (K : PySem.W.Frag) : Bool := He.xlB K (He.ga K "Cant") "RuntimeError.__init__"
def ch_l_Lack (K : PySem.W.Frag) : Bool := He.xlB K (He.ga K "Lack") "LookupError.__init__"
def ch_l_LaneError (K : PySem.W.Frag) : Bool := He.xlB K (He.ga K "LaneError") "ValueError.__init__"
def ch_v_IndexError (K : PySem.W.Frag) : Bool := He.xvB K "IndexError" "IndexError.__init__"
def ch_v_TypeError (K : PySem.W.Frag) : Bool := He.xvB K "TypeError" "TypeError.__init__"
def ch_xg (K : PySem.W.Frag) : Bool := PySem.W.excIn K (He.ga K "Gone") tlLE "LookupError.__new__"
def ch_kg (K : PySem.W.Frag) : Bool := PySem.W.keepIn K (.ref (He.ga K "Gone"))
def ch_sm (K : PySem.W.Frag) : Bool := (K.lookup sysModules).isSome
def ch_xq (K : PySem.W.Frag) : Bool := clsL.all fun c => He.xqB K (He.ga K c)
def ch_ko (K : PySem.W.Frag) : Bool := clsL.all fun c => ownL.all fun t => decide (PySem.W.kitOne K (.ref (He.ga K c)) (.ref (He.ga K t)) = some (isA c t))
def ch_kb (K : PySem.W.Frag) : Bool := clsL.all fun c => bltL.all fun t => decide (PySem.W.kitOne K (.ref (He.ga K c)) (.type t.2) = some (isA c t.1))
def ch_ff (K : PySem.W.Frag) : Bool := flds.all fun p => He.eqO (PySem.W.findIn K (.ref (He.ga K p.1)) p.2) (some none)
def exB (K : PySem.W.Frag) : Bool := ch_x_BadProgram K && (ch_i_BadProgram K && (ch_x_BadSizes K && (ch_i_BadSizes K && (ch_x_BadGiven K && (ch_i_BadGiven K && (ch_x_BadTurn K && (ch_i_BadTurn K && (ch_x_BadPlan K && (ch_i_BadPlan K && (ch_x_BadKernel K && (ch_i_BadKernel K && (ch_x_BadPaper K && (ch_i_BadPaper K && (ch_x_BadLine K && (ch_i_BadLine K && (ch_x_BadSchedule K && (ch_i_BadSchedule K && (ch_x_NoSuch K && (ch_i_NoSuch K && (ch_x_Unsafe K && (ch_i_Unsafe K && (ch_x_Unfit K && (ch_i_Unfit K && (ch_x_Full K && (ch_i_Full K && (ch_x_BadKind K && (ch_i_BadKind K && (ch_x_BadNumber K && (ch_i_BadNumber K && (ch_l_Cant K && (ch_l_Lack K && (ch_l_LaneError K && (ch_v_IndexError K && (ch_v_TypeError K && (ch_xg K && (ch_kg K && (ch_sm K && (ch_xq K && (ch_ko K && (ch_kb K && (ch_ff K)))))))))))))))))))))))))))))))))))))))))
abbrev Rw : PySem.W.OpenRow := PySem.W.OpenLaw.row PySem.Challenge.rw_lanewright_k02_families_of_refusals
abbrev hook : PySem.W.Hook := He.hookZ 6 fal fnl exB
def seen (s : PySem.W.SharedT) : He.AlD × Bool := He.obsZ 6 fal fnl exB (HandSHeadRun.getT s)
theorem seen_eq (s : PySem.W.SharedT) : seen s = hook.obs s.abs := He.obsZ_eq (HandSHeadRun.getT_eq s)
def loose : List PySem.Str := [("__name__" : PySem.Str), ("LaneError" : PySem.Str), ("BadProgram" : PySem.Str), ("BadSizes" : PySem.Str), ("BadGiven" : PySem.Str), ("BadTurn" : PySem.Str), ("BadPlan" : PySem.Str), ("BadKernel" : PySem.Str), ("BadPaper" : PySem.Str), ("BadLine" : PySem.Str), ("BadSchedule" : PySem.Str), ("Lack" : PySem.Str), ("NoSuch" : PySem.Str), ("Gone" : PySem.Str), ("Cant" : PySem.Str), ("Unsafe" : PySem.Str), ("Unfit" : PySem.Str), ("Full" : PySem.Str), ("BadKind" : PySem.Str), ("BadNumber" : PySem.Str), ("_law_mixed" : PySem.Str), ("_law_take" : PySem.Str), ("_law_of" : PySem.Str), ("_law_words" : PySem.Str), ("_law_kinds" : PySem.Str), ("_law_thing_by" : PySem.Str), ("_law_lines" : PySem.Str), ("_law_fields" : PySem.Str)]
theorem run (w : World) : HandSHeadRun.RunEq Rw (PySem.W.view Rw.prog [29]) hook seen 30000 loose w := by
  intro os
  kernel_rfl
structure All (K : PySem.W.Frag) (mg : Str → Option Value) where
  fx : Fx K mg
  nx : Nx K mg (He.ga K)
theorem facts {K : PySem.W.Frag} {h : Heap} {mg : Str → Option Value} (X : K.In h) (G : h.Ns mainGlobals mg) (c : He.SaysD fal fnl K) (ex : exB K = true) : ∃ al : All K mg, True := by
  obtain ⟨fd_l_mixed, F_l_mixed⟩ := c.def_ 0 (d := dd_l_mixed) rfl
  obtain ⟨fd_l_take, F_l_take⟩ := c.def_ 1 (d := dd_l_take) rfl
  obtain ⟨fd_l_of, F_l_of⟩ := c.def_ 2 (d := dd_l_of) rfl
  obtain ⟨fd_l_words, F_l_words⟩ := c.def_ 3 (d := dd_l_words) rfl
  obtain ⟨fd_l_kinds, F_l_kinds⟩ := c.def_ 4 (d := dd_l_kinds) rfl
  obtain ⟨fd_l_thing_by, F_l_thing_by⟩ := c.def_ 5 (d := dd_l_thing_by) rfl
  obtain ⟨fd_l_lines, F_l_lines⟩ := c.def_ 6 (d := dd_l_lines) rfl
  obtain ⟨fd_l_fields, F_l_fields⟩ := c.def_ 7 (d := dd_l_fields) rfl
  obtain ⟨fd_law, F_law⟩ := c.def_ 8 (d := dd_law) rfl
  obtain ⟨fdi_BadProgram, Fi_BadProgram⟩ := c.def_ 9 (d := dd_init_BadProgram) rfl
  obtain ⟨fdi_BadSizes, Fi_BadSizes⟩ := c.def_ 10 (d := dd_init_BadSizes) rfl
  obtain ⟨fdi_BadGiven, Fi_BadGiven⟩ := c.def_ 11 (d := dd_init_BadGiven) rfl
  obtain ⟨fdi_BadTurn, Fi_BadTurn⟩ := c.def_ 12 (d := dd_init_BadTurn) rfl
  obtain ⟨fdi_BadPlan, Fi_BadPlan⟩ := c.def_ 13 (d := dd_init_BadPlan) rfl
  obtain ⟨fdi_BadKernel, Fi_BadKernel⟩ := c.def_ 14 (d := dd_init_BadKernel) rfl
  obtain ⟨fdi_BadPaper, Fi_BadPaper⟩ := c.def_ 15 (d := dd_init_BadPaper) rfl
  obtain ⟨fdi_BadLine, Fi_BadLine⟩ := c.def_ 16 (d := dd_init_BadLine) rfl
  obtain ⟨fdi_BadSchedule, Fi_BadSchedule⟩ := c.def_ 17 (d := dd_init_BadSchedule) rfl
  obtain ⟨fdi_NoSuch, Fi_NoSuch⟩ := c.def_ 18 (d := dd_init_NoSuch) rfl
  obtain ⟨fdi_Unsafe, Fi_Unsafe⟩ := c.def_ 19 (d := dd_init_Unsafe) rfl
  obtain ⟨fdi_Unfit, Fi_Unfit⟩ := c.def_ 20 (d := dd_init_Unfit) rfl
  obtain ⟨fdi_Full, Fi_Full⟩ := c.def_ 21 (d := dd_init_Full) rfl
  obtain ⟨fdi_BadKind, Fi_BadKind⟩ := c.def_ 22 (d := dd_init_BadKind) rfl
  obtain ⟨fdi_BadNumber, Fi_BadNumber⟩ := c.def_ 23 (d := dd_init_BadNumber) rfl
  obtain ⟨e_x_BadProgram, ex⟩ := He.ba ex
  obtain ⟨e_i_BadProgram, ex⟩ := He.ba ex
  obtain ⟨e_x_BadSizes, ex⟩ := He.ba ex
  obtain ⟨e_i_BadSizes, ex⟩ := He.ba ex
  obtain ⟨e_x_BadGiven, ex⟩ := He.ba ex
  obtain ⟨e_i_BadGiven, ex⟩ := He.ba ex
  obtain ⟨e_x_BadTurn, ex⟩ := He.ba ex
  obtain ⟨e_i_BadTurn, ex⟩ := He.ba ex
  obtain ⟨e_x_BadPlan, ex⟩ := He.ba ex
  obtain ⟨e_i_BadPlan, ex⟩ := He.ba ex
  obtain ⟨e_x_BadKernel, ex⟩ := He.ba ex
  obtain ⟨e_i_BadKernel, ex⟩ := He.ba ex
  obtain ⟨e_x_BadPaper, ex⟩ := He.ba ex
  obtain ⟨e_i_BadPaper, ex⟩ := He.ba ex
  obtain ⟨e_x_BadLine, ex⟩ := He.ba ex
  obtain ⟨e_i_BadLine, ex⟩ := He.ba ex
  obtain ⟨e_x_BadSchedule, ex⟩ := He.ba ex
  obtain ⟨e_i_BadSchedule, ex⟩ := He.ba ex
  obtain ⟨e_x_NoSuch, ex⟩ := He.ba ex
  obtain ⟨e_i_NoSuch, ex⟩ := He.ba ex
  obtain ⟨e_x_Unsafe, ex⟩ := He.ba ex
  obtain ⟨e_i_Unsafe, ex⟩ := He.ba ex
  obtain ⟨e_x_Unfit, ex⟩ := He.ba ex
  obtain ⟨e_i_Unfit, ex⟩ := He.ba ex
  obtain ⟨e_x_Full, ex⟩ := He.ba ex
  obtain ⟨e_i_Full, ex⟩ := He.ba ex
  obtain ⟨e_x_BadKind, ex⟩ := He.ba ex
  obtain ⟨e_i_BadKind, ex⟩ := He.ba ex
  obtain ⟨e_x_BadNumber, ex⟩ := He.ba ex
  obtain ⟨e_i_BadNumber, ex⟩ := He.ba ex
  obtain ⟨e_l_Cant, ex⟩ := He.ba ex
  obtain ⟨e_l_Lack, ex⟩ := He.ba ex
  obtain ⟨e_l_LaneError, ex⟩ := He.ba ex
  obtain ⟨e_v_IndexError, ex⟩ := He.ba ex
  obtain ⟨e_v_TypeError, ex⟩ := He.ba ex
  obtain ⟨e_xg, ex⟩ := He.ba ex
  obtain ⟨e_kg, ex⟩ := He.ba ex
  obtain ⟨e_sm, ex⟩ := He.ba ex
  obtain ⟨e_xq, ex⟩ := He.ba ex
  obtain ⟨e_ko, ex⟩ := He.ba ex
  obtain ⟨e_kb, ex⟩ := He.ba ex
  have e_ff := ex
  let fx : Fx K mg := ⟨_, fd_l_mixed, F_l_mixed, He.glo_ok X G (c.fact 0 (f := .glo "_law_mixed") rfl), _, fd_l_take, F_l_take, He.glo_ok X G (c.fact 1 (f := .glo "_law_take") rfl), _, fd_l_of, F_l_of, He.glo_ok X G (c.fact 2 (f := .glo "_law_of") rfl), _, fd_l_words, F_l_words, He.glo_ok X G (c.fact 3 (f := .glo "_law_words") rfl), _, fd_l_kinds, F_l_kinds, He.glo_ok X G (c.fact 4 (f := .glo "_law_kinds") rfl), _, fd_l_thing_by, F_l_thing_by, He.glo_ok X G (c.fact 5 (f := .glo "_law_thing_by") rfl), _, fd_l_lines, F_l_lines, He.glo_ok X G (c.fact 6 (f := .glo "_law_lines") rfl), _, fd_l_fields, F_l_fields, He.glo_ok X G (c.fact 7 (f := .glo "_law_fields") rfl), _, fd_law, F_law, He.glo_ok X G (c.fact 8 (f := .glo "law") rfl), He.free_ok X G (c.fact 9 (f := .free "ArithmeticError") rfl), He.free_ok X G (c.fact 10 (f := .free "Exception") rfl), He.free_ok X G (c.fact 11 (f := .free "IndexError") rfl), He.free_ok X G (c.fact 12 (f := .free "KeyError") rfl), He.free_ok X G (c.fact 13 (f := .free "LookupError") rfl), He.free_ok X G (c.fact 14 (f := .free "OverflowError") rfl), He.free_ok X G (c.fact 15 (f := .free "RuntimeError") rfl), He.free_ok X G (c.fact 16 (f := .free "TypeError") rfl), He.free_ok X G (c.fact 17 (f := .free "ValueError") rfl), He.free_ok X G (c.fact 18 (f := .free "ZeroDivisionError") rfl), He.free_ok X G (c.fact 19 (f := .free "isinstance") rfl), He.free_ok X G (c.fact 20 (f := .free "len") rfl), He.free_ok X G (c.fact 21 (f := .free "list") rfl), He.free_ok X G (c.fact 22 (f := .free "min") rfl), He.free_ok X G (c.fact 23 (f := .free "range") rfl), He.free_ok X G (c.fact 24 (f := .free "repr") rfl), He.free_ok X G (c.fact 25 (f := .free "zip") rfl)⟩
  obtain ⟨i1_BadProgram, i2_BadProgram, i3_BadProgram⟩ := He.xiB_ok e_i_BadProgram
  obtain ⟨i1_BadSizes, i2_BadSizes, i3_BadSizes⟩ := He.xiB_ok e_i_BadSizes
  obtain ⟨i1_BadGiven, i2_BadGiven, i3_BadGiven⟩ := He.xiB_ok e_i_BadGiven
  obtain ⟨i1_BadTurn, i2_BadTurn, i3_BadTurn⟩ := He.xiB_ok e_i_BadTurn
  obtain ⟨i1_BadPlan, i2_BadPlan, i3_BadPlan⟩ := He.xiB_ok e_i_BadPlan
  obtain ⟨i1_BadKernel, i2_BadKernel, i3_BadKernel⟩ := He.xiB_ok e_i_BadKernel
  obtain ⟨i1_BadPaper, i2_BadPaper, i3_BadPaper⟩ := He.xiB_ok e_i_BadPaper
  obtain ⟨i1_BadLine, i2_BadLine, i3_BadLine⟩ := He.xiB_ok e_i_BadLine
  obtain ⟨i1_BadSchedule, i2_BadSchedule, i3_BadSchedule⟩ := He.xiB_ok e_i_BadSchedule
  obtain ⟨i1_NoSuch, i2_NoSuch, i3_NoSuch⟩ := He.xiB_ok e_i_NoSuch
  obtain ⟨i1_Unsafe, i2_Unsafe, i3_Unsafe⟩ := He.xiB_ok e_i_Unsafe
  obtain ⟨i1_Unfit, i2_Unfit, i3_Unfit⟩ := He.xiB_ok e_i_Unfit
  obtain ⟨i1_Full, i2_Full, i3_Full⟩ := He.xiB_ok e_i_Full
  obtain ⟨i1_BadKind, i2_BadKind, i3_BadKind⟩ := He.xiB_ok e_i_BadKind
  obtain ⟨i1_BadNumber, i2_BadNumber, i3_BadNumber⟩ := He.xiB_ok e_i_BadNumber
  obtain ⟨y1_Cant, y2_Cant, y3_Cant⟩ := He.xlB_ok e_l_Cant
  obtain ⟨y1_Lack, y2_Lack, y3_Lack⟩ := He.xlB_ok e_l_Lack
  obtain ⟨y1_LaneError, y2_LaneError, y3_LaneError⟩ := He.xlB_ok e_l_LaneError
  let nx : Nx K mg (He.ga K) := ⟨_, fdi_BadProgram, Fi_BadProgram, He.xcB_ok e_x_BadProgram, i1_BadProgram, i2_BadProgram, _, fdi_BadSizes, Fi_BadSizes, He.xcB_ok e_x_BadSizes, i1_BadSizes, i2_BadSizes, _, fdi_BadGiven, Fi_BadGiven, He.xcB_ok e_x_BadGiven, i1_BadGiven, i2_BadGiven, _, fdi_BadTurn, Fi_BadTurn, He.xcB_ok e_x_BadTurn, i1_BadTurn, i2_BadTurn, _, fdi_BadPlan, Fi_BadPlan, He.xcB_ok e_x_BadPlan, i1_BadPlan, i2_BadPlan, _, fdi_BadKernel, Fi_BadKernel, He.xcB_ok e_x_BadKernel, i1_BadKernel, i2_BadKernel, _, fdi_BadPaper, Fi_BadPaper, He.xcB_ok e_x_BadPaper, i1_BadPaper, i2_BadPaper, _, fdi_BadLine, Fi_BadLine, He.xcB_ok e_x_BadLine, i1_BadLine, i2_BadLine, _, fdi_BadSchedule, Fi_BadSchedule, He.xcB_ok e_x_BadSchedule, i1_BadSchedule, i2_BadSchedule, _, fdi_NoSuch, Fi_NoSuch, He.xcB_ok e_x_NoSuch, i1_NoSuch, i2_NoSuch, _, fdi_Unsafe, Fi_Unsafe, He.xcB_ok e_x_Unsafe, i1_Unsafe, i2_Unsafe, _, fdi_Unfit, Fi_Unfit, He.xcB_ok e_x_Unfit, i1_Unfit, i2_Unfit, _, fdi_Full, Fi_Full, He.xcB_ok e_x_Full, i1_Full, i2_Full, _, fdi_BadKind, Fi_BadKind, He.xcB_ok e_x_BadKind, i1_BadKind, i2_BadKind, _, fdi_BadNumber, Fi_BadNumber, He.xcB_ok e_x_BadNumber, i1_BadNumber, i2_BadNumber, y1_Cant, y2_Cant, y3_Cant, y1_Lack, y2_Lack, y3_Lack, y1_LaneError, y2_LaneError, y3_LaneError, He.xvB_ok e_v_IndexError, He.free_ok X G (c.fact 11 (f := .free "IndexError") rfl), He.xvB_ok e_v_TypeError, He.free_ok X G (c.fact 16 (f := .free "TypeError") rfl), He.glo_ok X G (c.fact 26 (f := .glo "BadGiven") rfl), He.glo_ok X G (c.fact 27 (f := .glo "BadKernel") rfl), He.glo_ok X G (c.fact 28 (f := .glo "BadKind") rfl), He.glo_ok X G (c.fact 29 (f := .glo "BadLine") rfl), He.glo_ok X G (c.fact 30 (f := .glo "BadNumber") rfl), He.glo_ok X G (c.fact 31 (f := .glo "BadPaper") rfl), He.glo_ok X G (c.fact 32 (f := .glo "BadPlan") rfl), He.glo_ok X G (c.fact 33 (f := .glo "BadProgram") rfl), He.glo_ok X G (c.fact 34 (f := .glo "BadSchedule") rfl), He.glo_ok X G (c.fact 35 (f := .glo "BadSizes") rfl), He.glo_ok X G (c.fact 36 (f := .glo "BadTurn") rfl), He.glo_ok X G (c.fact 37 (f := .glo "Cant") rfl), He.glo_ok X G (c.fact 38 (f := .glo "Full") rfl), He.glo_ok X G (c.fact 39 (f := .glo "Gone") rfl), He.glo_ok X G (c.fact 40 (f := .glo "Lack") rfl), He.glo_ok X G (c.fact 41 (f := .glo "LaneError") rfl), He.glo_ok X G (c.fact 42 (f := .glo "NoSuch") rfl), He.glo_ok X G (c.fact 43 (f := .glo "Unfit") rfl), He.glo_ok X G (c.fact 44 (f := .glo "Unsafe") rfl), e_xg, e_kg, e_sm, fun c m => He.xqB_ok (List.all_eq_true.mp e_xq c m), fun c m t mt => of_decide_eq_true (List.all_eq_true.mp (List.all_eq_true.mp e_ko c m) t mt), fun c m t mt => of_decide_eq_true (List.all_eq_true.mp (List.all_eq_true.mp e_kb c m) t mt), fun p m => He.eqO_ok (List.all_eq_true.mp e_ff p m)⟩
  exact ⟨⟨fx, nx⟩, trivial⟩
end K2
open PySem PySem.W PySem.Calls PyProof.Rows
theorem K2.holds_of (good : K2.Good) : PySem.Challenge.rw_lanewright_k02_families_of_refusals.Holds := by
  w_on; o_law
  refine HandSHeadRun.head_any (r := OpenLaw.row PySem.Challenge.rw_lanewright_k02_families_of_refusals) (q := view (OpenLaw.row PySem.Challenge.rw_lanewright_k02_families_of_refusals).prog [29]) (H := K2.hook) (ob := K2.seen) (M := 30000) (loose := K2.loose) (d := HandSHeadRun.topDef (OpenLaw.row PySem.Challenge.rw_lanewright_k02_families_of_refusals).prog 29) (kwd := []) K2.seen_eq
    (by kernel_rfl) (fun s => by kernel_rfl) K2.run (by kernel_rfl) (by kernel_rfl) (by kernel_rfl) (by rfl) (by first | assumption | decide +kernel) (by decide +kernel) ⟨rfl, rfl, rfl, rfl, rfl, by decide +kernel⟩ ?hw ?hc
  case hw => w_witness2
  case hc =>
    refine Dv.walk_law (l := PySem.Challenge.rw_lanewright_k02_families_of_refusals) (n := 63) (k := 5) (x := "_law_script") rfl (by decide) (by kernel_rfl) ⟨rfl, by decide, by decide⟩ ?F
    intro w mg fa h Y G hm
    obtain ⟨K, KX, c, ex⟩ := Y
    have hm' : mg ("law" : PySem.Str) = some (.ref fa) := by
      have e : (HandSHeadRun.topDef (OpenLaw.row PySem.Challenge.rw_lanewright_k02_families_of_refusals).prog 29).name = ("law" : PySem.Str) := by kernel_rfl
      rw [← e]
      exact hm
    obtain ⟨al, _⟩ := K2.facts KX G c ex
    have e := hm'.symm.trans al.fx.g_law
    cases e
    have b := L2.FunD.bindsA (ps := ["_law_script"]) al.fx.F_law fun _ _ _ _ _ _ us hl => match us, hl with | [_], _ => rfl
    exact ⟨K, al.fx.fd_law, K2.spLaw K, KX, fun s v => b s [v] rfl, fun H a ns hl _ lk => ⟨a, ns, rfl, hl, lk, fun _ => rfl⟩, fun base _ _ => K2.ok_law al.fx al.nx good⟩
end
theorem PySem.Challenge.cw_lanewright_k02_families_of_refusals_holds : PySem.Challenge.rw_lanewright_k02_families_of_refusals.Holds := by
  exact K2.holds_of K2.good
